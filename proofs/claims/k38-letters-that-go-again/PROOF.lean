import PyProof.Rows.All
import Wide.All
import OpenK.AllK
import Wide.FinOn
import HandS.ForMost
import KE.KDictKeyed
import HandS.Wide
import HandS.TupAny
import KE.DataEq
import KE.DataFind
import HandS.IsInst
import HandS.SortInts
import HandS.Zip
import HandS.Defaults
import KE.SortData
import HandS.Style
import HandS.MakeKwOnly
import KE.KUnpackStar
import PyProof.MakeMany
import HandS.SetFor
import HandS.Strs
import KE.DataCmp
import HandS.DictTup
import HandS.TupLen
import HandS.WordsDict
import HandS.Iter
import HandS.OwnEq
import OpenK.KOps
import HandS.Conv
import HandS.DictSubView
import HandS.Ends
import PyProof.ReprRoads
import PyProof.ReprLen
import HandS.RaiseMore
import HandS.ListItems
import HandS.Dict
import KE.GoesEnum
import HandS.Zip0
import HandS.Text
import KE.KDictZip
import KE.KItemsList
import PyProof.Seq
import HandS.SetKeys
import HandS.Flow
import HandS.More
import KE.GoesMore
import HandS.DictComp
import HandS.Exc
import HandS.TupMul
import HandS.SetTxt0
import HandS.Sort
import KE.KDictPairs
import HandS.DeepEq
import PyProof.NeKinds
import KE.KDictItemsList
import PySem.Challenge.RW_grantchain_k38_letters_that_go_again
set_option Elab.async false
set_option linter.all false
set_option maxRecDepth 100000
set_option maxHeartbeats 1000000
namespace Fn
open PySem PySem.Spec PyProof.Rows L2
abbrev Txt := List Nat
def l2s (l : List Nat) : Str := ⟨l.toArray⟩
def s2l (x : Str) : List Nat := x.cps.toList
theorem l2s_s2l (x : Str) : l2s (s2l x) = x := by cases x with | mk c => simp [l2s, s2l]
theorem s2l_l2s (l : List Nat) : s2l (l2s l) = l := by simp [l2s, s2l]
theorem l2s_inj {a b : List Nat} (h : l2s a = l2s b) : a = b := by have := congrArg s2l h; rwa [s2l_l2s, s2l_l2s] at this
/-- a key of a dict -/
abbrev KK := Sum Int (List Nat)
def kk : KK → Key
  | .inl i => .inl i
  | .inr l => .inr (l2s l)
theorem kk_inj {a b : KK} (h : kk a = kk b) : a = b := by
  cases a <;> cases b
  · exact congrArg Sum.inl (Sum.inl.inj h)
  · cases h
  · cases h
  · exact congrArg Sum.inr (l2s_inj (Sum.inr.inj h))
/-- a key of a dict whose keys are nested tuples -/
inductive NK where
  | int (i : Int) | str (x : List Nat) | non | tup (l : List NK)
mutual
def nk : NK → NestedKey
  | .int i => .num i
  | .str x => .text (l2s x)
  | .non => .none
  | .tup l => .tup (nkL l)
def nkL : List NK → List NestedKey
  | [] => []
  | k :: r => nk k :: nkL r
end
mutual
theorem nk_inj : ∀ (a b : NK), nk a = nk b → a = b
  | .int i, b, h => by cases b <;> simp only [nk, NestedKey.num.injEq, reduceCtorEq] at h; rw [h]
  | .str x, b, h => by cases b <;> simp only [nk, NestedKey.text.injEq, reduceCtorEq] at h; rw [l2s_inj h]
  | .non, b, h => by cases b <;> simp only [nk, reduceCtorEq] at h; rfl
  | .tup l, b, h => by cases b <;> simp only [nk, NestedKey.tup.injEq, reduceCtorEq] at h; rw [nkL_inj _ _ h]
theorem nkL_inj : ∀ (a b : List NK), nkL a = nkL b → a = b
  | [], b, h => by cases b <;> simp only [nkL, reduceCtorEq] at h; rfl
  | x :: a, b, h => by
    cases b with
    | nil => simp only [nkL, reduceCtorEq] at h
    | cons y b => simp only [nkL, List.cons.injEq] at h; rw [nk_inj _ _ h.1, nkL_inj _ _ h.2]
end
instance : DecidableEq NK := fun a b => decidable_of_iff (nk a = nk b) ⟨nk_inj a b, fun e => by rw [e]⟩
/-- a value: what never changes is a tree; a changing object is a cell of the memory -/
inductive D where
  | non | bl (b : Bool) | int (i : Int) | str (x : List Nat) | tup (l : List D) | lst (l : List D) | fz (l : List D) | ref (i : Nat) | ct (l : List D)
inductive Cell where
  | lst (l : List D)
  | dk (lk : Bool) (kvs : List (KK × D))
  | dt (lk : Bool) (kvs : List (List KK × D))
  | dn (lk : Bool) (kvs : List (NK × D))
  | ins (c : Nat) (fs : List (Str × D))
abbrev Mem := List Cell
abbrev Env := List (Option D)
inductive R (α : Type) where
  | ok (a : α) (m : Mem)
  | ex (c : Nat) (fs : List (Str × D)) (m : Mem)
  | no
def R.bind {α β : Type} (r : R α) (k : α → Mem → R β) : R β := match r with
  | .ok a m => k a m
  | .ex c fs m => .ex c fs m
  | .no => .no
@[simp] theorem R.bind_ok {α β : Type} (a : α) (m : Mem) (k : α → Mem → R β) : (R.ok a m).bind k = k a m := rfl
@[simp] theorem R.bind_ex {α β : Type} (c : Nat) (fs : List (Str × D)) (m : Mem) (k : α → Mem → R β) : (R.ex c fs m : R α).bind k = .ex c fs m := rfl
@[simp] theorem R.bind_no {α β : Type} (k : α → Mem → R β) : (R.no : R α).bind k = .no := rfl
/-- the world of addresses: the cells', and hidden ones -/
structure Wd where
  as : List Addr
  hd : List Addr
/-- the context: the written part, the classes -/
structure Gx where
  K : PySem.W.Frag
  cl : Nat → Addr
  w : World
section
variable (G : Gx) (W : Wd) (H : Hp)
def InK (a : Addr) (us : List V) : Prop := ∃ (o : Obj) (its : Array Value) (n : Nat), G.K.lookup a = some o ∧ o.cls = .type "list" ∧ o.dict = none ∧ o.data = .seq its n ∧ its.size ≤ sizeLine ∧ Vals us its.toList
def LstAt (a : Addr) (us : List V) : Prop := H a = some (.lst us) ∧ a ∉ W.as ∧ a ∉ W.hd
def FzAt (a : Addr) (us : List V) : Prop := (∃ o, H a = some (.frz o (.lst us))) ∨ InK G a us
/-- a tuple of which is known that it has no dict of its own -/
def CtAt (a : Addr) (us : List V) : Prop := ∃ o, H a = some (.frz o (.tup us)) ∧ o.dict = none
/-- a tuple of the heap (so it may be a key); an empty one may be written -/
def TupAt (a : Addr) (l : List D) (us : List V) : Prop := H a = some (.tup us) ∨ (l = [] ∧ SqT G.K H a us)
mutual
def Rp : D → V → Prop
  | .non, u => u = .non
  | .bl b, u => u = .bl b
  | .int i, u => u = .int i
  | .str x, u => u = .str (l2s x)
  | .tup l, u => ∃ a us, u = .ref a ∧ TupAt G H a l us ∧ RpL l us
  | .lst l, u => ∃ a us, u = .ref a ∧ LstAt W H a us ∧ RpL l us
  | .fz l, u => ∃ a us, u = .ref a ∧ FzAt G H a us ∧ RpL l us
  | .ref i, u => ∃ a, W.as[i]? = some a ∧ u = .ref a
  | .ct l, u => ∃ a us, u = .ref a ∧ CtAt H a us ∧ RpL l us
def RpL : List D → List V → Prop
  | [], us => us = []
  | d :: r, us => ∃ u us', us = u :: us' ∧ Rp d u ∧ RpL r us'
end
theorem CtAt.sq {K : PySem.W.Frag} {H : Hp} {a : Addr} {us : List V} (h : CtAt H a us) : SqT K H a us := by
  obtain ⟨o, h, _⟩ := h
  exact .inl (.inr ⟨o, h⟩)
theorem TupAt.sq {G : Gx} {H : Hp} {a : Addr} {l : List D} {us : List V} (h : TupAt G H a l us) : SqT G.K H a us := by
  rcases h with h | h
  · exact .inl (.inl h)
  · exact h.2
def RpK {κ κ' : Type} (f : κ → κ') : List (κ × D) → List (κ' × V) → Prop := Paired fun p q => f p.1 = q.1 ∧ Rp G W H p.2 q.2
def nkEntry (w : World) (x : NestedKey × Addr × Value) : DictEntry := ⟨x.1.hash w, .ref x.2.1, x.2.2⟩
/-- a dict with nested tuples as keys: the keys, where they stand, the values -/
def NdO (w : World) (a : Addr) (es : List (NestedKey × Addr × V)) : HO := .ext fun h => es.length ≤ sizeLine ∧ (a == sysModules) = false ∧
  ∃ xs : List (NestedKey × Addr × Value), Paired (fun (p : NestedKey × Addr × V) (q : NestedKey × Addr × Value) => p.1 = q.1 ∧ p.2.1 = q.2.1 ∧ RelV p.2.2 q.2.2) es xs ∧
  ∃ o arr ep, h.get? a = some o ∧ o.ExactDict ∧ o.data = .dict arr ep ∧ arr.toList = xs.map (nkEntry w) ∧ (xs.map (·.1)).Nodup
mutual
/-- at the value stands the key -/
def NkAt (H : Hp) : NK → V → Prop
  | .int i, u => u = .int i
  | .str x, u => u = .str (l2s x)
  | .non, u => u = .non
  | .tup l, u => ∃ a us, u = .ref a ∧ H a = some (.tup us) ∧ NkAtL H l us
def NkAtL (H : Hp) : List NK → List V → Prop
  | [], us => us = []
  | k :: r, us => ∃ u us', us = u :: us' ∧ NkAt H k u ∧ NkAtL H r us'
end
mutual
def nkDep : NK → Nat
  | .tup l => nkDepL l + 1
  | _ => 0
def nkDepL : List NK → Nat
  | [] => 0
  | k :: r => max (nkDep k) (nkDepL r)
end
def RpN : List (NK × D) → List (NestedKey × Addr × V) → Prop := Paired fun p q => nk p.1 = q.1 ∧ nkDep p.1 ≤ 8 ∧ NkAt H p.1 (.ref q.2.1) ∧ Rp G W H p.2 q.2.2
def CellOk (a : Addr) : Cell → Prop
  | .lst l => ∃ us, H a = some (.lst us) ∧ RpL G W H l us
  | .dk lk kvs => ∃ vs, (if lk = true then ∃ o, H a = some (.frz o (.dK vs)) else H a = some (.dK vs)) ∧ RpK G W H kk kvs vs
  | .dt lk kvs => ∃ vs, (if lk = true then ∃ o, H a = some (.frz o (.dT vs)) else H a = some (.dT vs)) ∧ RpK G W H (List.map kk) kvs vs
  | .dn lk kvs => ∃ es, (if lk = true then ∃ o, H a = some (.frz o (NdO G.w a es)) else H a = some (NdO G.w a es)) ∧ RpN G W H kvs es
  | .ins c fs => ∃ dx vs, H a = some (.ins (G.cl c) dx vs) ∧ RpK G W H id fs vs
structure MemOk (M : Mem) : Prop where
  len : W.as.length = M.length
  nd : W.as.Nodup
  cell : ∀ (i : Nat) c a, M[i]? = some c → W.as[i]? = some a → CellOk G W H a c
  apart : ∀ a ∈ W.as, a ∉ W.hd
  hid : ∀ a ∈ W.hd, ∃ o, H a = some o
def EnvOk (env : Env) (σ : L2.St) : Prop := env.length = σ.length ∧ ∀ (i : Nat) d, env[i]? = some (some d) → ∃ u, σ[i]? = some (some u) ∧ Rp G W H d u
end
/-- the heap goes on -/
structure Fut (W : Wd) (H : Hp) (W' : Wd) (H' : Hp) : Prop where
  ext : ∃ new, W'.as = W.as ++ new ∧ ∀ a ∈ new, H a = none ∧ a ∉ W.as
  hd : W'.hd = W.hd
  keep : ∀ a o, H a = some o → a ∉ W.as → H' a = some o
  lk : ∀ a od u, H a = some (.frz od u) → H' a = some (.frz od u)
theorem Fut.rfl' {W : Wd} {H : Hp} : Fut W H W H := ⟨⟨[], by simp, by simp⟩, rfl, fun _ _ e _ => e, fun _ _ _ e => e⟩
theorem Fut.nin {W W1 : Wd} {H H1 : Hp} (a : Fut W H W1 H1) {x : Addr} {o : HO} (e : H x = some o) (hx : x ∉ W.as) : x ∉ W1.as := by
  obtain ⟨n1, e1, f1⟩ := a.ext
  rw [e1]
  intro z
  rcases List.mem_append.mp z with z | z
  · exact hx z
  · rw [(f1 x z).1] at e; cases e
theorem Fut.nhd {W W1 : Wd} {H H1 : Hp} (a : Fut W H W1 H1) {x : Addr} {o : HO} (e : H x = some o) (hx : x ∉ W.hd) : x ∉ W1.hd := by rw [a.hd]; exact hx
theorem Fut.old {W W1 : Wd} {H H1 : Hp} (a : Fut W H W1 H1) {x : Addr} (h1 : H1 x = none) (hx : x ∉ W.as) : H x = none := by
  cases q : H x with
  | none => rfl
  | some o =>
    have := a.keep x o q hx
    rw [h1] at this; cases this
theorem Fut.sub {W W1 : Wd} {H H1 : Hp} (a : Fut W H W1 H1) {x : Addr} (hx : x ∉ W1.as) : x ∉ W.as := fun zz => by
  obtain ⟨n1, e1, f1⟩ := a.ext
  exact hx (by rw [e1]; exact List.mem_append_left _ zz)
theorem Fut.trans {W W1 W2 : Wd} {H H1 H2 : Hp} (a : Fut W H W1 H1) (b : Fut W1 H1 W2 H2) : Fut W H W2 H2 := by
  obtain ⟨n1, e1, f1⟩ := a.ext
  obtain ⟨n2, e2, f2⟩ := b.ext
  refine ⟨⟨n1 ++ n2, by rw [e2, e1, List.append_assoc], fun x hx => ?_⟩, b.hd.trans a.hd, fun x o e hx => b.keep x o (a.keep x o e hx) (a.nin e hx), fun x od u e => b.lk x od u (a.lk x od u e)⟩
  · rcases List.mem_append.mp hx with z | z
    · exact f1 x z
    · have n1' := a.sub (f2 x z).2
      exact ⟨a.old (f2 x z).1 n1', n1'⟩
theorem Fut.get {W W1 : Wd} {H H1 : Hp} (a : Fut W H W1 H1) {i : Nat} {x : Addr} (h : W.as[i]? = some x) : W1.as[i]? = some x := by
  obtain ⟨n1, e1, _⟩ := a.ext
  rw [e1]
  rw [List.getElem?_append_left]
  · exact h
  · have := List.getElem?_eq_some_iff.mp h
    exact this.1
theorem LstAt.fut {W W' : Wd} {H H' : Hp} (f : Fut W H W' H') {a : Addr} {us : List V} (h : LstAt W H a us) : LstAt W' H' a us :=
  ⟨f.keep _ _ h.1 h.2.1, f.nin h.1 h.2.1, f.nhd h.1 h.2.2⟩
/-- what is a tuple, or a frozen list -/
def Still (o : HO) : Prop := match o with
  | .tup _ => True
  | .frz _ (.tup _) => True
  | .frz _ (.lst _) => True
  | _ => False
/-- no cell is a tuple -/
theorem MemOk.nt {G : Gx} {W : Wd} {H : Hp} {M : Mem} (m : MemOk G W H M) : ∀ a o, H a = some o → Still o → a ∉ W.as := by
  intro a o h st ha
  obtain ⟨i, hi⟩ := List.getElem?_of_mem ha
  have hl : i < M.length := by
    rw [← m.len]
    exact (List.getElem?_eq_some_iff.mp hi).1
  have c := m.cell i _ a (List.getElem?_eq_getElem hl) hi
  cases e : M[i] with
  | lst l =>
    rw [e] at c
    obtain ⟨vs, q, _⟩ := c
    rw [h] at q; cases q; exact st
  | dk lk kvs =>
    rw [e] at c
    obtain ⟨vs, q, _⟩ := c
    cases lk
    · have q' : H a = some (.dK vs) := q
      rw [h] at q'; cases q'; exact st
    · obtain ⟨o', q'⟩ : ∃ o, H a = some (.frz o (.dK vs)) := q
      rw [h] at q'; cases q'; exact st
  | dt lk kvs =>
    rw [e] at c
    obtain ⟨vs, q, _⟩ := c
    cases lk
    · have q' : H a = some (.dT vs) := q
      rw [h] at q'; cases q'; exact st
    · obtain ⟨o', q'⟩ : ∃ o, H a = some (.frz o (.dT vs)) := q
      rw [h] at q'; cases q'; exact st
  | dn lk kvs =>
    rw [e] at c
    obtain ⟨vs, q, _⟩ := c
    cases lk
    · have q' : H a = some (NdO G.w a vs) := q
      rw [h] at q'; cases q'; exact st
    · obtain ⟨o', q'⟩ : ∃ o, H a = some (.frz o (NdO G.w a vs)) := q
      rw [h] at q'; cases q'; exact st
  | ins c0 fs =>
    rw [e] at c
    obtain ⟨dx, vs, q, _⟩ := c
    rw [h] at q; cases q; exact st
/-- what makes a value's form stay -/
structure Kp (W : Wd) (H : Hp) (W' : Wd) (H' : Hp) : Prop where
  get : ∀ (i : Nat) a, W.as[i]? = some a → W'.as[i]? = some a
  keep : ∀ a o, H a = some o → a ∉ W.as → a ∉ W.hd → H' a = some o
  still : ∀ a o, H a = some o → Still o → H' a = some o
  out : ∀ a o, H a = some o → a ∉ W.as → a ∉ W.hd → a ∉ W'.as ∧ a ∉ W'.hd
theorem Kp.trans {W W1 W2 : Wd} {H H1 H2 : Hp} (a : Kp W H W1 H1) (b : Kp W1 H1 W2 H2) : Kp W H W2 H2 :=
  ⟨fun i x h => b.get i x (a.get i x h), fun x o e h1 h2 => b.keep x o (a.keep x o e h1 h2) (a.out x o e h1 h2).1 (a.out x o e h1 h2).2, fun x o e st => b.still x o (a.still x o e st) st,
   fun x o e h1 h2 => b.out x o (a.keep x o e h1 h2) (a.out x o e h1 h2).1 (a.out x o e h1 h2).2⟩
theorem Fut.kp {G : Gx} {W W' : Wd} {H H' : Hp} {M : Mem} (f : Fut W H W' H') (m : MemOk G W H M) : Kp W H W' H' :=
  ⟨fun _ _ h => f.get h, fun a o e h1 _ => f.keep a o e h1, fun a o e st => f.keep a o e (m.nt a o e st), fun a o e h1 h2 => ⟨f.nin e h1, f.nhd e h2⟩⟩
mutual
theorem Rp.kp {G : Gx} {W W' : Wd} {H H' : Hp} (k : Kp W H W' H') : ∀ (d : D) (u : V), Rp G W H d u → Rp G W' H' d u
  | .non, u, h => h
  | .bl b, u, h => h
  | .int i, u, h => h
  | .str x, u, h => h
  | .tup l, u, h => by
    obtain ⟨a, us, e, s, r⟩ := h
    refine ⟨a, us, e, ?_, RpL.kp k l us r⟩
    rcases s with s | ⟨h, (s | ⟨o, s⟩) | s⟩
    · exact .inl (k.still _ _ s trivial)
    · exact .inr ⟨h, .inl (.inl (k.still _ _ s trivial))⟩
    · exact .inr ⟨h, .inl (.inr ⟨o, k.still _ _ s trivial⟩)⟩
    · exact .inr ⟨h, .inr s⟩
  | .lst l, u, h => by
    obtain ⟨a, us, e, s, r⟩ := h
    exact ⟨a, us, e, ⟨k.keep _ _ s.1 s.2.1 s.2.2, k.out _ _ s.1 s.2.1 s.2.2⟩, RpL.kp k l us r⟩
  | .fz l, u, h => by
    obtain ⟨a, us, e, s, r⟩ := h
    refine ⟨a, us, e, ?_, RpL.kp k l us r⟩
    rcases s with ⟨o, s⟩ | s
    · exact .inl ⟨o, k.still _ _ s trivial⟩
    · exact .inr s
  | .ref i, u, h => by
    obtain ⟨a, e, r⟩ := h
    exact ⟨a, k.get _ _ e, r⟩
  | .ct l, u, h => by
    obtain ⟨a, us, e, ⟨o, s, z⟩, r⟩ := h
    exact ⟨a, us, e, ⟨o, k.still _ _ s trivial, z⟩, RpL.kp k l us r⟩
theorem RpL.kp {G : Gx} {W W' : Wd} {H H' : Hp} (k : Kp W H W' H') : ∀ (l : List D) (us : List V), RpL G W H l us → RpL G W' H' l us
  | [], us, h => h
  | d :: r, us, h => by
    obtain ⟨u, us', e, h1, h2⟩ := h
    exact ⟨u, us', e, Rp.kp k d u h1, RpL.kp k r us' h2⟩
end
mutual
theorem NkAt.kp {W W' : Wd} {H H' : Hp} (k : Kp W H W' H') : ∀ (d : NK) (u : V), NkAt H d u → NkAt H' d u
  | .int i, u, h => h
  | .str i, u, h => h
  | .non, u, h => h
  | .tup l, u, h => by
    obtain ⟨a, us, e, s, r⟩ := h
    exact ⟨a, us, e, k.still _ _ s trivial, NkAtL.kp k l us r⟩
theorem NkAtL.kp {W W' : Wd} {H H' : Hp} (k : Kp W H W' H') : ∀ (l : List NK) (us : List V), NkAtL H l us → NkAtL H' l us
  | [], us, h => h
  | d :: r, us, h => by
    obtain ⟨u, us', e, h1, h2⟩ := h
    exact ⟨u, us', e, NkAt.kp k d u h1, NkAtL.kp k r us' h2⟩
end
theorem RpN.kp {G : Gx} {W W' : Wd} {H H' : Hp} (k : Kp W H W' H') : ∀ {l : List (NK × D)} {es : List (NestedKey × Addr × V)}, RpN G W H l es → RpN G W' H' l es
  | _, _, .nil => .nil
  | _, _, .cons h t => .cons ⟨h.1, h.2.1, NkAt.kp k _ _ h.2.2.1, Rp.kp k _ _ h.2.2.2⟩ (RpN.kp k t)
theorem MemOk.rp {G : Gx} {W W' : Wd} {H H' : Hp} {M : Mem} (m : MemOk G W H M) (f : Fut W H W' H') {d : D} {u : V} (h : Rp G W H d u) : Rp G W' H' d u := Rp.kp (f.kp m) d u h
theorem MemOk.rpL {G : Gx} {W W' : Wd} {H H' : Hp} {M : Mem} (m : MemOk G W H M) (f : Fut W H W' H') {d : List D} {u : List V} (h : RpL G W H d u) : RpL G W' H' d u := RpL.kp (f.kp m) d u h
theorem EnvOk.fut {G : Gx} {W W' : Wd} {H H' : Hp} {M : Mem} {env : Env} {σ : L2.St} (h : EnvOk G W H env σ) (m : MemOk G W H M) (f : Fut W H W' H') : EnvOk G W' H' env σ :=
  ⟨h.1, fun i d e => let ⟨u, h1, h2⟩ := h.2 i d e; ⟨u, h1, m.rp f h2⟩⟩
theorem EnvOk.kp {G : Gx} {W W' : Wd} {H H' : Hp} {env : Env} {σ : L2.St} (h : EnvOk G W H env σ) (k : Kp W H W' H') : EnvOk G W' H' env σ :=
  ⟨h.1, fun i d e => let ⟨u, h1, h2⟩ := h.2 i d e; ⟨u, h1, Rp.kp k _ _ h2⟩⟩
def XOk (G : Gx) (W : Wd) (H : Hp) (d : Addr) (fs : List (Str × D)) : Prop := ∃ vs, H d = some (.xd vs) ∧ RpK G W H id fs vs
def PX (G : Gx) (W : Wd) (H : Hp) (E : XK) (c : Nat) (fs : List (Str × D)) (m : Mem) : Prop := ∀ W' d H', Fut W H W' H' → MemOk G W' H' m → XOk G W' H' d fs → E (.ref (G.cl c)) (some d) H'
def PR {α : Type} (G : Gx) (W : Wd) (H : Hp) (K : α → Mem → Wd → Hp → Prop) (E : XK) : R α → Prop
  | .ok a m => ∀ W' H', Fut W H W' H' → MemOk G W' H' m → K a m W' H'
  | .ex c fs m => PX G W H E c fs m
  | .no => False
theorem PX.fut {G : Gx} {W W' : Wd} {H H' : Hp} {E : XK} {c : Nat} {fs : List (Str × D)} {m : Mem} (f : Fut W H W' H') (h : PX G W H E c fs m) : PX G W' H' E c fs m := fun W2 d H2 f2 => h W2 d H2 (f.trans f2)
theorem PR.fut {α : Type} {G : Gx} {W W' : Wd} {H H' : Hp} {K : α → Mem → Wd → Hp → Prop} {E : XK} (f : Fut W H W' H') : ∀ {r : R α}, PR G W H K E r → PR G W' H' K E r
  | .ok a m, h => fun W2 H2 f2 => h W2 H2 (f.trans f2)
  | .ex c fs m, h => PX.fut f h
  | .no, h => h
theorem PR.mono {α : Type} {G : Gx} {W : Wd} {H : Hp} {K K' : α → Mem → Wd → Hp → Prop} {E : XK} : ∀ {r : R α}, PR G W H K E r → (∀ a m W' H', Fut W H W' H' → MemOk G W' H' m → K a m W' H' → K' a m W' H') → PR G W H K' E r
  | .ok a m, h, k => fun W2 H2 f2 m2 => k a m W2 H2 f2 m2 (h W2 H2 f2 m2)
  | .ex c fs m, h, _ => h
  | .no, h, _ => h
/-- one thing behind another -/
theorem PR.bind {α β : Type} {G : Gx} {W : Wd} {H : Hp} {K : β → Mem → Wd → Hp → Prop} {K1 : α → Mem → Wd → Hp → Prop} {E : XK} {k : α → Mem → R β} : ∀ {r : R α}, PR G W H K E (r.bind k) →
    (∀ a m W1 H1, Fut W H W1 H1 → MemOk G W1 H1 m → PR G W1 H1 K E (k a m) → K1 a m W1 H1) → PR G W H K1 E r
  | .ok a m, h, hk => fun W2 H2 f2 m2 => hk a m W2 H2 f2 m2 (PR.fut f2 (show PR G W H K E (k a m) from h))
  | .ex c fs m, h, _ => h
  | .no, h, _ => h
/-- a value comes -/
def PV (G : Gx) (Q : VK) : D → Mem → Wd → Hp → Prop := fun d _ W' H' => ∀ u, Rp G W' H' d u → Q u H'
def PVs (G : Gx) (Q : List V → Hp → Prop) : List D → Mem → Wd → Hp → Prop := fun d _ W' H' => ∀ u, RpL G W' H' d u → Q u H'
def PB (G : Gx) (Q : Bool → Hp → Prop) : Bool → Mem → Wd → Hp → Prop := fun b _ _ H' => Q b H'
abbrev FE := Env → Mem → R D
abbrev FT := Env → Mem → R Bool
abbrev FA := Env → Mem → R (List D)
structure Sta (G : Gx) (W : Wd) (env : Env) (M : Mem) (σ : L2.St) (H : Hp) : Prop where
  mem : MemOk G W H M
  env : EnvOk G W H env σ
theorem Sta.fut {G : Gx} {W W' : Wd} {H H' : Hp} {M M' : Mem} {env : Env} {σ : L2.St} (h : Sta G W env M σ H) (f : Fut W H W' H') (m : MemOk G W' H' M') : Sta G W' env M' σ H' := ⟨m, h.env.fut h.mem f⟩
def tE (G : Gx) (E : XK) (f : FE) : TE := fun σ H Q => ∃ W env M, Sta G W env M σ H ∧ PR G W H (PV G Q) E (f env M)
def tT (G : Gx) (E : XK) (f : FT) : TT := fun σ H Q => ∃ W env M, Sta G W env M σ H ∧ PR G W H (PB G Q) E (f env M)
def tA (G : Gx) (E : XK) (f : FA) : TA := fun σ H Q => ∃ W env M, Sta G W env M σ H ∧ PR G W H (PVs G Q) E (f env M)
theorem pe_imp {X : Cx} {e : Expr} {t t' : TE} (h : PE X e t) (i : ∀ σ H Q, t' σ H Q → t σ H Q) : PE X e t' := ⟨fun pins s σ H Q I q => h.run pins s σ H Q I (i σ H Q q)⟩
theorem pt_imp {X : Cx} {e : Expr} {t t' : TT} (h : PT X e t) (i : ∀ σ H Q, t' σ H Q → t σ H Q) : PT X e t' := ⟨fun pins s σ H Q I q => h.run pins s σ H Q I (i σ H Q q)⟩
theorem pw_imp {X : Cx} {e : Expr} {t t' : TT} (h : PW X e t) (i : ∀ σ H Q, t' σ H Q → t σ H Q) : PW X e t' := ⟨fun wh pins s σ H Q I q => h.run wh pins s σ H Q I (i σ H Q q)⟩
theorem pa_imp {X : Cx} {e : List Expr} {t t' : TA} (h : PA X e t) (i : ∀ σ H Q, t' σ H Q → t σ H Q) : PA X e t' := ⟨fun pos pins s σ H Q I q => h.run pos pins s σ H Q I (i σ H Q q)⟩
theorem ps_imp {X : Cx} {e : Stmt} {t t' : TS} (h : PS X e t) (i : ∀ D σ H, t' D σ H → t D σ H) : PS X e t' := ⟨fun pins s σ H D I q => h.run pins s σ H D I (i D σ H q)⟩
theorem pss_imp {X : Cx} {e : List Stmt} {t t' : TS} (h : PSs X e t) (i : ∀ D σ H, t' D σ H → t D σ H) : PSs X e t' := ⟨fun pins s σ H D I q => h.run pins s σ H D I (i D σ H q)⟩
section
variable {X : Cx} {G : Gx} {E : XK}
/-- pass a part on -/
theorem tE.bind {f : FE} {α : Type} {k : D → Mem → R α} {W : Wd} {env : Env} {M : Mem} {σ : L2.St} {H : Hp} {K : α → Mem → Wd → Hp → Prop} {Q : VK} (s : Sta G W env M σ H) (h : PR G W H K E ((f env M).bind k))
    (hk : ∀ d m W1 H1 u, Fut W H W1 H1 → Sta G W1 env m σ H1 → Rp G W1 H1 d u → PR G W1 H1 K E (k d m) → Q u H1) : tE G E f σ H Q :=
  ⟨W, env, M, s, PR.bind h fun d m W1 H1 f1 m1 q => fun u r => hk d m W1 H1 u f1 (s.fut f1 m1) r q⟩
theorem tT.bind {f : FT} {α : Type} {k : Bool → Mem → R α} {W : Wd} {env : Env} {M : Mem} {σ : L2.St} {H : Hp} {K : α → Mem → Wd → Hp → Prop} {Q : Bool → Hp → Prop} (s : Sta G W env M σ H) (h : PR G W H K E ((f env M).bind k))
    (hk : ∀ d m W1 H1, Fut W H W1 H1 → Sta G W1 env m σ H1 → PR G W1 H1 K E (k d m) → Q d H1) : tT G E f σ H Q :=
  ⟨W, env, M, s, PR.bind h fun d m W1 H1 f1 m1 q => hk d m W1 H1 f1 (s.fut f1 m1) q⟩
theorem tA.bind {f : FA} {α : Type} {k : List D → Mem → R α} {W : Wd} {env : Env} {M : Mem} {σ : L2.St} {H : Hp} {K : α → Mem → Wd → Hp → Prop} {Q : List V → Hp → Prop} (s : Sta G W env M σ H) (h : PR G W H K E ((f env M).bind k))
    (hk : ∀ d m W1 H1 u, Fut W H W1 H1 → Sta G W1 env m σ H1 → RpL G W1 H1 d u → PR G W1 H1 K E (k d m) → Q u H1) : tA G E f σ H Q :=
  ⟨W, env, M, s, PR.bind h fun d m W1 H1 f1 m1 q => fun u r => hk d m W1 H1 u f1 (s.fut f1 m1) r q⟩
def mVar (i : Nat) : FE := fun env M => match env[i]? with
  | some (some d) => .ok d M
  | _ => .no
def mC (d : D) : FE := fun _ M => .ok d M
theorem sn_var {i : Nat} {x : Str} {pos : Pos} (h : PE X (.Name x pos) (tVar i)) : PE X (.Name x pos) (tE G E (mVar i)) := pe_imp h fun σ H Q ⟨W, env, M, s, p⟩ => by
  unfold mVar at p
  split at p
  · rename_i d e
    obtain ⟨u, h1, h2⟩ := s.env.2 i d e
    exact ⟨u, h1, p W H Fut.rfl' s.mem u h2⟩
  · exact p.elim
theorem sn_int {i j pos} : PE X (.Constant (.int i) j pos) (tE G E (mC (.int i))) := pe_imp pe_int fun σ H Q ⟨W, env, M, s, p⟩ => p W H Fut.rfl' s.mem _ rfl
theorem sn_bl {b j pos} : PE X (.Constant (.bool b) j pos) (tE G E (mC (.bl b))) := pe_imp pe_bl fun σ H Q ⟨W, env, M, s, p⟩ => p W H Fut.rfl' s.mem _ rfl
theorem sn_non {j pos} : PE X (.Constant .none j pos) (tE G E (mC .non)) := pe_imp pe_non fun σ H Q ⟨W, env, M, s, p⟩ => p W H Fut.rfl' s.mem _ rfl
theorem sn_str {x : Str} {j pos} : PE X (.Constant (.str x) j pos) (tE G E (mC (.str (s2l x)))) := pe_imp pe_str fun σ H Q ⟨W, env, M, s, p⟩ => p W H Fut.rfl' s.mem _ (by show V.str x = .str (l2s (s2l x)); rw [l2s_s2l])
end
end Fn
set_option Elab.async false
set_option linter.all false
set_option maxRecDepth 100000
set_option maxHeartbeats 1000000
namespace Fn
open PySem PySem.Spec PyProof.Rows L2
theorem line_eq : (sizeLine : Nat) = 16777216 := sizeLine_eq
theorem l2s_len (l : List Nat) : (l2s l).length = l.length := by simp [l2s, Str.length]
theorem l2s_toList (l : List Nat) : (l2s l).cps.toList = l := s2l_l2s l
theorem l2s_append (a b : List Nat) : l2s a ++ l2s b = l2s (a ++ b) := by
  show (⟨(l2s a).cps ++ (l2s b).cps⟩ : Str) = _
  simp [l2s]
section
variable {X : Cx} {cl : Nat → Addr} {E : XK} {G : Gx} {W W' : Wd} {H H' : Hp} {M : Mem} {Q : VK}
theorem CellOk.there {a : Addr} {c : Cell} (h : CellOk G W H a c) : ∃ o, H a = some o ∧ ¬ Still o := by
  cases c with
  | lst l => obtain ⟨vs, q, _⟩ := h; exact ⟨_, q, fun z => z⟩
  | dk lk kvs =>
    obtain ⟨vs, q, _⟩ := h
    cases lk
    · exact ⟨_, (show H a = some (.dK vs) from q), fun z => z⟩
    · obtain ⟨o', q'⟩ : ∃ o, H a = some (.frz o (.dK vs)) := q
      exact ⟨_, q', fun z => z⟩
  | dt lk kvs =>
    obtain ⟨vs, q, _⟩ := h
    cases lk
    · exact ⟨_, (show H a = some (.dT vs) from q), fun z => z⟩
    · obtain ⟨o', q'⟩ : ∃ o, H a = some (.frz o (.dT vs)) := q
      exact ⟨_, q', fun z => z⟩
  | dn lk kvs =>
    obtain ⟨vs, q, _⟩ := h
    cases lk
    · exact ⟨_, (show H a = some (NdO G.w a vs) from q), fun z => z⟩
    · obtain ⟨o', q'⟩ : ∃ o, H a = some (.frz o (NdO G.w a vs)) := q
      exact ⟨_, q', fun z => z⟩
  | ins c0 fs => obtain ⟨dx, vs, q, _⟩ := h; exact ⟨_, q, fun z => z⟩
theorem MemOk.at (m : MemOk G W H M) {a : Addr} (ha : a ∈ W.as) : ∃ (i : Nat) (c : Cell), W.as[i]? = some a ∧ M[i]? = some c ∧ CellOk G W H a c := by
  obtain ⟨i, hi⟩ := List.getElem?_of_mem ha
  have hl : i < M.length := by
    rw [← m.len]
    exact (List.getElem?_eq_some_iff.mp hi).1
  exact ⟨i, _, hi, List.getElem?_eq_getElem hl, m.cell i _ a (List.getElem?_eq_getElem hl) hi⟩
theorem MemOk.fresh (m : MemOk G W H M) {p : Addr} (hp : H p = none) : p ∉ W.as ∧ p ∉ W.hd := by
  constructor
  · intro z
    obtain ⟨i, c, _, _, k⟩ := m.at z
    obtain ⟨o, ho, _⟩ := k.there
    rw [hp] at ho; cases ho
  · intro z
    obtain ⟨o, ho⟩ := m.hid p z
    rw [hp] at ho; cases ho
theorem Paired.imp {α β : Type} {F F' : α → β → Prop} (h : ∀ a b, F a b → F' a b) : ∀ {l : List α} {l' : List β}, Paired F l l' → Paired F' l l'
  | _, _, .nil => .nil
  | _, _, .cons a b => .cons (h _ _ a) (Paired.imp h b)
theorem RpK.fut {κ κ' : Type} {f : κ → κ'} (m : MemOk G W H M) (fu : Fut W H W' H') {l : List (κ × D)} {vs : List (κ' × V)} (h : RpK G W H f l vs) : RpK G W' H' f l vs := Paired.imp (fun _ _ z => ⟨z.1, m.rp fu z.2⟩) h
theorem CellOk.fut (m : MemOk G W H M) (fu : Fut W H W' H') {a : Addr} {c : Cell} (e : H' a = H a) (h : CellOk G W H a c) : CellOk G W' H' a c := by
  cases c with
  | lst l => obtain ⟨vs, q, r⟩ := h; exact ⟨vs, by rw [e]; exact q, m.rpL fu r⟩
  | dk lk kvs => obtain ⟨vs, q, r⟩ := h; exact ⟨vs, by rw [e]; exact q, r.fut m fu⟩
  | dt lk kvs => obtain ⟨vs, q, r⟩ := h; exact ⟨vs, by rw [e]; exact q, r.fut m fu⟩
  | dn lk kvs => obtain ⟨vs, q, r⟩ := h; exact ⟨vs, by rw [e]; exact q, r.kp (fu.kp m)⟩
  | ins c0 fs => obtain ⟨dx, vs, q, r⟩ := h; exact ⟨dx, vs, by rw [e]; exact q, r.fut m fu⟩
/-- a new object beside -/
theorem Fut.laid {p : Addr} {o : HO} (hp : H p = none) : Fut W H W (upd H p o) := ⟨⟨[], by simp, by simp⟩, rfl, fun a u e _ => by rw [upd_ne (ne_of_none e hp)]; exact e, fun a od u e => by rw [upd_ne (ne_of_none e hp)]; exact e⟩
theorem MemOk.laid (m : MemOk G W H M) {p : Addr} {o : HO} (hp : H p = none) : MemOk G W (upd H p o) M :=
  ⟨m.len, m.nd, fun i c a e1 e2 => by
    have k := m.cell i c a e1 e2
    obtain ⟨u, hu, _⟩ := k.there
    exact k.fut m (Fut.laid hp) (upd_ne (ne_of_none hu hp)), m.apart, fun a ha => by
    obtain ⟨u, hu⟩ := m.hid a ha
    exact ⟨u, by rw [upd_ne (ne_of_none hu hp)]; exact hu⟩⟩
/-- a new cell -/
theorem Fut.added {p : Addr} {o : HO} (m : MemOk G W H M) (hp : H p = none) : Fut W H ⟨W.as ++ [p], W.hd⟩ (upd H p o) :=
  ⟨⟨[p], rfl, fun a ha => by rw [List.mem_singleton] at ha; subst ha; exact ⟨hp, (m.fresh hp).1⟩⟩, rfl, fun a u e _ => by rw [upd_ne (ne_of_none e hp)]; exact e, fun a od u e => by rw [upd_ne (ne_of_none e hp)]; exact e⟩
theorem MemOk.added (m : MemOk G W H M) {p : Addr} {o : HO} (hp : H p = none) {c : Cell} (hc : CellOk G ⟨W.as ++ [p], W.hd⟩ (upd H p o) p c) : MemOk G ⟨W.as ++ [p], W.hd⟩ (upd H p o) (M ++ [c]) where
  len := by simp [m.len]
  nd := by
    rw [List.nodup_append]
    refine ⟨m.nd, by simp, fun a ha b hb => ?_⟩
    rw [List.mem_singleton] at hb; subst hb
    intro z; subst z
    exact (m.fresh hp).1 ha
  cell := fun i c' a e1 e2 => by
    by_cases hi : i < M.length
    · rw [List.getElem?_append_left hi] at e1
      have hi2 : i < W.as.length := by rw [m.len]; exact hi
      rw [show (⟨W.as ++ [p], W.hd⟩ : Wd).as = W.as ++ [p] from rfl, List.getElem?_append_left hi2] at e2
      have k := m.cell i c' a e1 e2
      obtain ⟨u, hu, _⟩ := k.there
      exact k.fut m (Fut.added m hp) (upd_ne (ne_of_none hu hp))
    · have hi2 : ¬ i < W.as.length := by rw [m.len]; exact hi
      rw [List.getElem?_append_right (by omega)] at e1
      rw [show (⟨W.as ++ [p], W.hd⟩ : Wd).as = W.as ++ [p] from rfl, List.getElem?_append_right (by omega)] at e2
      have e3 : i - M.length = 0 := by
        have := (List.getElem?_eq_some_iff.mp e1).1
        simp at this; omega
      rw [e3] at e1
      rw [show i - W.as.length = 0 by rw [m.len]; exact e3] at e2
      simp at e1 e2
      subst e1 e2
      exact hc
  apart := fun a ha => by
    rcases List.mem_append.mp ha with z | z
    · exact m.apart a z
    · rw [List.mem_singleton] at z; subst z
      exact (m.fresh hp).2
  hid := fun a ha => by
    obtain ⟨u, hu⟩ := m.hid a ha
    exact ⟨u, by rw [upd_ne (ne_of_none hu hp)]; exact hu⟩
/-- a cell is written -/
def Nf : HO → Prop
  | .frz _ _ => False
  | _ => True
theorem Fut.wrote {i : Nat} {a : Addr} {o o' : HO} (hi : W.as[i]? = some a) (ha : H a = some o') (hn : Nf o') : Fut W H W (upd H a o) :=
  ⟨⟨[], by simp, by simp⟩, rfl, fun b u e hb => by rw [upd_ne (fun z => hb (by rw [z]; exact List.mem_of_getElem? hi))]; exact e, fun b od u e => by
    rw [upd_ne (fun z => by rw [z, ha] at e; cases e; exact hn)]; exact e⟩
theorem Kp.wrote (m : MemOk G W H M) {i : Nat} {a : Addr} {o : HO} (hi : W.as[i]? = some a) : Kp W H W (upd H a o) :=
  ⟨fun _ _ h => h, fun b u e hb _ => by rw [upd_ne (fun z => hb (by rw [z]; exact List.mem_of_getElem? hi))]; exact e, fun b u e st => by
    rw [upd_ne (fun z => m.nt _ _ e st (by rw [z]; exact List.mem_of_getElem? hi))]; exact e, fun _ _ _ h1 h2 => ⟨h1, h2⟩⟩
theorem CellOk.kp' {W' : Wd} {H' : Hp} (k : Kp W H W' H') {a : Addr} {c : Cell} (e : H' a = H a) (h : CellOk G W H a c) : CellOk G W' H' a c := by
  have rk : ∀ {κ κ' : Type} {f : κ → κ'} {kvs : List (κ × D)} {vs : List (κ' × V)}, RpK G W H f kvs vs → RpK G W' H' f kvs vs := fun r => Paired.mapP r fun _ _ z => ⟨z.1, Rp.kp k _ _ z.2⟩
  cases c with
  | lst l => obtain ⟨us, q, r⟩ := h; exact ⟨us, by rw [e]; exact q, RpL.kp k _ _ r⟩
  | dk lk kvs => obtain ⟨vs, q, r⟩ := h; exact ⟨vs, by rw [e]; exact q, rk r⟩
  | dt lk kvs => obtain ⟨vs, q, r⟩ := h; exact ⟨vs, by rw [e]; exact q, rk r⟩
  | dn lk kvs => obtain ⟨vs, q, r⟩ := h; exact ⟨vs, by rw [e]; exact q, r.kp k⟩
  | ins c0 fs => obtain ⟨dx, vs, q, r⟩ := h; exact ⟨dx, vs, by rw [e]; exact q, rk r⟩
theorem MemOk.wrote (m : MemOk G W H M) {i : Nat} {a : Addr} {o : HO} (hi : W.as[i]? = some a) {c : Cell} (hc : CellOk G W (upd H a o) a c) : MemOk G W (upd H a o) (M.set i c) where
  len := by simp [m.len]
  nd := m.nd
  cell := fun j c' b e1 e2 => by
    by_cases hj : i = j
    · subst hj
      rw [hi] at e2; cases e2
      rw [List.getElem?_set_self (by rw [← m.len]; exact (List.getElem?_eq_some_iff.mp hi).1)] at e1
      cases e1
      exact hc
    · rw [List.getElem?_set_ne hj] at e1
      have k := m.cell j c' b e1 e2
      refine k.kp' (Kp.wrote m hi) (upd_ne fun z => hj ?_)
      subst z
      exact (List.getElem?_inj (List.getElem?_eq_some_iff.mp hi).1 m.nd).mp (hi.trans e2.symm)
  apart := m.apart
  hid := fun b hb => by
    obtain ⟨u, hu⟩ := m.hid b hb
    refine ⟨u, ?_⟩
    rw [upd_ne fun z => ?_]
    · exact hu
    · subst z
      exact m.apart b (List.mem_of_getElem? hi) hb
/-- a new list: a cell or by value -/
def mkL (c : Bool) (ds : List D) (M : Mem) : R D := if c = true then .ok (.ref M.length) (M ++ [.lst ds]) else .ok (.lst ds) M
theorem mkL_new {c : Bool} {ds : List D} {us : List V} (m : MemOk G W H M) (h : PR G W H (PV G Q) E (mkL c ds M)) (r : RpL G W H ds us) : ∀ p, H p = none → Q (.ref p) (upd H p (.lst us)) := by
  intro p hp
  unfold mkL at h
  cases c with
  | true =>
    rw [if_pos rfl] at h
    refine h ⟨W.as ++ [p], W.hd⟩ _ (Fut.added m hp) (m.added hp ⟨us, upd_same, m.rpL (Fut.added m hp) r⟩) _ ⟨p, ?_, rfl⟩
    rw [← m.len]
    simp
  | false =>
    rw [if_neg Bool.false_ne_true] at h
    exact h W _ (Fut.laid hp) (m.laid hp) _ ⟨p, us, rfl, ⟨upd_same, m.fresh hp⟩, m.rpL (Fut.laid hp) r⟩
theorem tup_new {ds : List D} {us : List V} (m : MemOk G W H M) (h : PR G W H (PV G Q) E (.ok (.tup ds) M)) (r : RpL G W H ds us) : ∀ p, H p = none → Q (.ref p) (upd H p (.tup us)) := fun p hp =>
  h W _ (Fut.laid hp) (m.laid hp) _ ⟨p, us, rfl, .inl upd_same, m.rpL (Fut.laid hp) r⟩
theorem RpL.len : ∀ {ds : List D} {us : List V}, RpL G W H ds us → us.length = ds.length
  | [], us, h => by have : us = [] := h; subst this; rfl
  | d :: r, us, h => by
    obtain ⟨u, us', e, _, h2⟩ := h
    subst e
    simp [RpL.len h2]
/-- the items of a list (by value, frozen, a cell) -/
def lstOf (M : Mem) : D → Option (List D)
  | .lst l => some l
  | .fz l => some l
  | .ref i => match M[i]? with
    | some (.lst l) => some l
    | _ => none
  | _ => none
/-- of a list that the call itself made -/
def ownOf (M : Mem) : D → Option (List D)
  | .lst l => some l
  | .ref i => match M[i]? with
    | some (.lst l) => some l
    | _ => none
  | _ => none
theorem lstOf_ok (m : MemOk G W H M) {d : D} {u : V} {l : List D} (r : Rp G W H d u) (e : lstOf M d = some l) : ∃ a us, u = .ref a ∧ SqL G.K H a us ∧ RpL G W H l us := by
  cases d with
  | lst l' => cases e; obtain ⟨a, us, e1, e2, e3⟩ := r; exact ⟨a, us, e1, .inl (.inl e2.1), e3⟩
  | fz l' =>
    cases e; obtain ⟨a, us, e1, e2, e3⟩ := r
    refine ⟨a, us, e1, ?_, e3⟩
    rcases e2 with ⟨o, e2⟩ | e2
    · exact .inl (.inr ⟨o, e2⟩)
    · exact .inr e2
  | ref i =>
    obtain ⟨a, e1, e2⟩ := r
    simp only [lstOf] at e
    split at e
    · rename_i l' hc
      cases e
      obtain ⟨us, h1, h2⟩ := m.cell i _ a hc e1
      exact ⟨a, us, e2, .inl (.inl h1), h2⟩
    · cases e
  | _ => cases e
theorem ownOf_ok (m : MemOk G W H M) {d : D} {u : V} {l : List D} (r : Rp G W H d u) (e : ownOf M d = some l) : ∃ a us, u = .ref a ∧ H a = some (.lst us) ∧ RpL G W H l us := by
  cases d with
  | lst l' => cases e; obtain ⟨a, us, e1, e2, e3⟩ := r; exact ⟨a, us, e1, e2.1, e3⟩
  | ref i =>
    obtain ⟨a, e1, e2⟩ := r
    simp only [ownOf] at e
    split at e
    · rename_i l' hc
      cases e
      obtain ⟨us, h1, h2⟩ := m.cell i _ a hc e1
      exact ⟨a, us, e2, h1, h2⟩
    · cases e
  | _ => cases e
/-- a list's or a tuple's items -/
def seqOf (M : Mem) : D → Option (List D)
  | .tup l => some l
  | .ct l => some l
  | d => lstOf M d
theorem seqOf_ok (m : MemOk G W H M) {d : D} {u : V} {l : List D} (r : Rp G W H d u) (e : seqOf M d = some l) : ∃ a us, u = .ref a ∧ (SqL G.K H a us ∨ SqT G.K H a us) ∧ RpL G W H l us := by
  cases d with
  | tup l' => cases e; obtain ⟨a, us, e1, e2, e3⟩ := r; exact ⟨a, us, e1, .inr e2.sq, e3⟩
  | ct l' => cases e; obtain ⟨a, us, e1, e2, e3⟩ := r; exact ⟨a, us, e1, .inr e2.sq, e3⟩
  | _ => obtain ⟨a, us, e1, e2, e3⟩ := lstOf_ok m r e; exact ⟨a, us, e1, .inl e2, e3⟩
theorem RpL.get : ∀ {ds : List D} {us : List V}, RpL G W H ds us → ∀ {j : Nat} {d : D}, ds[j]? = some d → ∃ u, us[j]? = some u ∧ Rp G W H d u
  | [], us, h, j, d, e => by simp at e
  | d0 :: r, us, h, j, d, e => by
    obtain ⟨u, us', e1, h1, h2⟩ := h
    subst e1
    cases j with
    | zero => simp at e; subst e; exact ⟨u, by simp, h1⟩
    | succ j => obtain ⟨v, e2, h3⟩ := RpL.get h2 (j := j) (by simpa using e); exact ⟨v, by simpa using e2, h3⟩
theorem RpL.append : ∀ {ds ds' : List D} {us us' : List V}, RpL G W H ds us → RpL G W H ds' us' → RpL G W H (ds ++ ds') (us ++ us')
  | [], ds', us, us', h, h' => by have : us = [] := h; subst this; exact h'
  | d :: r, ds', us, us', h, h' => by
    obtain ⟨u, vs, e1, h1, h2⟩ := h
    subst e1
    exact ⟨u, vs ++ us', rfl, h1, RpL.append h2 h'⟩
theorem RpL.drop : ∀ {ds : List D} {us : List V} (n : Nat), RpL G W H ds us → RpL G W H (ds.drop n) (us.drop n)
  | ds, us, 0, h => h
  | [], us, n + 1, h => by have : us = [] := h; subst this; exact (rfl : ([] : List V) = [])
  | d :: r, us, n + 1, h => by
    obtain ⟨u, vs, e1, h1, h2⟩ := h
    subst e1
    exact RpL.drop n h2
theorem RpL.take : ∀ {ds : List D} {us : List V} (n : Nat), RpL G W H ds us → RpL G W H (ds.take n) (us.take n)
  | ds, us, 0, h => by simp; exact (rfl : ([] : List V) = [])
  | [], us, n + 1, h => by have : us = [] := h; subst this; exact (rfl : ([] : List V) = [])
  | d :: r, us, n + 1, h => by
    obtain ⟨u, vs, e1, h1, h2⟩ := h
    subst e1
    exact ⟨u, vs.take n, by simp, h1, RpL.take n h2⟩
theorem RpL.set : ∀ {ds : List D} {us : List V} {d : D} {u : V} (j : Nat), RpL G W H ds us → Rp G W H d u → RpL G W H (ds.set j d) (us.set j u)
  | [], us, d, u, j, h, r => by have : us = [] := h; subst this; exact (rfl : ([] : List V) = [])
  | d0 :: ds, us, d, u, 0, h, r => by
    obtain ⟨v, vs, e1, h1, h2⟩ := h
    subst e1
    exact ⟨u, vs, rfl, r, h2⟩
  | d0 :: ds, us, d, u, j + 1, h, r => by
    obtain ⟨v, vs, e1, h1, h2⟩ := h
    subst e1
    exact ⟨v, vs.set j u, rfl, h1, RpL.set j h2 r⟩
theorem RpL.reverse : ∀ {ds : List D} {us : List V}, RpL G W H ds us → RpL G W H ds.reverse us.reverse
  | [], us, h => by have : us = [] := h; subst this; exact (rfl : ([] : List V) = [])
  | d :: ds, us, h => by
    obtain ⟨v, vs, e1, h1, h2⟩ := h
    subst e1
    rw [List.reverse_cons, List.reverse_cons]
    exact (RpL.reverse h2).append ⟨v, [], rfl, h1, rfl⟩
def Op2 (G : Gx) (E : XK) (r : R2) (o : D → D → Mem → R D) : Prop := ∀ W H M a b u v Q, MemOk G W H M → Rp G W H a u → Rp G W H b v → PR G W H (PV G Q) E (o a b M) → r u v H Q
def mOp (o : D → D → Mem → R D) (fa fb : FE) : FE := fun env M => (fa env M).bind fun a m => (fb env m).bind fun b m' => o a b m'
theorem tE_op {r : R2} {fa fb : FE} {o : D → D → Mem → R D} (hs : Op2 G E r o) (σ : L2.St) (H : Hp) (Q : VK) (h : tE G E (mOp o fa fb) σ H Q) : tOp r (tE G E fa) (tE G E fb) σ H Q := by
  obtain ⟨W, env, M, s, p⟩ := h
  refine tE.bind s p fun d m W1 H1 u f1 s1 r1 p1 => ?_
  refine tE.bind s1 p1 fun d2 m2 W2 H2 u2 f2 s2 r2 p2 => ?_
  exact hs W2 H2 m2 d d2 u u2 Q s2.mem (s1.mem.rp f2 r1) r2 p2
theorem sn_op {op : Operator} {r : R2} {a b : Expr} {fa fb : FE} {o : D → D → Mem → R D} {pos : Pos} (ho : OpR X (binaryOp op) r) (hs : Op2 G E r o) (ha : PE X a (tE G E fa)) (hb : PE X b (tE G E fb)) : PE X (.BinOp a op b pos) (tE G E (mOp o fa fb)) :=
  pe_imp (pe_op ho ha hb) (tE_op hs)
theorem sn_cmp {op : CmpOp} {r : R2} {a b : Expr} {fa fb : FE} {o : D → D → Mem → R D} {pos : Pos} (ho : OpR X (compareOp op) r) (hs : Op2 G E r o) (hm : behindInMarks op b = false) (ha : PE X a (tE G E fa)) (hb : PE X b (tE G E fb)) : PE X (.Compare a [op] [b] pos) (tE G E (mOp o fa fb)) :=
  pe_imp (pe_cmpR ho ha hb hm) (tE_op hs)
/-- two ways: the kinds tell -/
theorem Op2.or {r r' : R2} {o o1 o2 : D → D → Mem → R D} (h : Op2 G E r o1) (h' : Op2 G E r' o2) (e : ∀ a b M, o a b M = o1 a b M ∨ o a b M = o2 a b M) : Op2 G E (fun x y H Q => r x y H Q ∨ r' x y H Q) o := fun W H M a b u v Q m ra rb p => by
  rcases e a b M with z | z
  · rw [z] at p; exact .inl (h W H M a b u v Q m ra rb p)
  · rw [z] at p; exact .inr (h' W H M a b u v Q m ra rb p)
theorem PR.here {α : Type} {K : α → Mem → Wd → Hp → Prop} {a : α} (m : MemOk G W H M) (h : PR G W H K E (.ok a M)) : K a M W H := h W H Fut.rfl' m
/-- ints -/
def oI (g : Int → Int → D) : D → D → Mem → R D
  | .int i, .int j, M => .ok (g i j) M
  | _, _, _ => .no
theorem op2_I {g : Int → Int → D} {g' : Int → Int → V} (hg : ∀ W H i j, Rp G W H (g i j) (g' i j)) : Op2 G E (rI0 g') (oI g) := fun W H M a b u v Q m ra rb p => by
  cases a <;> cases b <;> first
    | exact p.elim
    | exact ⟨_, _, ra, rb, p.here m _ (hg _ _ _ _)⟩
/-- ints, under a condition -/
def oIC (C : Int → Int → Bool) (g : Int → Int → D) : D → D → Mem → R D
  | .int i, .int j, M => if C i j = true then .ok (g i j) M else .no
  | _, _, _ => .no
theorem op2_IC {C : Int → Int → Bool} {C' : Int → Int → Prop} {g : Int → Int → D} {g' : Int → Int → V} (hC : ∀ i j, C i j = true → C' i j) (hg : ∀ W H i j, Rp G W H (g i j) (g' i j)) : Op2 G E (rI C' g') (oIC C g) := fun W H M a b u v Q m ra rb p => by
  cases a <;> cases b <;> first
    | exact p.elim
    | (simp only [oIC] at p
       split at p
       · rename_i hc
         exact ⟨_, _, ra, rb, hC _ _ hc, p.here m _ (hg _ _ _ _)⟩
       · exact p.elim)
end
section
variable {X : Cx} {G : Gx} {cl : Nat → Addr} {E : XK}
/-- texts -/
def oAddS : D → D → Mem → R D
  | .str a, .str b, M => if a.length + b.length ≤ 16777216 then .ok (.str (a ++ b)) M else .no
  | _, _, _ => .no
def oAddB : D → D → Mem → R D
  | .int i, .bl k, M => .ok (.int (i + if k = true then 1 else 0)) M
  | _, _, _ => .no
def oAddT : D → D → Mem → R D
  | .tup a, .tup b, M => if a.length + b.length ≤ 16777216 then .ok (.tup (a ++ b)) M else .no
  | _, _, _ => .no
def oAddL (c : Bool) (a b : D) (M : Mem) : R D := match ownOf M a, ownOf M b with
  | some x, some y => if x.length + y.length ≤ 16777216 then mkL c (x ++ y) M else .no
  | _, _ => .no
def oAdd (c : Bool) : D → D → Mem → R D
  | .int i, .int j, M => .ok (.int (i + j)) M
  | .str a, .str b, M => oAddS (.str a) (.str b) M
  | .int i, .bl k, M => oAddB (.int i) (.bl k) M
  | .tup a, .tup b, M => oAddT (.tup a) (.tup b) M
  | a, b, M => oAddL c a b M
theorem op2_addS : Op2 G E (fun x y H Q => ∃ i j, x = .str i ∧ y = .str j ∧ i.length + j.length ≤ sizeLine ∧ Q (.str (i ++ j)) H) oAddS := fun W H M a b u v Q m ra rb p => by
  cases a <;> cases b <;> first
    | exact p.elim
    | (simp only [oAddS] at p
       split at p
       · rename_i hc
         refine ⟨_, _, ra, rb, by rw [l2s_len, l2s_len, line_eq]; exact hc, p.here m _ ?_⟩
         show V.str _ = V.str _
         rw [l2s_append]
       · exact p.elim)
theorem op2_addB : Op2 G E (fun x y H Q => ∃ i k, x = .int i ∧ y = .bl k ∧ Q (.int (i + b2i k)) H) oAddB := fun W H M a b u v Q m ra rb p => by
  cases a <;> cases b <;> first
    | exact p.elim
    | (refine ⟨_, _, ra, rb, p.here m _ ?_⟩
       rename_i k
       cases k <;> rfl)
theorem op2_addT : Op2 G E (rCatA G.K) oAddT := fun W H M a b u v Q m ra rb p => by
  cases a <;> cases b <;> first
    | exact p.elim
    | (simp only [oAddT] at p
       split at p
       · rename_i xs ys hc
         obtain ⟨a1, us, e1, s1, r1⟩ := ra
         obtain ⟨a2, vs, e2, s2, r2⟩ := rb
         subst e1 e2
         refine ⟨a1, a2, us, vs, rfl, rfl, s1.sq, s2.sq, by rw [r1.len, r2.len, line_eq]; exact hc, fun z => ?_, fun _ z => ?_, fun _ _ => tup_new m p (r1.append r2)⟩
         · have e3 : xs = [] := by
             have := r1.len
             rw [z] at this
             exact List.length_eq_zero_iff.mp this.symm
           subst e3
           exact p.here m _ ⟨a2, vs, rfl, s2, r2⟩
         · have e3 : ys = [] := by
             have := r2.len
             rw [z] at this
             exact List.length_eq_zero_iff.mp this.symm
           subst e3
           rw [List.append_nil] at p
           exact p.here m _ ⟨a1, us, rfl, s1, r1⟩
       · exact p.elim)
theorem op2_addL {c : Bool} : Op2 G E rCat (oAddL c) := fun W H M a b u v Q m ra rb p => by
  unfold oAddL at p
  split at p
  · rename_i x y e1 e2
    split at p
    · rename_i hc
      obtain ⟨a1, us, h1, h2, h3⟩ := ownOf_ok m ra e1
      obtain ⟨a2, vs, h4, h5, h6⟩ := ownOf_ok m rb e2
      exact ⟨a1, a2, us, vs, h1, h4, h2, h5, by rw [h3.len, h6.len, line_eq]; exact hc, mkL_new m p (h3.append h6)⟩
    · exact p.elim
  · exact p.elim
theorem sn_add (c : Bool) {a b : Expr} {fa fb : FE} {pos : Pos} (ha : PE X a (tE ⟨X.K, cl, X.w⟩ E fa)) (hb : PE X b (tE ⟨X.K, cl, X.w⟩ E fb)) : PE X (.BinOp a .Add b pos) (tE ⟨X.K, cl, X.w⟩ E (mOp (oAdd c) fa fb)) := by
  refine sn_op (op_add.or (op_add_str.or (op_add_ib.or (op_catA.or op_cat)))) (?_ : Op2 ⟨X.K, cl, X.w⟩ E _ _) ha hb
  intro W H M a b u v Q m ra rb p
  have h1 : Op2 ⟨X.K, cl, X.w⟩ E (rI0 fun i j => .int (i + j)) (oI fun i j => .int (i + j)) := op2_I fun _ _ _ _ => rfl
  cases a <;> cases b <;> first
    | exact .inl (h1 W H M _ _ u v Q m ra rb p)
    | exact .inr (.inl (op2_addS W H M _ _ u v Q m ra rb p))
    | exact .inr (.inr (.inl (op2_addB W H M _ _ u v Q m ra rb p)))
    | exact .inr (.inr (.inr (.inl (op2_addT W H M _ _ u v Q m ra rb p))))
    | exact .inr (.inr (.inr (.inr (op2_addL W H M _ _ u v Q m ra rb p))))
def oSub : D → D → Mem → R D := oI fun i j => .int (i - j)
theorem sn_sub {a b : Expr} {fa fb : FE} {pos : Pos} (ha : PE X a (tE G E fa)) (hb : PE X b (tE G E fb)) : PE X (.BinOp a .Sub b pos) (tE G E (mOp oSub fa fb)) := sn_op op_sub (op2_I fun _ _ _ _ => rfl) ha hb
/-- the one factor below 2 ^ 64, or both together below a million bits -/
def mulOk (i j : Int) : Bool := decide (-(2 ^ 64) < i ∧ i < 2 ^ 64) || decide (-(2 ^ 64) < j ∧ j < 2 ^ 64) || decide (i.natAbs.log2 + j.natAbs.log2 < 1000000)
def oMulI : D → D → Mem → R D := oIC mulOk fun i j => .int (i * j)
theorem op_mulA : OpR X (binaryOp .Mult) (rI (fun i j => CMul i j ∨ CMulW i j) fun i j => .int (i * j)) := opI fun _ _ _ _ _ _ _ hc q => mul_int q (hc.elim CMul.ok CMulW.ok)
theorem op2_mulI : Op2 G E (rI (fun i j => CMul i j ∨ CMulW i j) fun i j => .int (i * j)) oMulI := op2_IC (fun i j h => by
  unfold mulOk at h
  simp only [Bool.or_eq_true, decide_eq_true_eq] at h
  rcases h with (h | h) | h
  · exact .inl (.inl h)
  · exact .inl (.inr h)
  · exact .inr h) fun _ _ _ _ => rfl
/-- a list as often -/
def oRep (c : Bool) (a b : D) (M : Mem) : R D := match ownOf M a, b with
  | some x, .int k => if -(2 ^ 63) ≤ k ∧ k < 2 ^ 63 ∧ x.length * k.toNat ≤ 16777216 then mkL c (List.replicate k.toNat x).flatten M else .no
  | _, _ => .no
theorem RpL.rep {W : Wd} {H : Hp} {ds : List D} {us : List V} (h : RpL G W H ds us) : ∀ n, RpL G W H (List.replicate n ds).flatten (List.replicate n us).flatten
  | 0 => (rfl : ([] : List V) = [])
  | n + 1 => by
    rw [List.replicate_succ, List.replicate_succ, List.flatten_cons, List.flatten_cons]
    exact h.append (RpL.rep h n)
theorem op2_rep {c : Bool} : Op2 G E rRep (oRep c) := fun W H M a b u v Q m ra rb p => by
  unfold oRep at p
  split at p
  · rename_i x k e1
    split at p
    · rename_i hc
      obtain ⟨a1, us, h1, h2, h3⟩ := ownOf_ok m ra e1
      exact ⟨a1, k, us, h1, rb, h2, hc.1, hc.2.1, by rw [h3.len, line_eq]; exact hc.2.2, mkL_new m p (h3.rep _)⟩
    · exact p.elim
  · exact p.elim
def oMul (c : Bool) : D → D → Mem → R D
  | .int i, .int j, M => oMulI (.int i) (.int j) M
  | a, b, M => oRep c a b M
theorem sn_mul (c : Bool) {a b : Expr} {fa fb : FE} {pos : Pos} (ha : PE X a (tE G E fa)) (hb : PE X b (tE G E fb)) : PE X (.BinOp a .Mult b pos) (tE G E (mOp (oMul c) fa fb)) :=
  sn_op (op_mulA.or op_rep) (op2_mulI.or op2_rep fun a b M => by cases a <;> cases b <;> first | exact .inl rfl | exact .inr rfl) ha hb
def divOk (_ j : Int) : Bool := decide (0 < j) && decide (j.natAbs.log2 < 9000)
def oDiv : D → D → Mem → R D := oIC divOk fun i j => .int (i / j)
theorem sn_div {a b : Expr} {fa fb : FE} {pos : Pos} (ha : PE X a (tE G E fa)) (hb : PE X b (tE G E fb)) : PE X (.BinOp a .FloorDiv b pos) (tE G E (mOp oDiv fa fb)) :=
  sn_op op_fdivW (op2_IC (fun i j h => by unfold divOk at h; simp only [Bool.and_eq_true, decide_eq_true_eq] at h; exact h) fun _ _ _ _ => rfl) ha hb
def oMod : D → D → Mem → R D := oIC (fun _ j => decide (0 < j)) fun i j => .int (i % j)
theorem sn_mod {a b : Expr} {fa fb : FE} {pos : Pos} (ha : PE X a (tE G E fa)) (hb : PE X b (tE G E fb)) : PE X (.BinOp a .Mod b pos) (tE G E (mOp oMod fa fb)) :=
  sn_op op_mod (op2_IC (fun i j h => of_decide_eq_true h) fun _ _ _ _ => rfl) ha hb
def powOk (i j : Int) : Bool := decide (0 ≤ j) && decide (j ≤ 1000000) && decide (i.natAbs < 2 ^ 64)
def oPow : D → D → Mem → R D := oIC powOk fun i j => .int (i ^ j.toNat)
theorem sn_pow {a b : Expr} {fa fb : FE} {pos : Pos} (ha : PE X a (tE G E fa)) (hb : PE X b (tE G E fb)) : PE X (.BinOp a .Pow b pos) (tE G E (mOp oPow fa fb)) :=
  sn_op op_pow (op2_IC (C' := CPow) (fun i j h => by
    unfold powOk at h
    simp only [Bool.and_eq_true, decide_eq_true_eq] at h
    exact ⟨h.1.1, h.1.2, h.2⟩) fun _ _ _ _ => rfl) ha hb
def mUn (o : D → Mem → R D) (fa : FE) : FE := fun env M => (fa env M).bind fun a m => o a m
def oNeg : D → Mem → R D
  | .int i, M => .ok (.int (-i)) M
  | _, _ => .no
theorem sn_neg {a : Expr} {fa : FE} {pos : Pos} (ha : PE X a (tE G E fa)) : PE X (.UnaryOp .USub a pos) (tE G E (mUn oNeg fa)) := pe_imp (pe_un un_neg ha) fun σ H Q ⟨W, env, M, s, p⟩ => by
  refine tE.bind s p fun d m W1 H1 u f1 s1 r1 p1 => ?_
  cases d <;> first
    | exact p1.elim
    | exact ⟨_, r1, p1.here s1.mem _ rfl⟩
end
end Fn
set_option Elab.async false
set_option linter.all false
set_option maxRecDepth 100000
set_option maxHeartbeats 1000000
namespace Fn
open PySem PySem.Spec PyProof.Rows L2
section
variable {X : Cx} {G : Gx} {cl : Nat → Addr} {E : XK} {W : Wd} {H : Hp} {M : Mem}
mutual
def pyD : D → Option PyData
  | .non => some .none
  | .bl b => some (.bool b)
  | .int i => some (.int i)
  | .str x => some (.str (l2s x))
  | .tup l => (pyL l).map .tuple
  | .ct l => (pyL l).map .tuple
  | .lst l => (pyL l).map .list
  | .fz l => (pyL l).map .list
  | .ref _ => none
def pyL : List D → Option (List PyData)
  | [] => some []
  | d :: r => match pyD d, pyL r with
    | some a, some b => some (a :: b)
    | _, _ => none
end
mutual
/-- the data that a value tells, cells by k -/
def pyGo (k : Nat → Option PyData) : D → Option PyData
  | .non => some .none
  | .bl b => some (.bool b)
  | .int i => some (.int i)
  | .str x => some (.str (l2s x))
  | .tup l => (pyGoL k l).map .tuple
  | .ct l => (pyGoL k l).map .tuple
  | .lst l => (pyGoL k l).map .list
  | .fz l => (pyGoL k l).map .list
  | .ref i => k i
def pyGoL (k : Nat → Option PyData) : List D → Option (List PyData)
  | [] => some []
  | d :: r => match pyGo k d, pyGoL k r with
    | some a, some b => some (a :: b)
    | _, _ => none
end
/-- a cell that holds a list, to the depth n -/
def kN (M : Mem) : Nat → Nat → Option PyData
  | 0, _ => none
  | n + 1, i => match M[i]? with
    | some (.lst l) => (pyGoL (kN M n) l).map .list
    | _ => none
def pyM (M : Mem) (d : D) : Option PyData := pyGo (kN M 4) d
mutual
theorem pyGo_of {k : Nat → Option PyData} : ∀ {d : D} {p : PyData}, pyD d = some p → pyGo k d = some p
  | .non, p, e => e
  | .bl b, p, e => e
  | .int i, p, e => e
  | .str x, p, e => e
  | .tup l, p, e => by
    simp only [pyD] at e
    cases q : pyL l with
    | none => rw [q] at e; cases e
    | some ps => rw [q] at e; simp only [pyGo, pyGoL_of q]; exact e
  | .ct l, p, e => by
    simp only [pyD] at e
    cases q : pyL l with
    | none => rw [q] at e; cases e
    | some ps => rw [q] at e; simp only [pyGo, pyGoL_of q]; exact e
  | .lst l, p, e => by
    simp only [pyD] at e
    cases q : pyL l with
    | none => rw [q] at e; cases e
    | some ps => rw [q] at e; simp only [pyGo, pyGoL_of q]; exact e
  | .fz l, p, e => by
    simp only [pyD] at e
    cases q : pyL l with
    | none => rw [q] at e; cases e
    | some ps => rw [q] at e; simp only [pyGo, pyGoL_of q]; exact e
  | .ref i, p, e => by cases e
theorem pyGoL_of {k : Nat → Option PyData} : ∀ {l : List D} {ps : List PyData}, pyL l = some ps → pyGoL k l = some ps
  | [], ps, e => e
  | d :: l, ps, e => by
    simp only [pyL] at e
    split at e
    · rename_i a b h1 h2
      simp only [pyGoL, pyGo_of h1, pyGoL_of h2]
      exact e
    · cases e
end
mutual
theorem pyD_ok : ∀ {d : D} {u : V} {p : PyData}, Rp G W H d u → pyD d = some p → Dp G.K H u p
  | .non, u, p, r, e => by cases r; cases e; exact .non
  | .bl b, u, p, r, e => by cases r; cases e; exact .bl b
  | .int i, u, p, r, e => by cases r; cases e; exact .int i
  | .str x, u, p, r, e => by cases r; cases e; exact .str _
  | .tup l, u, p, r, e => by
    obtain ⟨a, us, e1, s1, r1⟩ := r
    subst e1
    simp only [pyD] at e
    cases q : pyL l with
    | none => rw [q] at e; cases e
    | some ps => rw [q] at e; cases e; exact .tup s1.sq (pyL_ok r1 q)
  | .ct l, u, p, r, e => by
    obtain ⟨a, us, e1, s1, r1⟩ := r
    subst e1
    simp only [pyD] at e
    cases q : pyL l with
    | none => rw [q] at e; cases e
    | some ps => rw [q] at e; cases e; exact .tup s1.sq (pyL_ok r1 q)
  | .lst l, u, p, r, e => by
    obtain ⟨a, us, e1, s1, r1⟩ := r
    subst e1
    simp only [pyD] at e
    cases q : pyL l with
    | none => rw [q] at e; cases e
    | some ps => rw [q] at e; cases e; exact .lst (.inl (.inl s1.1)) (pyL_ok r1 q)
  | .fz l, u, p, r, e => by
    obtain ⟨a, us, e1, s1, r1⟩ := r
    subst e1
    simp only [pyD] at e
    cases q : pyL l with
    | none => rw [q] at e; cases e
    | some ps =>
      rw [q] at e; cases e
      refine .lst ?_ (pyL_ok r1 q)
      rcases s1 with ⟨o, s1⟩ | s1
      · exact .inl (.inr ⟨o, s1⟩)
      · exact .inr s1
  | .ref i, u, p, r, e => by cases e
theorem pyL_ok : ∀ {l : List D} {us : List V} {ps : List PyData}, RpL G W H l us → pyL l = some ps → DpAll G.K H us ps
  | [], us, ps, r, e => by have : us = [] := r; subst this; cases e; exact .nil
  | d :: l, us, ps, r, e => by
    obtain ⟨u, us', e1, r1, r2⟩ := r
    subst e1
    simp only [pyL] at e
    split at e
    · rename_i a b h1 h2
      cases e
      exact .cons (pyD_ok r1 h1) (pyL_ok r2 h2)
    · cases e
end
mutual
theorem pyGo_ok {k : Nat → Option PyData} (hk : ∀ i a p, W.as[i]? = some a → k i = some p → Dp G.K H (.ref a) p) : ∀ {d : D} {u : V} {p : PyData}, Rp G W H d u → pyGo k d = some p → Dp G.K H u p
  | .non, u, p, r, e => by cases r; cases e; exact .non
  | .bl b, u, p, r, e => by cases r; cases e; exact .bl b
  | .int i, u, p, r, e => by cases r; cases e; exact .int i
  | .str x, u, p, r, e => by cases r; cases e; exact .str _
  | .tup l, u, p, r, e => by
    obtain ⟨a, us, e1, s1, r1⟩ := r
    subst e1
    simp only [pyGo] at e
    cases q : pyGoL k l with
    | none => rw [q] at e; cases e
    | some ps => rw [q] at e; cases e; exact .tup s1.sq (pyGoL_ok hk r1 q)
  | .ct l, u, p, r, e => by
    obtain ⟨a, us, e1, s1, r1⟩ := r
    subst e1
    simp only [pyGo] at e
    cases q : pyGoL k l with
    | none => rw [q] at e; cases e
    | some ps => rw [q] at e; cases e; exact .tup s1.sq (pyGoL_ok hk r1 q)
  | .lst l, u, p, r, e => by
    obtain ⟨a, us, e1, s1, r1⟩ := r
    subst e1
    simp only [pyGo] at e
    cases q : pyGoL k l with
    | none => rw [q] at e; cases e
    | some ps => rw [q] at e; cases e; exact .lst (.inl (.inl s1.1)) (pyGoL_ok hk r1 q)
  | .fz l, u, p, r, e => by
    obtain ⟨a, us, e1, s1, r1⟩ := r
    subst e1
    simp only [pyGo] at e
    cases q : pyGoL k l with
    | none => rw [q] at e; cases e
    | some ps =>
      rw [q] at e; cases e
      refine .lst ?_ (pyGoL_ok hk r1 q)
      rcases s1 with ⟨o, s1⟩ | s1
      · exact .inl (.inr ⟨o, s1⟩)
      · exact .inr s1
  | .ref i, u, p, r, e => by
    obtain ⟨a, e1, rfl⟩ := r
    exact hk i a p e1 e
theorem pyGoL_ok {k : Nat → Option PyData} (hk : ∀ i a p, W.as[i]? = some a → k i = some p → Dp G.K H (.ref a) p) : ∀ {l : List D} {us : List V} {ps : List PyData}, RpL G W H l us → pyGoL k l = some ps → DpAll G.K H us ps
  | [], us, ps, r, e => by have : us = [] := r; subst this; cases e; exact .nil
  | d :: l, us, ps, r, e => by
    obtain ⟨u, us', e1, r1, r2⟩ := r
    subst e1
    simp only [pyGoL] at e
    split at e
    · rename_i a b h1 h2
      cases e
      exact .cons (pyGo_ok hk r1 h1) (pyGoL_ok hk r2 h2)
    · cases e
end
theorem kN_ok (m : MemOk G W H M) : ∀ (n i : Nat) (a : Addr) (p : PyData), W.as[i]? = some a → kN M n i = some p → Dp G.K H (.ref a) p
  | 0, i, a, p, e1, e => by cases e
  | n + 1, i, a, p, e1, e => by
    simp only [kN] at e
    split at e
    · rename_i l hc
      obtain ⟨us, h1, h2⟩ := m.cell i _ a hc e1
      cases q : pyGoL (kN M n) l with
      | none => rw [q] at e; cases e
      | some ps => rw [q] at e; cases e; exact .lst (.inl (.inl h1)) (pyGoL_ok (kN_ok m n) h2 q)
    · cases e
theorem pyM_ok (m : MemOk G W H M) {d : D} {u : V} {p : PyData} (r : Rp G W H d u) (e : pyM M d = some p) : Dp G.K H u p := pyGo_ok (kN_ok m 4) r e
mutual
theorem pyGo_plain {k : Nat → Option PyData} (hk : ∀ i p, k i = some p → p.plain = true) : ∀ {d : D} {p : PyData}, pyGo k d = some p → p.plain = true
  | .non, p, e => by cases e; rfl
  | .bl b, p, e => by cases e; rfl
  | .int b, p, e => by cases e; rfl
  | .str b, p, e => by cases e; rfl
  | .tup l, p, e => by
    simp only [pyGo] at e
    cases q : pyGoL k l with
    | none => rw [q] at e; cases e
    | some ps => rw [q] at e; cases e; simp only [PyData.plain]; exact pyGoL_plain hk q
  | .ct l, p, e => by
    simp only [pyGo] at e
    cases q : pyGoL k l with
    | none => rw [q] at e; cases e
    | some ps => rw [q] at e; cases e; simp only [PyData.plain]; exact pyGoL_plain hk q
  | .lst l, p, e => by
    simp only [pyGo] at e
    cases q : pyGoL k l with
    | none => rw [q] at e; cases e
    | some ps => rw [q] at e; cases e; simp only [PyData.plain]; exact pyGoL_plain hk q
  | .fz l, p, e => by
    simp only [pyGo] at e
    cases q : pyGoL k l with
    | none => rw [q] at e; cases e
    | some ps => rw [q] at e; cases e; simp only [PyData.plain]; exact pyGoL_plain hk q
  | .ref i, p, e => hk i p e
theorem pyGoL_plain {k : Nat → Option PyData} (hk : ∀ i p, k i = some p → p.plain = true) : ∀ {l : List D} {ps : List PyData}, pyGoL k l = some ps → PyData.plainAll ps = true
  | [], ps, e => by cases e; rfl
  | d :: l, ps, e => by
    simp only [pyGoL] at e
    split at e
    · rename_i a b h1 h2
      cases e
      simp only [PyData.plainAll, Bool.and_eq_true]
      exact ⟨pyGo_plain hk h1, pyGoL_plain hk h2⟩
    · cases e
end
theorem kN_plain : ∀ (n i : Nat) (p : PyData), kN M n i = some p → p.plain = true
  | 0, i, p, e => by cases e
  | n + 1, i, p, e => by
    simp only [kN] at e
    split at e
    · rename_i l hc
      cases q : pyGoL (kN M n) l with
      | none => rw [q] at e; cases e
      | some ps => rw [q] at e; cases e; simp only [PyData.plain]; exact pyGoL_plain (kN_plain n) q
    · cases e
theorem pyM_plain {d : D} {p : PyData} (e : pyM M d = some p) : p.plain = true := pyGo_plain (kN_plain 4) e
def rEqP (K : PySem.W.Frag) : R2 := fun x y H Q => ∃ d e, Dp K H x d ∧ Dp K H y e ∧ d.plain = true ∧ e.plain = true ∧ min d.depth e.depth ≤ 60 ∧ Q (.bl (PyData.eqv d e)) H
def rNeP (K : PySem.W.Frag) : R2 := fun x y H Q => ∃ d e, Dp K H x d ∧ Dp K H y e ∧ d.plain = true ∧ e.plain = true ∧ min d.depth e.depth ≤ 60 ∧ Q (.bl (!PyData.eqv d e)) H
theorem op_eqP (hu : X.A.units + 64 < cLine) : OpR X (compareOp .Eq) (rEqP X.K) := by
  intro pins s σ H x y v u Q I rx ry h
  obtain ⟨d, e, hd, he, sd, se, hm, q⟩ := h
  obtain ⟨as, r1⟩ := Dp.reads I d x v hd rx
  obtain ⟨bs, r2⟩ := Dp.reads I e y u he ry
  exact PySem.SeqAt.eq_plain r1 r2 sd se (by omega) ⟨.bl _, H, I, rfl, q⟩
theorem op_neP (hu : X.A.units + 64 < cLine) : OpR X (compareOp .NotEq) (rNeP X.K) := by
  intro pins s σ H x y v u Q I rx ry h
  obtain ⟨d, e, hd, he, sd, se, hm, q⟩ := h
  obtain ⟨as, r1⟩ := Dp.reads I d x v hd rx
  obtain ⟨bs, r2⟩ := Dp.reads I e y u he ry
  exact PySem.SeqAt.ne_plain r1 r2 sd se (by omega) ⟨.bl _, H, I, rfl, q⟩
def oEq (ne : Bool) (a b : D) (M : Mem) : R D := match pyM M a, pyM M b with
  | some x, some y => if min x.depth y.depth ≤ 60 then .ok (.bl (if ne = true then !PyData.eqv x y else PyData.eqv x y)) M else .no
  | _, _ => .no
theorem op2_eq : Op2 G E (rEqP G.K) (oEq false) := fun W H M a b u v Q m ra rb p => by
  simp only [oEq] at p
  split at p
  · rename_i x y e1 e2
    split at p
    · rename_i hc
      exact ⟨x, y, pyM_ok m ra e1, pyM_ok m rb e2, pyM_plain e1, pyM_plain e2, hc, p.here m _ rfl⟩
    · exact p.elim
  · exact p.elim
theorem op2_ne : Op2 G E (rNeP G.K) (oEq true) := fun W H M a b u v Q m ra rb p => by
  simp only [oEq] at p
  split at p
  · rename_i x y e1 e2
    split at p
    · rename_i hc
      exact ⟨x, y, pyM_ok m ra e1, pyM_ok m rb e2, pyM_plain e1, pyM_plain e2, hc, p.here m _ rfl⟩
    · exact p.elim
  · exact p.elim
def rInP (K : PySem.W.Frag) (neg : Bool) : R2 := fun x y H Q => ∃ d ds, Dp K H x d ∧ (Dp K H y (.list ds) ∨ Dp K H y (.tuple ds)) ∧ d.plain = true ∧ PyData.plainAll ds = true ∧ min (PyData.depthAll ds) d.depth ≤ 60 ∧ Q (.bl (if neg = true then !ds.any fun z => PyData.eqv z d else ds.any fun z => PyData.eqv z d)) H
theorem op_inP (hu : X.A.units + 64 < cLine) : OpR X (compareOp .In) (rInP X.K false) := by
  intro pins s σ H x y v u Q I rx ry h
  obtain ⟨d, ds, hd, he, sd, se, hm, q⟩ := h
  obtain ⟨as, r1⟩ := Dp.reads I d x v hd rx
  rcases he with he | he
  · obtain ⟨bs, r2⟩ := Dp.reads I _ y u he ry
    exact PySem.SeqAt.in_list_data r2 r1 se sd (by omega) ⟨.bl _, H, I, rfl, q⟩
  · obtain ⟨bs, r2⟩ := Dp.reads I _ y u he ry
    exact PySem.SeqAt.in_tuple_data r2 r1 se sd (by omega) ⟨.bl _, H, I, rfl, q⟩
theorem op_notInP (hu : X.A.units + 64 < cLine) : OpR X (compareOp .NotIn) (rInP X.K true) := by
  intro pins s σ H x y v u Q I rx ry h
  obtain ⟨d, ds, hd, he, sd, se, hm, q⟩ := h
  obtain ⟨as, r1⟩ := Dp.reads I d x v hd rx
  rcases he with he | he
  · obtain ⟨bs, r2⟩ := Dp.reads I _ y u he ry
    exact PySem.SeqAt.notIn_list_data r2 r1 se sd (by omega) ⟨.bl _, H, I, rfl, q⟩
  · obtain ⟨bs, r2⟩ := Dp.reads I _ y u he ry
    exact PySem.SeqAt.notIn_tuple_data r2 r1 se sd (by omega) ⟨.bl _, H, I, rfl, q⟩
def oInD (neg : Bool) (a b : D) (M : Mem) : R D := match pyM M a, pyM M b with
  | some x, some (.list ds) => if min (PyData.depthAll ds) x.depth ≤ 60 then .ok (.bl (if neg = true then !ds.any fun z => PyData.eqv z x else ds.any fun z => PyData.eqv z x)) M else .no
  | some x, some (.tuple ds) => if min (PyData.depthAll ds) x.depth ≤ 60 then .ok (.bl (if neg = true then !ds.any fun z => PyData.eqv z x else ds.any fun z => PyData.eqv z x)) M else .no
  | _, _ => .no
theorem op2_inD {neg : Bool} : Op2 G E (rInP G.K neg) (oInD neg) := fun W H M a b u v Q m ra rb p => by
  simp only [oInD] at p
  split at p
  · rename_i x ds e1 e2
    split at p
    · rename_i hc
      exact ⟨x, ds, pyM_ok m ra e1, .inl (pyM_ok m rb e2), pyM_plain e1, pyM_plain e2, hc, p.here m _ rfl⟩
    · exact p.elim
  · rename_i x ds e1 e2
    split at p
    · rename_i hc
      exact ⟨x, ds, pyM_ok m ra e1, .inr (pyM_ok m rb e2), pyM_plain e1, pyM_plain e2, hc, p.here m _ rfl⟩
    · exact p.elim
  · exact p.elim
section
variable {a b c : Expr} {fa fb fc : FE} {pos : Pos}
theorem sn_eq (hu : X.A.units + 64 < cLine) (ha : PE X a (tE ⟨X.K, cl, X.w⟩ E fa)) (hb : PE X b (tE ⟨X.K, cl, X.w⟩ E fb)) : PE X (.Compare a [.Eq] [b] pos) (tE ⟨X.K, cl, X.w⟩ E (mOp (oEq false) fa fb)) := sn_cmp (op_eqP hu) op2_eq (nomark _) ha hb
def oOrd (p : Int → Int → Bool) (q : List Nat → List Nat → Bool) : D → D → Mem → R D
  | .int i, .int j, M => .ok (.bl (p i j)) M
  | .str x, .str y, M => .ok (.bl (q x y)) M
  | _, _, _ => .no
def oLt := oOrd (fun i j => decide (i < j)) (fun x y => decide (x < y))
def oLe := oOrd (fun i j => decide (i ≤ j)) (fun x y => !decide (y < x))
def oGt := oOrd (fun i j => decide (j < i)) (fun x y => decide (y < x))
def oGe := oOrd (fun i j => decide (j ≤ i)) (fun x y => !decide (x < y))
theorem op2_ord {p : Int → Int → Bool} {q : List Nat → List Nat → Bool} : Op2 G E (fun x y H Q => rI0 (fun i j => .bl (p i j)) x y H Q ∨ ∃ i j : Str, x = .str i ∧ y = .str j ∧ Q (.bl (q i.cps.toList j.cps.toList)) H) (oOrd p q) := fun W H M a b u v Q m ra rb h => by
  cases a <;> cases b <;> first
    | exact h.elim
    | exact .inl ⟨_, _, ra, rb, h.here m _ rfl⟩
    | exact .inr ⟨_, _, ra, rb, h.here m _ (by rw [l2s_toList, l2s_toList]; rfl)⟩
theorem sn_ge (ha : PE X a (tE G E fa)) (hb : PE X b (tE G E fb)) : PE X (.Compare a [.GtE] [b] pos) (tE G E (mOp oGe fa fb)) := sn_cmp (op_ge.or op_ge_str) op2_ord (nomark _) ha hb
def oIsN (neg : Bool) : D → Mem → R D
  | .non, M => .ok (.bl (!neg)) M
  | _, M => .ok (.bl neg) M
def flatD : D → Bool
  | .non | .bl _ | .int _ | .str _ => true
  | _ => false
def eqF : D → D → Bool
  | .non, .non => true
  | .bl a, .bl b => a == b
  | .bl a, .int b => (if a = true then 1 else 0) == b
  | .int a, .bl b => a == (if b = true then 1 else 0)
  | .int a, .int b => a == b
  | .str a, .str b => a == b
  | _, _ => false
theorem l2s_beq (a b : List Nat) : (l2s a == l2s b) = (a == b) := by
  by_cases h : a = b
  · subst h; simp
  · have h2 : ¬ l2s a = l2s b := fun z => h (l2s_inj z)
    rw [beq_eq_false_iff_ne.mpr h, beq_eq_false_iff_ne.mpr h2]
theorem flat_ok {d : D} {u : V} (r : Rp G W H d u) (h : flatD d = true) : flatV u = true := by
  cases d <;> first
    | (cases r; rfl)
    | cases h
theorem eqF_ok {x y : D} {u v : V} (rx : Rp G W H x u) (ry : Rp G W H y v) (hx : flatD x = true) (hy : flatD y = true) : eqV u v = eqF x y := by
  cases x <;> first
    | (cases hx; done)
    | (cases rx
       cases y <;> first
        | (cases hy; done)
        | (cases ry; first | rfl | exact l2s_beq _ _ | (rename_i p q; cases p <;> rfl) | (rename_i p q; cases q <;> rfl)))
theorem inV_ok {x : D} {u : V} (rx : Rp G W H x u) (hx : flatD x = true) : ∀ {l : List D} {us : List V}, RpL G W H l us → l.all flatD = true → us.all flatV = true ∧ inV u us = l.any fun y => eqF y x
  | [], us, r, h => by have : us = [] := r; subst this; exact ⟨rfl, rfl⟩
  | d :: l, us, r, h => by
    obtain ⟨v, us', e1, r1, r2⟩ := r
    subst e1
    rw [List.all_cons, Bool.and_eq_true] at h
    obtain ⟨k1, k2⟩ := inV_ok rx hx r2 h.2
    refine ⟨by rw [List.all_cons, flat_ok r1 h.1, k1]; rfl, ?_⟩
    have k3 : inV u us' = us'.any fun y => eqV y u := rfl
    show (v :: us').any (fun y => eqV y u) = _
    rw [List.any_cons, List.any_cons, ← k2, k3, eqF_ok r1 rx h.1 hx]
def oInF (neg : Bool) (a b : D) (M : Mem) : R D := match seqOf M b with
  | some l => if flatD a = true ∧ l.all flatD = true then .ok (.bl (if neg = true then !l.any fun y => eqF y a else l.any fun y => eqF y a)) M else .no
  | none => .no
theorem op2_inF {neg : Bool} : Op2 G E (rIn G.K neg) (oInF neg) := fun W H M a b u v Q m ra rb p => by
  simp only [oInF] at p
  split at p
  · rename_i l e1
    split at p
    · rename_i hc
      obtain ⟨p1, us, h1, h2, h3⟩ := seqOf_ok m rb e1
      obtain ⟨k1, k2⟩ := inV_ok ra hc.1 h3 hc.2
      refine ⟨p1, us, h1, h2, flat_ok ra hc.1, k1, ?_⟩
      rw [k2]
      exact p.here m _ rfl
    · exact p.elim
  · exact p.elim
/-- one sign in a text -/
def oInS (neg : Bool) : D → D → Mem → R D
  | .str [c], .str y, M => .ok (.bl (if neg = true then !decide (c ∈ y) else decide (c ∈ y))) M
  | _, _, _ => .no
def mChain (o o' : D → D → Mem → R D) (fa fb fc : FE) : FE := fun env M => (fa env M).bind fun x m => (fb env m).bind fun y m => (o x y m).bind fun z m => match z with
  | .bl true => (fc env m).bind fun w m => o' y w m
  | .bl false => .ok (.bl false) m
  | _ => .no
end
/-- the truth of a value -/
def truD (M : Mem) : D → Option Bool
  | .non => some false
  | .bl b => some b
  | .int i => some (i != 0)
  | .str x => if x.length ≤ 16777216 then some (!x.isEmpty) else none
  | .tup l => some (!l.isEmpty)
  | .ct l => some (!l.isEmpty)
  | .lst l => some (!l.isEmpty)
  | .fz l => some (!l.isEmpty)
  | .ref i => match M[i]? with
    | some (.lst l) => some (!l.isEmpty)
    | some (.dk false kvs) => some (!kvs.isEmpty)
    | _ => none
/-- a test that must be a truth -/
def bOf (f : FE) : FT := fun env M => (f env M).bind fun d m => match d with
  | .bl b => .ok b m
  | _ => .no
section
variable {a b c : Expr} {fa fb fc : FE} {ga gb gc : FT} {pos : Pos}
theorem st_val (ha : PE X a (tE G E fa)) (he : ∀ whole, isTrue a X.env whole = (do let v ← whole; standAt a.pos; holding [v] (truthy v)) := by intro _; rfl) : PT X a (tT G E (bOf fa)) := pt_imp (pt_val ha he) fun σ H Q ⟨W, env, M, s, p⟩ => by
  refine tE.bind s p fun d m W1 H1 u f1 s1 r1 p1 => ?_
  cases d with
  | bl k => exact ⟨k, r1, p1.here s1.mem⟩
  | _ => exact p1.elim
/-- any value as a test -/
def tOf (f : FE) : FT := fun env M => (f env M).bind fun d m => match truD m d with
  | some b => .ok b m
  | none => .no
theorem truD_ok (m : MemOk G W H M) {d : D} {u : V} {k : Bool} (r : Rp G W H d u) (e : truD M d = some k) : TruV G.K u H k := by
  cases d with
  | non => cases r; cases e; rfl
  | bl b => cases r; cases e; rfl
  | int b => cases r; cases e; rfl
  | str x =>
    cases r
    simp only [truD] at e
    split at e
    · rename_i hz
      cases e
      refine ⟨by rw [l2s_len, line_eq]; exact hz, ?_⟩
      rw [l2s_len]
      cases x with
      | nil => rfl
      | cons c x => simp; omega
    · cases e
  | tup l =>
    obtain ⟨a, us, e1, s1, r1⟩ := r
    subst e1; cases e
    refine .inr (.inl ⟨us, s1.sq, ?_⟩)
    cases l with
    | nil => have : us = [] := r1; subst this; rfl
    | cons d l => obtain ⟨_, _, e2, _⟩ := r1; subst e2; rfl
  | ct l =>
    obtain ⟨a, us, e1, s1, r1⟩ := r
    subst e1; cases e
    refine .inr (.inl ⟨us, s1.sq, ?_⟩)
    cases l with
    | nil => have : us = [] := r1; subst this; rfl
    | cons d l => obtain ⟨_, _, e2, _⟩ := r1; subst e2; rfl
  | lst l =>
    obtain ⟨a, us, e1, s1, r1⟩ := r
    subst e1; cases e
    refine .inl ⟨us, .inl (.inl s1.1), ?_⟩
    cases l with
    | nil => have : us = [] := r1; subst this; rfl
    | cons d l => obtain ⟨_, _, e2, _⟩ := r1; subst e2; rfl
  | fz l =>
    obtain ⟨a, us, e1, s1, r1⟩ := lstOf_ok m (d := .fz l) r rfl
    subst e1; cases e
    refine .inl ⟨us, s1, ?_⟩
    cases l with
    | nil => have : us = [] := r1; subst this; rfl
    | cons d l => obtain ⟨_, _, e2, _⟩ := r1; subst e2; rfl
  | ref i =>
    obtain ⟨a, e1, e2⟩ := r
    subst e2
    simp only [truD] at e
    split at e
    · rename_i l hc
      cases e
      obtain ⟨us, h1, r1⟩ := m.cell i _ a hc e1
      refine .inl ⟨us, .inl (.inl h1), ?_⟩
      cases l with
      | nil => have : us = [] := r1; subst this; rfl
      | cons d l => obtain ⟨_, _, e2, _⟩ := r1; subst e2; rfl
    · rename_i kvs hc
      cases e
      obtain ⟨vs, h1, r1⟩ := m.cell i _ a hc e1
      refine .inr (.inr ⟨vs, h1, ?_⟩)
      cases r1 <;> rfl
    · cases e
theorem st_truth (ha : PE X a (tE ⟨X.K, cl, X.w⟩ E fa)) (he : ∀ whole, isTrue a X.env whole = (do let v ← whole; standAt a.pos; holding [v] (truthy v)) := by intro _; rfl) : PT X a (tT ⟨X.K, cl, X.w⟩ E (tOf fa)) := pt_imp (pt_truth ha he) fun σ H Q ⟨W, env, M, s, p⟩ => by
  refine tE.bind s p fun d m W1 H1 u f1 s1 r1 p1 => ?_
  split at p1
  · rename_i k e
    exact ⟨k, truD_ok s1.mem r1 e, p1.here s1.mem⟩
  · exact p1.elim
def tAndM (f g : FT) : FT := fun env M => (f env M).bind fun b m => if b = true then g env m else .ok false m
def tOrM (f g : FT) : FT := fun env M => (f env M).bind fun b m => if b = true then .ok true m else g env m
def tNotM (f : FT) : FT := fun env M => (f env M).bind fun b m => .ok (!b) m
theorem tT_and {f g : FT} {σ : L2.St} {H : Hp} {Q : Bool → Hp → Prop} (h : tT G E (tAndM f g) σ H Q) : tAnd (tT G E f) (tT G E g) σ H Q := by
  obtain ⟨W, env, M, s, p⟩ := h
  refine tT.bind s p fun b m W1 H1 f1 s1 p1 => ?_
  cases b with
  | true => rw [if_pos rfl] at p1 ⊢; exact ⟨W1, env, m, s1, p1⟩
  | false => rw [if_neg Bool.false_ne_true] at p1 ⊢; exact p1.here s1.mem
theorem tT_or {f g : FT} {σ : L2.St} {H : Hp} {Q : Bool → Hp → Prop} (h : tT G E (tOrM f g) σ H Q) : tOr (tT G E f) (tT G E g) σ H Q := by
  obtain ⟨W, env, M, s, p⟩ := h
  refine tT.bind s p fun b m W1 H1 f1 s1 p1 => ?_
  cases b with
  | true => rw [if_pos rfl] at p1 ⊢; exact p1.here s1.mem
  | false => rw [if_neg Bool.false_ne_true] at p1 ⊢; exact ⟨W1, env, m, s1, p1⟩
theorem sw_and1 (ha : PT X a (tT G E ga)) : PW X (.BoolOp .And [a] pos) (tT G E ga) := pw_and1 ha
theorem sw_or1 (ha : PT X a (tT G E ga)) : PW X (.BoolOp .Or [a] pos) (tT G E ga) := pw_or1 ha
theorem sw_and {rest : List Expr} (ha : PT X a (tT G E ga)) (hb : PW X (.BoolOp .And (b :: rest) pos) (tT G E gb)) : PW X (.BoolOp .And (a :: b :: rest) pos) (tT G E (tAndM ga gb)) := pw_imp (pw_and ha hb) fun _ _ _ h => tT_and h
theorem sw_or {rest : List Expr} (ha : PT X a (tT G E ga)) (hb : PW X (.BoolOp .Or (b :: rest) pos) (tT G E gb)) : PW X (.BoolOp .Or (a :: b :: rest) pos) (tT G E (tOrM ga gb)) := pw_imp (pw_or ha hb) fun _ _ _ h => tT_or h
def mAnd (f g : FE) : FE := fun env M => (f env M).bind fun d m => match d with
  | .bl true => g env m
  | .bl false => .ok (.bl false) m
  | _ => .no
def mOr (f g : FE) : FE := fun env M => (f env M).bind fun d m => match d with
  | .bl true => .ok (.bl true) m
  | .bl false => g env m
  | _ => .no
def mNot (f : FE) : FE := fun env M => (f env M).bind fun d m => match d with
  | .bl b => .ok (.bl (!b)) m
  | _ => .no
theorem sn_one {op} (ha : PE X a (tE G E fa)) : PE X (.BoolOp op [a] pos) (tE G E fa) := pe_one ha
def mIf (t : FT) (f g : FE) : FE := fun env M => (t env M).bind fun b m => if b = true then f env m else g env m
theorem sn_if (hc : PT X c (tT G E gc)) (ha : PE X a (tE G E fa)) (hb : PE X b (tE G E fb)) : PE X (.IfExp c a b pos) (tE G E (mIf gc fa fb)) := pe_imp (pe_ifExp hc ha hb) fun σ H Q ⟨W, env, M, s, p⟩ => by
  refine tT.bind s p fun k m W1 H1 f1 s1 p1 => ?_
  cases k with
  | true => rw [if_pos rfl] at p1 ⊢; exact ⟨W1, env, m, s1, p1⟩
  | false => rw [if_neg Bool.false_ne_true] at p1 ⊢; exact ⟨W1, env, m, s1, p1⟩
def aNil : FA := fun _ M => .ok [] M
def aCons (f : FE) (g : FA) : FA := fun env M => (f env M).bind fun d m => (g env m).bind fun ds m' => .ok (d :: ds) m'
theorem sa_nil : PA X [] (tA G E aNil) := pa_imp pa_nil fun σ H Q ⟨W, env, M, s, p⟩ => p.here s.mem _ rfl
theorem sa_cons {es : List Expr} {g : FA} (ha : PE X a (tE G E fa)) (hr : PA X es (tA G E g)) (hs : starEach (a :: es) X.env = (false, eval a X.env) :: starEach es X.env := by rfl) : PA X (a :: es) (tA G E (aCons fa g)) := pa_imp (pa_cons ha hr hs) fun σ H Q ⟨W, env, M, s, p⟩ => by
  refine tE.bind s p fun d m W1 H1 u f1 s1 r1 p1 => ?_
  refine tA.bind s1 p1 fun ds m2 W2 H2 us f2 s2 r2 p2 => ?_
  exact p2.here s2.mem _ ⟨u, us, rfl, s1.mem.rp f2 r1, r2⟩
def mTup (g : FA) : FE := fun env M => (g env M).bind fun ds m => if ds.length ≤ 16777216 then .ok (.tup ds) m else .no
def mLst (c : Bool) (g : FA) : FE := fun env M => (g env M).bind fun ds m => if ds.length ≤ 16777216 then mkL c ds m else .no
theorem sn_tup {es : List Expr} {g : FA} {x1} (h : PA X es (tA G E g)) : PE X (.Tuple es x1 pos) (tE G E (mTup g)) := pe_imp (pe_tup h) fun σ H Q ⟨W, env, M, s, p⟩ => by
  refine tA.bind s p fun ds m2 W2 H2 us f2 s2 r2 p2 => ?_
  split at p2
  · rename_i hz
    exact ⟨by rw [r2.len, line_eq]; exact hz, tup_new s2.mem p2 r2⟩
  · exact p2.elim
theorem sn_lst (c : Bool) {es : List Expr} {g : FA} (h : PA X es (tA G E g)) : PE X (.List es pos) (tE G E (mLst c g)) := pe_imp (pe_lst h) fun σ H Q ⟨W, env, M, s, p⟩ => by
  refine tA.bind s p fun ds m2 W2 H2 us f2 s2 r2 p2 => ?_
  split at p2
  · rename_i hz
    exact ⟨by rw [r2.len, line_eq]; exact hz, mkL_new s2.mem p2 r2⟩
  · exact p2.elim
end
end
end Fn
set_option Elab.async false
set_option linter.all false
set_option maxRecDepth 100000
set_option maxHeartbeats 1000000
namespace Fn
open PySem PySem.Spec PyProof.Rows L2
section
variable {X : Cx} {G : Gx} {cl : Nat → Addr} {E : XK} {W : Wd} {H : Hp} {M : Mem} {a b c : Expr} {fa fb fc : FE} {pos : Pos}
def oIx : D → D → Mem → R D
  | .str x, .int i, M => if x.length ≤ 16777216 then match atI x i with
    | some c => .ok (.str [c]) M
    | none => .no
    else .no
  | a, .int i, M => match seqOf M a with
    | some l => match atI l i with
      | some d => .ok d M
      | none => .no
    | none => .no
  | _, _, _ => .no
theorem RpL.atI {ds : List D} {us : List V} (r : RpL G W H ds us) {i : Int} {d : D} (e : atI ds i = some d) : ∃ u, L2.atI us i = some u ∧ Rp G W H d u := by
  unfold L2.atI at e ⊢
  rw [r.len]
  cases h : ixN ds.length i with
  | none => rw [h] at e; cases e
  | some j => rw [h] at e; exact r.get e
theorem op2_ix : Op2 G E (rIx G.K) oIx := fun W H M a b u v Q m ra rb p => by
  cases b with
  | int i =>
    cases rb
    have seq : ∀ l, seqOf M a = some l → PR G W H (PV G Q) E (match atI l i with | some d => .ok d M | none => (.no : R D)) → rIx G.K u (.int i) H Q := fun l e1 p => by
      split at p
      · rename_i d e2
        obtain ⟨p1, us, h1, h2, h3⟩ := seqOf_ok m ra e1
        obtain ⟨w, h4, h5⟩ := h3.atI e2
        rcases h2 with h2 | h2
        · exact .inl ⟨p1, us, i, w, h1, rfl, h2, h4, p.here m _ h5⟩
        · exact .inr (.inl ⟨p1, us, i, w, h1, rfl, h2, h4, p.here m _ h5⟩)
      · exact p.elim
    cases a with
    | str x =>
      cases ra
      simp only [oIx] at p
      split at p
      · rename_i hz
        split at p
        · rename_i c e2
          exact .inr (.inr ⟨l2s x, i, c, rfl, rfl, by rw [l2s_len, line_eq]; exact hz, by rw [l2s_toList]; exact e2, p.here m _ rfl⟩)
        · exact p.elim
      · exact p.elim
    | tup l => exact seq l rfl p
    | ct l => exact seq l rfl p
    | lst l => exact seq l rfl p
    | fz l => exact seq l rfl p
    | ref j =>
      simp only [oIx] at p
      split at p
      · rename_i l e1
        exact seq l e1 p
      · exact p.elim
    | _ => exact p.elim
  | _ => cases a <;> exact p.elim
theorem sn_ix (ha : PE X a (tE ⟨X.K, cl, X.w⟩ E fa)) (hb : PE X b (tE ⟨X.K, cl, X.w⟩ E fb)) (hs : PlainIx b := by intro _ _; rfl) : PE X (.Subscript a b pos) (tE ⟨X.K, cl, X.w⟩ E (mOp oIx fa fb)) :=
  pe_imp (pe_ix ix_seq ha hb hs) (tE_op op2_ix)
def FO := Env → Mem → R (Option Int)
def pNone : FO := fun _ M => .ok none M
def pSome (f : FE) : FO := fun env M => (f env M).bind fun d m => match d with
  | .int i => .ok (some i) m
  | _ => .no
def cutD {α : Type} (xs : List α) (lo hi : Option Int) : List α := (xs.drop (HT.sIx xs.length 0 lo)).take (HT.sIx xs.length xs.length hi - HT.sIx xs.length 0 lo)
def oSl (c : Bool) (d : D) (lo hi : Option Int) (M : Mem) : R D := match d with
  | .str x => if x.length ≤ 16777216 then .ok (.str (cutD x lo hi)) M else .no
  | .tup l => .ok (.tup (cutD l lo hi)) M
  | d => match lstOf M d with
    | some l => mkL c (cutD l lo hi) M
    | none => .no
def mSl (c : Bool) (f : FE) (lo hi : FO) : FE := fun env M => (f env M).bind fun d m => (lo env m).bind fun l m1 => (hi env m1).bind fun h m2 => oSl c d l h m2
def tOO (G : Gx) (E : XK) (f : FO) : L2.St → Hp → (Option Int → Hp → Prop) → Prop := fun σ H Q => ∃ W env M, Sta G W env M σ H ∧ PR G W H (fun o _ _ H' => Q o H') E (f env M)
theorem po_imp {e : Option Expr} {t t' : TO} (h : PO X e t) (i : ∀ σ H Q, t' σ H Q → t σ H Q) : PO X e t' := ⟨fun pins s σ H Q I q => h.run pins s σ H Q I (i σ H Q q)⟩
theorem sp_none : PO X none (tOO G E pNone) := po_imp po_none fun σ H Q ⟨W, env, M, s, p⟩ => p.here s.mem
theorem sp_some (ha : PE X a (tE G E fa)) : PO X (some a) (tOO G E (pSome fa)) := po_imp (po_some ha) fun σ H Q ⟨W, env, M, s, p⟩ => by
  refine tE.bind s p fun d m W1 H1 u f1 s1 r1 p1 => ?_
  cases d with
  | int i => exact ⟨i, r1, p1.here s1.mem⟩
  | _ => exact p1.elim
theorem RpL.cut {ds : List D} {us : List V} (r : RpL G W H ds us) (lo hi : Option Int) : RpL G W H (cutD ds lo hi) (cutV us lo hi) := by
  unfold cutD cutV
  rw [r.len]
  exact (r.drop _).take _
theorem cutD_whole {α : Type} {xs : List α} {lo hi : Option Int} (h : HT.sIx xs.length 0 lo = 0 ∧ HT.sIx xs.length xs.length hi = xs.length) : cutD xs lo hi = xs := by
  unfold cutD
  rw [h.1, h.2, List.drop_zero, Nat.sub_zero, List.take_length]
theorem sl2 (c : Bool) (d : D) (lo hi : Option Int) (W : Wd) (H : Hp) (M : Mem) (u : V) (Q : VK) (m : MemOk G W H M) (r : Rp G W H d u) (p : PR G W H (PV G Q) E (oSl c d lo hi M)) :
    rSlL G.K u lo hi H Q ∨ rSlA G.K u lo hi H Q ∨ rSlS u lo hi H Q := by
  have seq : ∀ l, lstOf M d = some l → PR G W H (PV G Q) E (mkL c (cutD l lo hi) M) → rSlL G.K u lo hi H Q := fun l e q => by
    obtain ⟨a1, us, h1, h2, h3⟩ := lstOf_ok m r e
    exact ⟨a1, us, h1, h2, mkL_new m q (h3.cut lo hi)⟩
  cases d with
  | str x =>
    cases r
    simp only [oSl] at p
    split at p
    · rename_i hz
      refine .inr (.inr ⟨l2s x, rfl, by rw [l2s_len, line_eq]; exact hz, p.here m _ ?_⟩)
      show V.str _ = V.str _
      unfold cutS cutD
      rw [l2s_len, l2s_toList]
      rfl
    · exact p.elim
  | tup l =>
    obtain ⟨a1, us, h1, h2, h3⟩ := r
    refine .inr (.inl ⟨a1, us, h1, h2.sq, fun hw => p.here m _ ⟨a1, us, rfl, h2.imp id fun z => ⟨by rw [z.1]; simp [cutD], z.2⟩, ?_⟩, fun _ => tup_new m p (h3.cut lo hi)⟩)
    have hw' := hw
    rw [h3.len] at hw'
    rw [cutD_whole hw']
    exact h3
  | ct l => exact p.elim
  | lst l => exact .inl (seq l rfl p)
  | fz l => exact .inl (seq l rfl p)
  | ref j =>
    simp only [oSl] at p
    split at p
    · rename_i l e1
      exact .inl (seq l e1 p)
    · exact p.elim
  | _ => exact p.elim
theorem sn_sl (c : Bool) {lo hi : Option Expr} {gl gh : FO} {p2 : Pos} (ha : PE X a (tE ⟨X.K, cl, X.w⟩ E fa)) (hl : PO X lo (tOO ⟨X.K, cl, X.w⟩ E gl)) (hh : PO X hi (tOO ⟨X.K, cl, X.w⟩ E gh)) : PE X (.Subscript a (.Slice lo hi none p2) pos) (tE ⟨X.K, cl, X.w⟩ E (mSl c fa gl gh)) :=
  pe_imp (pe_slice (sl_list.or (sl_tupA.or sl_str)) ha hl hh) fun σ H Q ⟨W, env, M, s, p⟩ => by
    refine tE.bind s p fun d m W1 H1 u f1 s1 r1 p1 => ?_
    refine ⟨W1, env, m, s1, PR.bind p1 fun l m2 W2 H2 f2 k2 p2 => ?_⟩
    have s2 := s1.fut f2 k2
    refine ⟨W2, env, m2, s2, PR.bind p2 fun h m3 W3 H3 f3 k3 p3 => ?_⟩
    exact sl2 c d l h W3 H3 m3 u Q k3 (s2.mem.rp f3 (s1.mem.rp f2 r1)) p3
def Fn1 (G : Gx) (E : XK) (r : List V → Hp → VK → Prop) (o : List D → Mem → R D) : Prop := ∀ W H M ds us Q, MemOk G W H M → RpL G W H ds us → PR G W H (PV G Q) E (o ds M) → r us H Q
def mCall (o : List D → Mem → R D) (g : FA) : FE := fun env M => (g env M).bind o
theorem tE_call {r : List V → Hp → VK → Prop} {o : List D → Mem → R D} {g : FA} (hs : Fn1 G E r o) (σ : L2.St) (H : Hp) (Q : VK) (h : tE G E (mCall o g) σ H Q) : tCB r (tA G E g) σ H Q := by
  obtain ⟨W, env, M, s, p⟩ := h
  refine tA.bind s p fun ds m2 W2 H2 us f2 s2 r2 p2 => ?_
  exact hs W2 H2 m2 ds us Q s2.mem r2 p2
def oLen : List D → Mem → R D
  | [.str x], M => if x.length ≤ 16777216 then .ok (.int x.length) M else .no
  | [d], M => match seqOf M d with
    | some l => .ok (.int l.length) M
    | none => .no
  | _, _ => .no
theorem fn_len : Fn1 G E (fun xs H Q => (∃ p ys, xs = [.ref p] ∧ (SqL G.K H p ys ∨ SqT G.K H p ys) ∧ Q (.int ys.length) H) ∨ ∃ z : Str, xs = [.str z] ∧ z.length ≤ sizeLine ∧ Q (.int z.length) H) oLen := fun W H M ds us Q m r p => by
  match ds, r, p with
  | [d], r, p =>
    obtain ⟨u, us', e1, r1, r2⟩ := r
    have : us' = [] := r2
    subst this e1
    have seq : ∀ l, seqOf M d = some l → PR G W H (PV G Q) E (.ok (.int l.length) M) → ∃ p ys, [u] = [V.ref p] ∧ (SqL G.K H p ys ∨ SqT G.K H p ys) ∧ Q (.int ys.length) H := fun l e q => by
      obtain ⟨a1, us, h1, h2, h3⟩ := seqOf_ok m r1 e
      subst h1
      exact ⟨a1, us, rfl, h2, by rw [h3.len]; exact q.here m _ rfl⟩
    cases d with
    | str x =>
      cases r1
      simp only [oLen] at p
      split at p
      · rename_i hz
        exact .inr ⟨_, rfl, by rw [l2s_len, line_eq]; exact hz, by rw [l2s_len]; exact p.here m _ rfl⟩
      · exact p.elim
    | tup l => exact .inl (seq l rfl p)
    | ct l => exact .inl (seq l rfl p)
    | lst l => exact .inl (seq l rfl p)
    | fz l => exact .inl (seq l rfl p)
    | ref j =>
      simp only [oLen] at p
      split at p
      · rename_i l e1
        exact .inl (seq l e1 p)
      · exact p.elim
    | _ => exact p.elim
  | [], r, p => exact p.elim
  | a :: b :: c, r, p => cases a <;> exact p.elim
theorem call_lenA : CallR X (.builtin "len") (fun xs H Q => (∃ p ys, xs = [.ref p] ∧ (SqL X.K H p ys ∨ SqT X.K H p ys) ∧ Q (.int ys.length) H) ∨ ∃ z : Str, xs = [.str z] ∧ z.length ≤ sizeLine ∧ Q (.int z.length) H) := call_len_seq.or call_len_str
def o2I (f : Int → Int → Int) : List D → Mem → R D
  | [.int i, .int j], M => .ok (.int (f i j)) M
  | _, _ => .no
theorem fn_2I {f : Int → Int → Int} : Fn1 G E (fun xs H Q => ∃ i j, xs = [.int i, .int j] ∧ Q (.int (f i j)) H) (o2I f) := fun W H M ds us Q m r p => by
  unfold o2I at p
  split at p
  · obtain ⟨u, us', e1, r1, v, us2, e2, r2, r3⟩ := r
    have : us2 = [] := r3
    subst this e2 e1
    cases r1; cases r2
    exact ⟨_, _, rfl, p.here m _ rfl⟩
  · exact p.elim
def oMax := o2I fun i j => if j > i then j else i
def oMin := o2I fun i j => if j < i then j else i
def oAbs : List D → Mem → R D
  | [.int i], M => .ok (.int (if i < 0 then -i else i)) M
  | _, _ => .no
theorem fn_abs : Fn1 G E (fun xs H Q => ∃ i, xs = [.int i] ∧ Q (.int (if i < 0 then -i else i)) H) oAbs := fun W H M ds us Q m r p => by
  unfold oAbs at p
  split at p
  · obtain ⟨u, us', e1, r1, r3⟩ := r
    have : us' = [] := r3
    subst this e1
    cases r1
    exact ⟨_, rfl, p.here m _ rfl⟩
  · exact p.elim
def oInt : List D → Mem → R D
  | [.int i], M => .ok (.int i) M
  | [.bl k], M => .ok (.int (if k = true then 1 else 0)) M
  | _, _ => .no
theorem fn_int : Fn1 G E (fun xs H Q => (∃ i, xs = [.int i] ∧ Q (.int i) H) ∨ ∃ k, xs = [.bl k] ∧ Q (.int (if k then 1 else 0)) H) oInt := fun W H M ds us Q m r p => by
  unfold oInt at p
  split at p
  · obtain ⟨u, us', e1, r1, r3⟩ := r
    have : us' = [] := r3
    subst this e1
    cases r1
    exact .inl ⟨_, rfl, p.here m _ rfl⟩
  · obtain ⟨u, us', e1, r1, r3⟩ := r
    have : us' = [] := r3
    subst this e1
    cases r1
    exact .inr ⟨_, rfl, p.here m _ rfl⟩
  · exact p.elim
def oList (c : Bool) : List D → Mem → R D
  | [d], M => match seqOf M d with
    | some l => mkL c l M
    | none => .no
  | _, _ => .no
theorem rp_one {d : D} {us : List V} (r : RpL G W H [d] us) : ∃ u, us = [u] ∧ Rp G W H d u := by
  obtain ⟨u, us', e1, r1, r2⟩ := r
  have : us' = [] := r2
  subst this e1
  exact ⟨u, rfl, r1⟩
theorem fn_list {c : Bool} : Fn1 G E (fun xs H Q => ∃ p ys, xs = [.ref p] ∧ (SqL G.K H p ys ∨ SqT G.K H p ys) ∧ ∀ l, H l = none → Q (.ref l) (upd H l (.lst ys))) (oList c) := fun W H M ds us Q m r p => by
  unfold oList at p
  split at p
  · obtain ⟨u, e1, r1⟩ := rp_one r
    subst e1
    split at p
    · rename_i l e1
      obtain ⟨a1, us, h1, h2, h3⟩ := seqOf_ok m r1 e1
      subst h1
      exact ⟨a1, us, rfl, h2, mkL_new m p h3⟩
    · exact p.elim
  · exact p.elim
def oTuple : List D → Mem → R D
  | [.tup l], M => .ok (.tup l) M
  | [d], M => match lstOf M d with
    | some l => .ok (.tup l) M
    | none => .no
  | _, _ => .no
theorem fn_tuple : Fn1 G E (fun xs H Q => ∃ p ys, xs = [.ref p] ∧ ((SqL G.K H p ys ∧ ∀ l, H l = none → Q (.ref l) (upd H l (.tup ys))) ∨ (SqT G.K H p ys ∧ Q (.ref p) H))) oTuple := fun W H M ds us Q m r p => by
  unfold oTuple at p
  split at p
  · obtain ⟨u, e1, r1⟩ := rp_one r
    subst e1
    obtain ⟨a1, us, h1, h2, h3⟩ := r1
    subst h1
    exact ⟨a1, us, rfl, .inr ⟨h2.sq, p.here m _ ⟨a1, us, rfl, h2, h3⟩⟩⟩
  · obtain ⟨u, e1, r1⟩ := rp_one r
    subst e1
    split at p
    · rename_i l e1
      obtain ⟨a1, us, h1, h2, h3⟩ := lstOf_ok m r1 e1
      subst h1
      exact ⟨a1, us, rfl, .inl ⟨h2, tup_new m p h3⟩⟩
    · exact p.elim
  · exact p.elim
def Mt1 (G : Gx) (E : XK) (r : V → List V → Hp → VK → Prop) (o : D → List D → Mem → R D) : Prop := ∀ W H M a u ds us Q, MemOk G W H M → Rp G W H a u → RpL G W H ds us → PR G W H (PV G Q) E (o a ds M) → r u us H Q
def tyOk (T : String) (M : Mem) : D → Bool
  | .str _ => T == "str"
  | .int _ => T == "int"
  | .lst _ => T == "list"
  | .fz _ => T == "list"
  | .ref i => match M[i]? with
    | some (.lst _) => T == "list"
    | some (.dk false _) => T == "dict"
    | some (.dt false _) => T == "dict"
    | some (.dn false _) => T == "dict"
    | _ => false
  | _ => false
/-- a method's object is of the type -/
def tyW (K : PySem.W.Frag) (w : World) (T : String) (x : V) (H : Hp) : Prop := tyV K T x H ∨ (T = "dict" ∧ ∃ a es, x = V.ref a ∧ H a = some (NdO w a es))
theorem tyOk_ok {T : String} {d : D} {u : V} (m : MemOk G W H M) (r : Rp G W H d u) (e : tyOk T M d = true) : tyW G.K G.w T u H := by
  cases d with
  | str x => cases r; exact .inl (eq_of_beq e)
  | int x => cases r; exact .inl (eq_of_beq e)
  | lst l => obtain ⟨a1, us, h1, h2, h3⟩ := lstOf_ok m (d := .lst l) r rfl; subst h1; exact .inl (.inl ⟨eq_of_beq e, us, h2⟩)
  | fz l => obtain ⟨a1, us, h1, h2, h3⟩ := lstOf_ok m (d := .fz l) r rfl; subst h1; exact .inl (.inl ⟨eq_of_beq e, us, h2⟩)
  | ref i =>
    obtain ⟨a, e1, e2⟩ := r
    subst e2
    simp only [tyOk] at e
    split at e
    · rename_i l hc
      obtain ⟨us, h1, r1⟩ := m.cell i _ a hc e1
      exact .inl (.inl ⟨eq_of_beq e, us, .inl (.inl h1)⟩)
    · rename_i kvs hc
      obtain ⟨us, h1, r1⟩ := m.cell i _ a hc e1
      exact .inl (.inr (.inr (.inl ⟨eq_of_beq e, .inl ⟨us, h1⟩⟩)))
    · rename_i kvs hc
      obtain ⟨us, h1, r1⟩ := m.cell i _ a hc e1
      exact .inl (.inr (.inr (.inl ⟨eq_of_beq e, .inr ⟨us, h1⟩⟩)))
    · rename_i kvs hc
      obtain ⟨us, h1, r1⟩ := m.cell i _ a hc e1
      exact .inr ⟨eq_of_beq e, a, us, rfl, h1⟩
    · cases e
  | _ => cases e
def tMw (K : PySem.W.Frag) (w : World) (T : String) (r : V → List V → Hp → VK → Prop) (to : TE) (t : TA) : TE := fun σ H Q => to σ H fun x H1 => tyW K w T x H1 ∧ t σ H1 fun xs H2 => r x xs H2 Q
def mMeth (T : String) (o : D → List D → Mem → R D) (f : FE) (g : FA) : FE := fun env M => (f env M).bind fun a m => if tyOk T m a = true then (g env m).bind fun ds m' => o a ds m' else .no
theorem tE_meth {T : String} {r : V → List V → Hp → VK → Prop} {o : D → List D → Mem → R D} {f : FE} {g : FA} (hs : Mt1 G E r o) (σ : L2.St) (H : Hp) (Q : VK) (h : tE G E (mMeth T o f g) σ H Q) : tMw G.K G.w T r (tE G E f) (tA G E g) σ H Q := by
  obtain ⟨W, env, M, s, p⟩ := h
  refine tE.bind s p fun d m W1 H1 u f1 s1 r1 p1 => ?_
  split at p1
  · rename_i ht
    refine ⟨tyOk_ok s1.mem r1 ht, ?_⟩
    refine tA.bind s1 p1 fun ds m2 W2 H2 us f2 s2 r2 p2 => ?_
    exact hs W2 H2 m2 d u ds us Q s2.mem (s1.mem.rp f2 r1) r2 p2
  · exact p1.elim
def oAppend : D → List D → Mem → R D
  | .ref i, [d], M => match M[i]? with
    | some (.lst l) => if l.length < 16777216 then .ok .non (M.set i (.lst (l ++ [d]))) else .no
    | _ => .no
  | _, _, _ => .no
theorem mt1_append : Mt1 G E rAppend oAppend := fun W H M a u ds us Q m ra r p => by
  unfold oAppend at p
  split at p
  · obtain ⟨v, e1, r1⟩ := rp_one r
    subst e1
    obtain ⟨a1, e2, e3⟩ := ra
    subst e3
    split at p
    · rename_i l hc
      split at p
      · rename_i hz
        obtain ⟨xs, h1, h2⟩ := m.cell _ _ a1 hc e2
        refine ⟨a1, xs, v, rfl, rfl, h1, by rw [h2.len, line_eq]; exact hz, ?_⟩
        have f := Fut.wrote (W := W) (H := H) (o := .lst (xs ++ [v])) e2 h1 trivial
        exact p W _ f (m.wrote e2 ⟨_, upd_same, m.rpL f (h2.append ⟨v, [], rfl, r1, rfl⟩)⟩) _ rfl
      · exact p.elim
    · exact p.elim
  · exact p.elim
def oExtend : D → List D → Mem → R D
  | .ref i, [d], M => match M[i]?, ownOf M d with
    | some (.lst l), some l' => if l.length + l'.length ≤ 16777216 then .ok .non (M.set i (.lst (l ++ l'))) else .no
    | _, _ => .no
  | _, _, _ => .no
theorem mt1_extend : Mt1 G E rExtend oExtend := fun W H M a u ds us Q m ra r p => by
  unfold oExtend at p
  split at p
  · obtain ⟨v, e1, r1⟩ := rp_one r
    subst e1
    obtain ⟨a1, e2, e3⟩ := ra
    subst e3
    split at p
    · rename_i l l' hc hd
      split at p
      · rename_i hz
        obtain ⟨xs, h1, h2⟩ := m.cell _ _ a1 hc e2
        obtain ⟨b1, ys, h4, h5, h6⟩ := ownOf_ok m r1 hd
        subst h4
        refine ⟨a1, b1, xs, ys, rfl, rfl, h1, h5, by rw [h2.len, h6.len, line_eq]; exact hz, ?_⟩
        have f := Fut.wrote (W := W) (H := H) (o := .lst (xs ++ ys)) e2 h1 trivial
        exact p W _ f (m.wrote e2 ⟨_, upd_same, m.rpL f (h2.append h6)⟩) _ rfl
      · exact p.elim
    · exact p.elim
  · exact p.elim
def strsOf : List D → Option (List (List Nat))
  | [] => some []
  | .str b :: r => (strsOf r).map (b :: ·)
  | _ :: _ => none
theorem strsOf_ok : ∀ {l : List D} {us : List V} {bs : List (List Nat)}, RpL G W H l us → strsOf l = some bs → us = (bs.map l2s).map V.str
  | [], us, bs, r, e => by have : us = [] := r; subst this; cases e; rfl
  | .str b :: l, us, bs, r, e => by
    obtain ⟨u, us', e1, r1, r2⟩ := r
    cases r1
    simp only [strsOf] at e
    cases q : strsOf l with
    | none => rw [q] at e; cases e
    | some bs' =>
      rw [q] at e; cases e
      rw [e1, strsOf_ok r2 q]; rfl
  | .non :: _, _, _, _, e => by cases e
  | .int _ :: _, _, _, _, e => by cases e
  | .bl _ :: _, _, _, _, e => by cases e
  | .tup _ :: _, _, _, _, e => by cases e
  | .lst _ :: _, _, _, _, e => by cases e
  | .fz _ :: _, _, _, _, e => by cases e
  | .ct _ :: _, _, _, _, e => by cases e
  | .ref _ :: _, _, _, _, e => by cases e
def joinL (sep : List Nat) : List (List Nat) → List Nat
  | [] => []
  | [x] => x
  | x :: r => x ++ sep ++ joinL sep r
def oJoin : D → List D → Mem → R D
  | .str sep, [d], M => match (seqOf M d).bind strsOf with
    | some xs => if (xs.map (·.length)).sum + xs.length * sep.length ≤ 16777216 then .ok (.str (joinL sep xs)) M else .no
    | none => .no
  | _, _, _ => .no
end
end Fn
set_option Elab.async false
set_option linter.all false
set_option maxRecDepth 100000
set_option maxHeartbeats 1000000
namespace Fn
open PySem PySem.Spec PyProof.Rows L2
section
variable {X : Cx} {G : Gx} {cl : Nat → Addr} {E : XK} {W : Wd} {H : Hp} {M : Mem} {a b c : Expr} {fa fb fc : FE} {pos : Pos}
theorem join_l2s (sep : List Nat) : ∀ xs : List (List Nat), Str.join (l2s sep) (xs.map l2s) = l2s (joinL sep xs)
  | [] => rfl
  | [x] => rfl
  | x :: y :: r => by
    show l2s x ++ l2s sep ++ Str.join (l2s sep) ((y :: r).map l2s) = l2s (x ++ sep ++ joinL sep (y :: r))
    rw [join_l2s sep (y :: r), l2s_append, l2s_append]
theorem mt1_join : Mt1 G E (fun x xs H Q => ∃ a p, ∃ ys : List Str, x = .str a ∧ xs = [.ref p] ∧ (SqL G.K H p (ys.map V.str) ∨ SqT G.K H p (ys.map V.str)) ∧
    (ys.map (·.length)).sum + ys.length * a.length ≤ 16777216 ∧ Q (.str (PySem.Txt.join a ys)) H) oJoin := fun W H M a u ds us Q m ra r p => by
  unfold oJoin at p
  split at p
  · obtain ⟨v, e1, r1⟩ := rp_one r
    subst e1
    cases ra
    split at p
    · rename_i xs e1
      cases q : seqOf M _ with
      | none => rw [q] at e1; cases e1
      | some l =>
        rw [q] at e1
        obtain ⟨a1, us, h1, h2, h3⟩ := seqOf_ok m r1 q
        subst h1
        have := strsOf_ok h3 e1
        subst this
        split at p
        · rename_i hz
          refine ⟨_, a1, xs.map l2s, rfl, rfl, h2, ?_, p.here m _ ?_⟩
          · rw [List.map_map, List.length_map, l2s_len]
            rw [show (fun x : Str => x.length) ∘ l2s = (·.length) from funext fun x => l2s_len x]
            exact hz
          · show V.str _ = V.str _
            rw [PySem.Txt.join, PySem.StrLaws.glued_eq_join, join_l2s]
        · exact p.elim
    · exact p.elim
  · exact p.elim
theorem op2_inS : Op2 G E (fun x y H Q => ∃ (c : Nat) (z : Str), x = .str ⟨#[c]⟩ ∧ y = .str z ∧ Q (.bl (decide (c ∈ z.cps.toList))) H) (oInS false) := fun W H M a b u v Q m ra rb p => by
  unfold oInS at p
  split at p
  · cases ra; cases rb
    exact ⟨_, _, rfl, rfl, p.here m _ (by rw [l2s_toList]; rfl)⟩
  · exact p.elim
theorem op2_notInS : Op2 G E (fun x y H Q => ∃ (c : Nat) (z : Str), x = .str ⟨#[c]⟩ ∧ y = .str z ∧ Q (.bl (!decide (c ∈ z.cps.toList))) H) (oInS true) := fun W H M a b u v Q m ra rb p => by
  unfold oInS at p
  split at p
  · cases ra; cases rb
    exact ⟨_, _, rfl, rfl, p.here m _ (by rw [l2s_toList]; rfl)⟩
  · exact p.elim
def tyD (M : Mem) : D → Option String
  | .non => some "NoneType"
  | .bl _ => some "bool"
  | .int _ => some "int"
  | .str _ => some "str"
  | .tup _ => some "tuple"
  | .ct _ => some "tuple"
  | .lst _ => some "list"
  | .fz _ => some "list"
  | .ref i => match M[i]? with
    | some (.lst _) => some "list"
    | _ => none
/-- is a of class b, of the classes of data -/
def isTy (a b : String) : Bool := a == b || (a == "bool" && b == "int")
def isTyOk (b : String) : Bool := b == "bool" || b == "int" || b == "str" || b == "tuple" || b == "list"
theorem kitB_ok {a b : String} (ha : a = "NoneType" ∨ a = "bool" ∨ a = "int" ∨ a = "str" ∨ a = "tuple" ∨ a = "list") (hb : isTyOk b = true) : kitB a b = some (isTy a b) := by
  unfold isTyOk at hb
  simp only [Bool.or_eq_true, beq_iff_eq] at hb
  rcases hb with (((rfl | rfl) | rfl) | rfl) | rfl <;> rcases ha with rfl | rfl | rfl | rfl | rfl | rfl <;> decide +kernel
theorem tyX_lst {xs : List V} {a : Addr} (h : SqL G.K H a xs) : TyX G.K H (.ref a) (.type "list") := by
  rcases h with (h | ⟨o, h⟩) | ⟨o, its, n, h1, h2, _⟩
  · exact .base (.lst h)
  · exact .base (.frz h)
  · exact .kList h1 h2
theorem tyX_tup {xs : List V} {a : Addr} (h : SqT G.K H a xs) : TyX G.K H (.ref a) (.type "tuple") := by
  rcases h with (h | ⟨o, h⟩) | ⟨o, its, n, h1, h2, _⟩
  · exact .base (.tup h)
  · exact .fTuple h
  · exact .kTuple h1 h2
theorem tyD_ok (m : MemOk G W H M) {d : D} {u : V} {t : String} (r : Rp G W H d u) (e : tyD M d = some t) : TyX G.K H u (.type t) ∧ (t = "NoneType" ∨ t = "bool" ∨ t = "int" ∨ t = "str" ∨ t = "tuple" ∨ t = "list") := by
  cases d with
  | non => cases r; cases e; exact ⟨.base .non, .inl rfl⟩
  | bl b => cases r; cases e; exact ⟨.base (.bl b), .inr (.inl rfl)⟩
  | int b => cases r; cases e; exact ⟨.base (.int b), .inr (.inr (.inl rfl))⟩
  | str b => cases r; cases e; exact ⟨.base (.str _), .inr (.inr (.inr (.inl rfl)))⟩
  | tup l => cases e; obtain ⟨a, us, h1, h2, _⟩ := r; subst h1; exact ⟨tyX_tup h2.sq, .inr (.inr (.inr (.inr (.inl rfl))))⟩
  | ct l => cases e; obtain ⟨a, us, h1, h2, _⟩ := r; subst h1; exact ⟨tyX_tup h2.sq, .inr (.inr (.inr (.inr (.inl rfl))))⟩
  | lst l => cases e; obtain ⟨a, us, h1, h2, _⟩ := lstOf_ok m (d := .lst l) r rfl; subst h1; exact ⟨tyX_lst h2, .inr (.inr (.inr (.inr (.inr rfl))))⟩
  | fz l => cases e; obtain ⟨a, us, h1, h2, _⟩ := lstOf_ok m (d := .fz l) r rfl; subst h1; exact ⟨tyX_lst h2, .inr (.inr (.inr (.inr (.inr rfl))))⟩
  | ref i =>
    obtain ⟨a, e1, e2⟩ := r
    subst e2
    simp only [tyD] at e
    split at e
    · rename_i l hc
      cases e
      obtain ⟨us, h1, h2⟩ := m.cell i _ a hc e1
      exact ⟨.base (.lst h1), .inr (.inr (.inr (.inr (.inr rfl))))⟩
    · cases e
/-- isinstance(e, T) -/
def oIsi (T : String) (d : D) (M : Mem) : R D := match tyD M d with
  | some t => .ok (.bl (isTy t T)) M
  | none => .no
theorem sn_isi {T : String} {x : Str} {p1 p3 : Pos} (hg : Gl X "isinstance") (hm : X.mg "isinstance" = none) (hg2 : Gl X x) (hm2 : X.mg x = none) (hv2 : bootBuiltins x = some (.type T)) (hT : isTyOk T = true) (hn : x ≠ "__name__") (hd : (x == ("__debug__" : Str)) = false) (ha : PE X a (tE ⟨X.K, cl, X.w⟩ E fa))
    (hs1 : starEach [.Name x p3] X.env = (false, eval (.Name x p3) X.env) :: starEach [] X.env := by rfl)
    (hs2 : starEach [a, .Name x p3] X.env = (false, eval a X.env) :: starEach [.Name x p3] X.env := by rfl)
    (hpl : (backTo pos (starEach [.Name x p3] X.env)).any (·.1) = false := by rfl) : PE X (.Call (.Name "isinstance" p1) [a, .Name x p3] [] pos) (tE ⟨X.K, cl, X.w⟩ E (mUn (oIsi T) fa)) :=
  pe_imp (pe_callB call_isi hg hm (by decide +kernel) (pa_cons ha (pa_cons (pe_bltn (v := .ty T) hg2 hm2 hv2 rfl hn hd) pa_nil hs1) hs2) (by decide) (by decide) hs2 hpl) fun σ H Q ⟨W, env, M, s, p⟩ => by
    refine tE.bind s p fun d m W1 H1 u f1 s1 r1 p1 => ?_
    simp only [oIsi] at p1
    split at p1
    · rename_i t e
      obtain ⟨k1, k2⟩ := tyD_ok s1.mem r1 e
      exact ⟨u, .ty T, .type t, .type T, isTy t T, rfl, .ty T, k1, kit_ty (kitB_ok k2 hT), p1.here s1.mem _ rfl⟩
    · exact p1.elim
end
end Fn
set_option Elab.async false
set_option linter.all false
set_option maxRecDepth 100000
set_option maxHeartbeats 1000000
namespace Fn
open PySem PySem.Spec PyProof.Rows L2
inductive Flow where
  | nx (env : Env) | bk (env : Env) | ct (env : Env) | rt (d : D)
abbrev FS := Env → Mem → R Flow
abbrev FG := D → Env → Mem → R Env
section
variable {X : Cx} {G : Gx} {cl : Nat → Addr} {E : XK} {W : Wd} {H : Hp} {M : Mem} {a b c : Expr} {fa fb fc : FE} {pos : Pos}
def PFl (G : Gx) (D : Ends) : Flow → Mem → Wd → Hp → Prop
  | .nx env, _, W', H' => ∀ σ', EnvOk G W' H' env σ' → D.nx σ' H'
  | .bk env, _, W', H' => ∀ σ', EnvOk G W' H' env σ' → D.bk σ' H'
  | .ct env, _, W', H' => ∀ σ', EnvOk G W' H' env σ' → D.ct σ' H'
  | .rt d, _, W', H' => ∀ u, Rp G W' H' d u → D.rt u H'
def tS (G : Gx) (E : XK) (f : FS) : TS := fun D σ H => ∃ W env M, Sta G W env M σ H ∧ PR G W H (PFl G D) E (f env M)
/-- slots beside vs stay -/
def PEnv (G : Gx) (vs : List Nat) (σ : L2.St) (Q : L2.St → Hp → Prop) : Env → Mem → Wd → Hp → Prop := fun env _ W' H' => ∀ σ', EnvOk G W' H' env σ' → wipe σ' vs = wipe σ vs → Q σ' H'
def tGt (G : Gx) (E : XK) (vs : List Nat) (f : FG) : TG := fun v σ H Q => ∃ W env M d, Sta G W env M σ H ∧ Rp G W H d v ∧ PR G W H (PEnv G vs σ Q) E (f d env M)
theorem wipe_get (σ : L2.St) (j : Nat) : ∀ vs : List Nat, j ∉ vs → (wipe σ vs)[j]? = σ[j]?
  | [], _ => rfl
  | v :: vs, h => by
    unfold wipe
    rw [List.getElem?_set_ne (fun z => h (by rw [z]; exact List.mem_cons_self ..))]
    exact wipe_get σ j vs fun z => h (List.mem_cons_of_mem _ z)
theorem wipe_in (σ : L2.St) (j : Nat) : ∀ vs : List Nat, j ∈ vs → j < σ.length → (wipe σ vs)[j]? = some none
  | v :: vs, h, hl => by
    unfold wipe
    by_cases e : v = j
    · subst e
      exact List.getElem?_set_self (by rw [wipe_length]; exact hl)
    · rw [List.getElem?_set_ne e]
      exact wipe_in σ j vs ((List.mem_cons.mp h).resolve_left fun z => e z.symm) hl
theorem wipe_ext {σ σ' : L2.St} {vs : List Nat} (hl : σ.length = σ'.length) (h : ∀ j, j ∉ vs → σ[j]? = σ'[j]?) : wipe σ vs = wipe σ' vs := by
  apply List.ext_getElem?
  intro j
  by_cases hj : j ∈ vs
  · by_cases hb : j < σ.length
    · rw [wipe_in σ j vs hj hb, wipe_in σ' j vs hj (by omega)]
    · rw [List.getElem?_eq_none (by rw [wipe_length]; omega), List.getElem?_eq_none (by rw [wipe_length]; omega)]
  · rw [wipe_get σ j vs hj, wipe_get σ' j vs hj, h j hj]
theorem wipe_set {σ : L2.St} {vs : List Nat} {i : Nat} {x : Option V} (hi : i ∈ vs) : wipe (σ.set i x) vs = wipe σ vs :=
  wipe_ext (by simp) fun j hj => List.getElem?_set_ne (fun z => hj (by rw [← z]; exact hi))
theorem pg_imp {e : Expr} {t t' : TG} (h : PG X e t) (i : ∀ v σ H Q, t' v σ H Q → t v σ H Q) : PG X e t' := ⟨fun pins s σ H v u Q I r q => h.run pins s σ H v u Q I r (i v σ H Q q)⟩
theorem EnvOk.set {env : Env} {σ : L2.St} {d : D} {u : V} (h : EnvOk G W H env σ) (i : Nat) (r : Rp G W H d u) : EnvOk G W H (env.set i (some d)) (σ.set i (some u)) := by
  refine ⟨by simp [h.1], fun j d' e => ?_⟩
  by_cases hj : i = j
  · subst hj
    by_cases hl : i < env.length
    · rw [List.getElem?_set_self hl] at e
      cases e
      exact ⟨u, List.getElem?_set_self (by rw [← h.1]; exact hl), r⟩
    · rw [List.set_eq_of_length_le (by omega)] at e
      rw [List.getElem?_eq_none (by omega)] at e
      cases e
  · rw [List.getElem?_set_ne hj] at e ⊢
    exact h.2 j d' e
def gN (i : Nat) : FG := fun d env M => .ok (env.set i (some d)) M
theorem sg_name {i : Nat} {x : Str} {pos : Pos} {vs : List Nat} (h : PG X (.Name x pos) (gName i)) (hv : i ∈ vs) : PG X (.Name x pos) (tGt G E vs (gN i)) := pg_imp h fun v σ H Q ⟨W, env, M, d, s, r, p⟩ => p.here s.mem _ (s.env.set i r) (wipe_set hv)
abbrev FGs := List D → Env → Mem → R Env
def tGts (G : Gx) (E : XK) (sl : List Nat) (f : FGs) : TGs := fun vs σ H Q => ∃ W env M ds, Sta G W env M σ H ∧ RpL G W H ds vs ∧ PR G W H (PEnv G sl σ Q) E (f ds env M)
theorem pgs_imp {e : List Expr} {t t' : TGs} (h : PGs X e t) (i : ∀ v σ H Q, t' v σ H Q → t v σ H Q) : PGs X e t' := ⟨fun pins s σ H v u Q I r q => h.run pins s σ H v u Q I r (i v σ H Q q)⟩
def gsNil : FGs := fun ds env M => match ds with
  | [] => .ok env M
  | _ => .no
def gsCons (f : FG) (g : FGs) : FGs := fun ds env M => match ds with
  | d :: r => (f d env M).bind fun env' m => g r env' m
  | [] => .no
theorem sgs_nil {vs : List Nat} : PGs X [] (tGts G E vs gsNil) := pgs_imp pgs_nil fun v σ H Q ⟨W, env, M, ds, s, r, p⟩ => by
  unfold gsNil at p
  split at p
  · have : v = [] := r
    subst this
    exact ⟨rfl, p.here s.mem _ s.env rfl⟩
  · exact p.elim
theorem sgs_cons {e : Expr} {es : List Expr} {f : FG} {g : FGs} {sl : List Nat} (h1 : PG X e (tGt G E sl f)) (h2 : PGs X es (tGts G E sl g))
    (hs : (assignEach (e :: es) X.env).map (·.2) = assign e X.env :: (assignEach es X.env).map (·.2) := by rfl) : PGs X (e :: es) (tGts G E sl (gsCons f g)) := pgs_imp (pgs_cons h1 h2 hs) fun v σ H Q ⟨W, env, M, ds, s, r, p⟩ => by
  unfold gsCons at p
  split at p
  · rename_i d r'
    obtain ⟨u, us, e1, r1, r2⟩ := r
    refine ⟨u, us, e1, W, env, M, d, s, r1, PR.bind p fun env' m W1 H1 f1 k1 p1 => fun σ' en ew => ?_⟩
    refine ⟨W1, env', m, r', ⟨k1, en⟩, s.mem.rpL f1 r2, PR.mono p1 fun env2 m2 W2 H2 f2 k2 q σ2 en2 ew2 => q σ2 en2 (ew2.trans ew)⟩
  · exact p.elim
def gT (n : Nat) (g : FGs) : FG := fun d env M => match d with
  | .tup l => if l.length = n then g l env M else .no
  | .ct l => if l.length = n then g l env M else .no
  | _ => .no
theorem sg_tup {es : List Expr} {k : Nat} {g : FGs} {n : Nat} {sl : List Nat} (hc : X.calm = true) (h : PGs X es (tGts ⟨X.K, cl, X.w⟩ E sl g))
    (hn : (assignEach es X.env).length = n := by rfl) (hst : (assignEach es X.env).findIdx? (·.1) = none := by rfl) : PG X (.Tuple es k pos) (tGt ⟨X.K, cl, X.w⟩ E sl (gT n g)) := pg_imp (pg_tup hc h hn hst) fun v σ H Q ⟨W, env, M, d, s, r, p⟩ => by
  unfold gT at p
  split at p
  · rename_i l
    obtain ⟨a1, us, e1, s1, r1⟩ := r
    split at p
    · rename_i hl
      exact ⟨a1, us, e1, s1.sq, by rw [r1.len, hl], W, env, M, l, s, r1, p⟩
    · exact p.elim
  · rename_i l
    obtain ⟨a1, us, e1, s1, r1⟩ := r
    split at p
    · rename_i hl
      exact ⟨a1, us, e1, s1.sq, by rw [r1.len, hl], W, env, M, l, s, r1, p⟩
    · exact p.elim
  · exact p.elim
/-- x[i] = v of a list -/
def gIx (fo fi : FE) : FG := fun d env M => (fo env M).bind fun o m => (fi env m).bind fun i m' => match o, i with
  | .ref j, .int k => match m'[j]? with
    | some (.lst l) => match ixN l.length k with
      | some n => .ok env (m'.set j (.lst (l.set n d)))
      | none => .no
    | _ => .no
  | _, _ => .no
theorem sg_ix {sl : List Nat} (ha : PE X a (tE G E fa)) (hb : PE X b (tE G E fb)) (hs : ∀ v, assign (.Subscript a b pos) X.env v = (do
      let ov ← holding [v] (eval a X.env)
      let iv ← holding [v, ov] (eval b X.env)
      standAt pos
      holding [v, ov, iv] (setItem ov iv v)
      release [v, ov, iv] []) := by intro _; rfl) : PG X (.Subscript a b pos) (tGt G E sl (gIx fa fb)) := pg_imp (pg_sub ha hb set_list hs) fun v σ H Q ⟨W, env, M, d, s, r, p⟩ => by
  refine tE.bind s p fun o m W1 H1 u1 f1 s1 r1 p1 => ?_
  refine tE.bind s1 p1 fun i m2 W2 H2 u2 f2 s2 r2 p2 => ?_
  split at p2
  · rename_i j k
    split at p2
    · rename_i l hc
      split at p2
      · rename_i n hn
        obtain ⟨a1, e1, e2⟩ := s1.mem.rp f2 r1
        subst e2; cases r2
        obtain ⟨us, h1, h2⟩ := s2.mem.cell _ _ a1 hc e1
        refine ⟨a1, us, k, n, rfl, rfl, h1, by rw [h2.len]; exact hn, ?_⟩
        have f := Fut.wrote (W := W2) (H := H2) (o := .lst (us.set n v)) e1 h1 trivial
        exact p2 W2 _ f (s2.mem.wrote e1 ⟨_, upd_same, s2.mem.rpL f (h2.set n (s1.mem.rp f2 (s.mem.rp f1 r)))⟩) _ (s2.env.fut s2.mem f) rfl
      · exact p2.elim
    · exact p2.elim
  · exact p2.elim
def mSet (i : Nat) (f : FE) : FS := fun env M => (f env M).bind fun d m => .ok (.nx (env.set i (some d))) m
theorem ss_set {i : Nat} {x : Str} {pos' : Pos} (ha : PE X a (tE G E fa)) (hN : X.N.Nodup) (hi : X.N[i]? = some x) (hx : Loc X.env.scope x) (hs : swapsWith a (some (.Name x pos')) pos.line X.env = pure false := by rfl) (hf : X.fn x = true ∨ X.env.scope.names.lookup x = some .local := by first | exact .inl rfl | exact .inr rfl | assumption) :
    PS X (.Assign [.Name x pos'] a pos) (tS G E (mSet i fa)) := ps_imp (ps_set hN hi hx ha hs hf) fun D σ H ⟨W, env, M, s, p⟩ => by
  refine tE.bind s p fun d m W1 H1 u f1 s1 r1 p1 => ?_
  exact p1.here s1.mem _ (s1.env.set i r1)
def mAsg (f : FE) (g : FG) : FS := fun env M => (f env M).bind fun d m => (g d env m).bind fun env' m' => .ok (.nx env') m'
theorem ss_asg {tg : Expr} {g : FG} {sl : List Nat} (ha : PE X a (tE G E fa)) (hg : PG X tg (tGt G E sl g)) (hs : swapsWithSole [tg] a pos.line X.env = pure false := by rfl) (hw : swappedStores [tg] a X.env = pure none := by rfl)
    (h1 : (assignEach [tg] X.env).map (·.2) = [assign tg X.env] := by rfl) : PS X (.Assign [tg] a pos) (tS G E (mAsg fa g)) := ps_imp (ps_asg ha hg hs hw h1) fun D σ H ⟨W, env, M, s, p⟩ => by
  refine tE.bind s p fun d m W1 H1 u f1 s1 r1 p1 => ?_
  refine ⟨W1, env, m, d, s1, r1, PR.bind p1 fun env' m2 W2 H2 f2 k2 p2 => fun σ' en _ => ?_⟩
  exact p2.here k2 _ en
/-- a, b = e, e': no tuple is made -/
def mPar (i j : Nat) (g : FA) : FS := fun env M => (g env M).bind fun ds m => match ds with
  | [d, d'] => .ok (.nx ((env.set i (some d)).set j (some d'))) m
  | _ => .no
theorem ss_par {i j : Nat} {x y : Str} {g : FA} {px py pt : Pos} {kt k2 pt2} (hc : X.calm = true) (hN : X.N.Nodup) (hi : X.N[i]? = some x) (hj : X.N[j]? = some y) (hij : i ≠ j)
    (hx : X.env.scope.names.lookup x = some .local) (hy : X.env.scope.names.lookup y = some .local) (ha : PA X [a, b] (tA G E g))
    (hw : swappedStores [.Tuple [.Name x px, .Name y py] kt pt] (.Tuple [a, b] k2 pt2) X.env = pure (some [x, y]))
    (hs : swapsWithSole [.Tuple [.Name x px, .Name y py] kt pt] (.Tuple [a, b] k2 pt2) pos.line X.env = pure false := by rfl) :
    PS X (.Assign [.Tuple [.Name x px, .Name y py] kt pt] (.Tuple [a, b] k2 pt2) pos) (tS G E (mPar i j g)) := ps_imp (ps_par hc hN hi hj hij hx hy ha hw hs) fun D σ H ⟨W, env, M, s, p⟩ => by
  refine tA.bind s p fun ds m W1 H1 us f1 s1 r1 p1 => ?_
  split at p1
  · rename_i d d'
    obtain ⟨u, us', e1, r2, u', us2, e2, r3, r4⟩ := r1
    have : us2 = [] := r4
    subst this e2 e1
    exact ⟨u, u', rfl, p1.here s1.mem _ ((s1.env.set i r2).set j r3)⟩
  · exact p1.elim
def mExpr (f : FE) : FS := fun env M => (f env M).bind fun _ m => .ok (.nx env) m
theorem ss_expr (ha : PE X a (tE G E fa)) (hs : swapsWith a none pos.line X.env = pure false := by rfl) : PS X (.Expr a pos) (tS G E (mExpr fa)) := ps_imp (ps_expr ha hs) fun D σ H ⟨W, env, M, s, p⟩ => by
  refine tE.bind s p fun d m W1 H1 u f1 s1 r1 p1 => ?_
  exact p1.here s1.mem _ s1.env
def mRet (f : FE) : FS := fun env M => (f env M).bind fun d m => .ok (.rt d) m
theorem ss_ret (ha : PE X a (tE G E fa)) : PS X (.Return (some a) pos) (tS G E (mRet fa)) := ps_imp (ps_ret ha) fun D σ H ⟨W, env, M, s, p⟩ => by
  refine tE.bind s p fun d m W1 H1 u f1 s1 r1 p1 => ?_
  exact p1.here s1.mem _ r1
def mRetN : FS := fun _ M => .ok (.rt .non) M
theorem ss_retN : PS X (.Return none pos) (tS G E mRetN) := ps_imp ps_retN fun D σ H ⟨W, env, M, s, p⟩ => p.here s.mem _ rfl
def mPass : FS := fun env M => .ok (.nx env) M
def mSeq (f g : FS) : FS := fun env M => (f env M).bind fun fl m => match fl with
  | .nx env' => g env' m
  | fl => .ok fl m
theorem sb_nil : PSs X [] (tS G E mPass) := pss_imp pss_nil fun D σ H ⟨W, env, M, s, p⟩ => p.here s.mem _ s.env
theorem sb_one {st : Stmt} {f : FS} (h : PS X st (tS G E f)) : PSs X [st] (tS G E f) := pss_one h
theorem sb_cons {st : Stmt} {r : List Stmt} {f g : FS} (h : PS X st (tS G E f)) (h2 : PSs X r (tS G E g)) : PSs X (st :: r) (tS G E (mSeq f g)) := pss_imp (pss_cons h h2) fun D σ H ⟨W, env, M, s, p⟩ => by
  refine ⟨W, env, M, s, PR.bind p fun fl m W1 H1 f1 k1 p1 => ?_⟩
  cases fl with
  | nx env' => exact fun σ' en => ⟨W1, env', m, ⟨k1, en⟩, p1⟩
  | bk env' => exact PR.here (E := E) k1 p1
  | ct env' => exact PR.here (E := E) k1 p1
  | rt d => exact PR.here (E := E) k1 p1
def mIfS (c : FT) (f g : FS) : FS := fun env M => (c env M).bind fun b m => if b = true then f env m else g env m
theorem ss_if {gc : FT} {f g : FS} {st1 st2 : List Stmt} (hc : PT X c (tT G E gc)) (ha : PSs X st1 (tS G E f)) (hb : PSs X st2 (tS G E g)) : PS X (.If c st1 st2 pos) (tS G E (mIfS gc f g)) := ps_imp (ps_if hc ha hb) fun D σ H ⟨W, env, M, s, p⟩ => by
  refine tT.bind s p fun k m W1 H1 f1 s1 p1 => ?_
  cases k with
  | true => rw [if_pos rfl] at p1 ⊢; exact ⟨W1, env, m, s1, p1⟩
  | false => rw [if_neg Bool.false_ne_true] at p1 ⊢; exact ⟨W1, env, m, s1, p1⟩
/-- x op= e of a name: as x = x op e -/
def mAug (i : Nat) (o : D → D → Mem → R D) (f : FE) : FS := fun env M => match env[i]? with
  | some (some x) => (f env M).bind fun d m => (o x d m).bind fun z m' => .ok (.nx (env.set i (some z))) m'
  | _ => .no
def Ip2 (G : Gx) (E : XK) (r : TIp) (o : D → D → Mem → R D) : Prop := ∀ W H M a b u v Q, MemOk G W H M → Rp G W H a u → Rp G W H b v → PR G W H (PV G Q) E (o a b M) → r u v H Q
theorem ss_aug {i : Nat} {x : Str} {op : Operator} {ti : TIp} {o : D → D → Mem → R D} {pos' : Pos} (hi2 : Ip2 G E ti o) (ha : PE X a (tE G E fa)) (ho : PIp X op ti) (hN : X.N.Nodup) (hi : X.N[i]? = some x) (hx : Loc X.env.scope x) (hf : X.fn x = true ∨ X.env.scope.names.lookup x = some .local := by first | exact .inl rfl | exact .inr rfl | assumption) :
    PS X (.AugAssign (.Name x pos') op a pos) (tS G E (mAug i o fa)) := ps_imp (ps_aug hN hi hx ha ho hf) fun D σ H ⟨W, env, M, s, p⟩ => by
  unfold mAug at p
  split at p
  · rename_i d e
    obtain ⟨u, h1, h2⟩ := s.env.2 i d e
    refine ⟨u, h1, ?_⟩
    refine tE.bind s p fun d2 m W1 H1 u2 f1 s1 r1 p1 => ?_
    refine hi2 W1 H1 m d d2 u u2 _ s1.mem (s.mem.rp f1 h2) r1 (PR.bind p1 fun z m2 W2 H2 f2 k2 p2 => fun w rw_ => ?_)
    exact p2.here k2 _ ((s1.env.fut s1.mem f2).set i rw_)
  · exact p.elim
theorem ip2_add : Ip2 G E (ipI fun i j => i + j) (oI fun i j => .int (i + j)) := fun W H M a b u v Q m ra rb p => by
  cases a <;> cases b <;> first
    | exact p.elim
    | exact ⟨_, _, ra, rb, p.here m _ rfl⟩
def whileM (c : FT) (body : FS) : Nat → Env → Mem → R Flow
  | 0, _, _ => .no
  | n + 1, env, M => (c env M).bind fun b m => if b = true then (body env m).bind fun fl m' => match fl with
      | .nx env' => whileM c body n env' m'
      | .ct env' => whileM c body n env' m'
      | .bk env' => .ok (.nx env') m'
      | .rt d => .ok (.rt d) m'
    else .ok (.nx env) m
def mWhile (c : FT) (body : FS) : FS := whileM c body 1000000000
theorem ss_while {gc : FT} {f : FS} {st : List Stmt} (hp : PassesOwn (model X.prog X.w) X.A X.env X.xe) (hc : PT X c (tT G E gc)) (hb : PSs X st (tS G E f)) : PS X (.While c st [] pos) (tS G E (mWhile gc f)) := ps_imp (ps_while hp hc hb) fun D σ H ⟨W, env, M, s, p⟩ => by
  refine ⟨fun n σ' H' => ∃ W env M, Sta G W env M σ' H' ∧ PR G W H' (PFl G D) E (whileM gc f n env M), ⟨1000000000, W, env, M, s, p⟩, ?_⟩
  rintro n σ' H' ⟨W, env, M, s, p⟩
  cases n with
  | zero => exact p.elim
  | succ n =>
    refine tT.bind s p fun k m W1 H1 f1 s1 p1 => ?_
    cases k with
    | true =>
      rw [if_pos rfl] at p1 ⊢
      refine ⟨fun σ2 H2 => ∃ W env M, Sta G W env M σ2 H2 ∧ PR G W H2 (PFl G D) E (whileM gc f n env M), fun σ2 H2 h => ⟨n, Nat.lt_succ_self n, h⟩, ?_⟩
      refine ⟨W1, env, m, s1, PR.bind p1 fun fl m2 W2 H2 f2 k2 p2 => ?_⟩
      cases fl with
      | nx env' => exact fun σ3 en => ⟨W2, env', m2, ⟨k2, en⟩, p2⟩
      | ct env' => exact fun σ3 en => ⟨W2, env', m2, ⟨k2, en⟩, p2⟩
      | bk env' => exact PR.here (E := E) k2 p2
      | rt d => exact PR.here (E := E) k2 p2
    | false =>
      rw [if_neg Bool.false_ne_true] at p1 ⊢
      exact p1.here s1.mem _ s1.env
end
end Fn
set_option Elab.async false
set_option linter.all false
set_option maxRecDepth 100000
set_option maxHeartbeats 1000000
namespace Fn
open PySem PySem.Spec PyProof.Rows L2
/-- what is walked: its items; what must stay true of the memory meanwhile -/
structure Src where
  items : List D
  still : Mem → Prop
abbrev FI := Env → Mem → R Src
section
variable {X : Cx} {G : Gx} {cl : Nat → Addr} {E : XK} {W : Wd} {H : Hp} {M : Mem} {a b c : Expr} {fa fb fc : FE} {pos : Pos}
/-- what is locked stays -/
def Lk (H H' : Hp) : Prop := ∀ a od u, H a = some (.frz od u) → H' a = some (.frz od u)
structure SrcOk (G : Gx) (W0 : Wd) (H0 : Hp) (src : Src) (J : It) : Prop where
  item : ∀ W H M, Kp W0 H0 W H → Lk H0 H → MemOk G W H M → src.still M → ∀ (i : Nat) d, src.items[i]? = some d → J.go i H ∧ ∀ x H', J.yld i H x H' → Fut W H W H' ∧ MemOk G W H' M ∧ Rp G W H' d x
  stop : ∀ W H M, Kp W0 H0 W H → Lk H0 H → MemOk G W H M → src.still M → J.stop src.items.length H
def PI' (G : Gx) (Rr : It → Hp → Prop) : Src → Mem → Wd → Hp → Prop := fun src M W H => ∀ J, SrcOk G W H src J → src.still M → Rr J H
def tI (G : Gx) (E : XK) (f : FI) : TI := fun σ H Rr => ∃ W env M, Sta G W env M σ H ∧ PR G W H (PI' G Rr) E (f env M)
theorem pi_imp {tg it : Expr} {t t' : TI} (h : PI X tg it t) (i : ∀ σ H Q, t' σ H Q → t σ H Q) : PI X tg it t' := ⟨fun pins s σ H Q I q => h.run pins s σ H Q I (i σ H Q q)⟩
/-- a list or a tuple -/
def iSeq (K : PySem.W.Frag) (tl : TE) : TI := fun σ H R => tl σ H fun x H1 => ∃ a, x = .ref a ∧ (((∃ xs, SqL K H1 a xs) ∧ R (Itl K a) H1) ∨ ((∃ xs, SqT K H1 a xs) ∧ R (Itt K a) H1))
theorem pi_seq {tg l : Expr} {tl : TE} (hl : PE X l tl) : PI X tg l (iSeq X.K tl) := by
  refine ⟨fun pins s σ H R I h => ?_⟩
  refine thn (hl.run pins s σ H _ I h) fun v s1 ⟨x, H1, I1, r1, q1⟩ => ?_
  obtain ⟨a, e, q⟩ := q1
  subst e
  cases r1
  rcases q with ⟨⟨xs, hq⟩, q⟩ | ⟨⟨xs, hq⟩, q⟩
  · obtain ⟨its, rv, p, hz⟩ := I1.list hq
    refine wpAny_pyIter_list p.isList ?_
    refine ⟨s1.heap.objs.size, [s1.heap.objs.size], _, _, H1, rfl, I1.kept (t' := s1.toks) fun b o e => Heap.get?_push_of_some _ e, turn_list a _, ⟨_, Heap.get?_push_size _ rfl, rfl, rfl⟩, fun b hb => ?_, q⟩
    have e : b = s1.heap.objs.size := by simpa using hb
    subst e
    exact I1.fpOk (Nat.le_refl _) (I1.hok.fresh (Nat.le_refl _))
  · obtain ⟨its, rv, p, hz⟩ := I1.tuple hq
    refine wpAny_pyIter_tuple (show s1.heap.IsTuple a its.toArray from p) ?_
    refine ⟨s1.heap.objs.size, [s1.heap.objs.size], _, _, H1, rfl, I1.kept (t' := s1.toks) fun b o e => Heap.get?_push_of_some _ e, turn_tuple a _, ⟨_, Heap.get?_push_size _ rfl, rfl, rfl⟩, fun b hb => ?_, q⟩
    have e : b = s1.heap.objs.size := by simpa using hb
    subst e
    exact I1.fpOk (Nat.le_refl _) (I1.hok.fresh (Nat.le_refl _))
/-- the items of a list or tuple, walked -/
def srcOf (M : Mem) (d : D) : Option Src := match d with
  | .tup l => some ⟨l, fun _ => True⟩
  | .ct l => some ⟨l, fun _ => True⟩
  | .lst l => some ⟨l, fun _ => True⟩
  | .fz l => some ⟨l, fun _ => True⟩
  | .ref i => match M[i]? with
    | some (.lst l) => some ⟨l, fun M' => M'[i]? = some (.lst l)⟩
    | _ => none
  | _ => none
def iSq (f : FE) : FI := fun env M => (f env M).bind fun d m => match srcOf m d with
  | some s => .ok s m
  | none => .no
theorem src_itl {W0 : Wd} {H0 : Hp} {src : Src} {a : Addr} (h : ∀ W H M, Kp W0 H0 W H → MemOk G W H M → src.still M → ∃ us, SqL G.K H a us ∧ RpL G W H src.items us) : SrcOk G W0 H0 src (Itl G.K a) where
  item := fun W H M f _ m st i d e => by
    obtain ⟨us, h1, h2⟩ := h W H M f m st
    obtain ⟨u, e2, r2⟩ := h2.get e
    refine ⟨⟨us, u, h1, e2⟩, fun x H' y => ?_⟩
    obtain ⟨rfl, y⟩ := y
    have := y us h1
    rw [e2] at this; cases this
    exact ⟨Fut.rfl', m, r2⟩
  stop := fun W H M f _ m st => by
    obtain ⟨us, h1, h2⟩ := h W H M f m st
    exact ⟨us, h1, by rw [h2.len]; exact Nat.le_refl _⟩
theorem src_itt {W0 : Wd} {H0 : Hp} {src : Src} {a : Addr} (h : ∀ W H M, Kp W0 H0 W H → MemOk G W H M → src.still M → ∃ us, SqT G.K H a us ∧ RpL G W H src.items us) : SrcOk G W0 H0 src (Itt G.K a) where
  item := fun W H M f _ m st i d e => by
    obtain ⟨us, h1, h2⟩ := h W H M f m st
    obtain ⟨u, e2, r2⟩ := h2.get e
    refine ⟨⟨us, u, h1, e2⟩, fun x H' y => ?_⟩
    obtain ⟨rfl, y⟩ := y
    have := y us h1
    rw [e2] at this; cases this
    exact ⟨Fut.rfl', m, r2⟩
  stop := fun W H M f _ m st => by
    obtain ⟨us, h1, h2⟩ := h W H M f m st
    exact ⟨us, h1, by rw [h2.len]; exact Nat.le_refl _⟩
theorem srcOf_ok (m : MemOk G W H M) {d : D} {u : V} {src : Src} (r : Rp G W H d u) (e : srcOf M d = some src) :
    src.still M ∧ ∃ a, u = .ref a ∧ (((∃ xs, SqL G.K H a xs) ∧ SrcOk G W H src (Itl G.K a)) ∨ ((∃ xs, SqT G.K H a xs) ∧ SrcOk G W H src (Itt G.K a))) := by
  cases d with
  | tup l =>
    cases e
    obtain ⟨a, us, e1, s1, r1⟩ := id r
    refine ⟨trivial, a, e1, .inr ⟨⟨us, s1.sq⟩, src_itt fun W2 H2 M2 f2 m2 _ => ?_⟩⟩
    obtain ⟨a', us', e', s', r'⟩ := Rp.kp f2 _ _ r
    rw [e1] at e'; cases e'
    exact ⟨us', s'.sq, r'⟩
  | ct l =>
    cases e
    obtain ⟨a, us, e1, s1, r1⟩ := id r
    refine ⟨trivial, a, e1, .inr ⟨⟨us, s1.sq⟩, src_itt fun W2 H2 M2 f2 m2 _ => ?_⟩⟩
    obtain ⟨a', us', e', s', r'⟩ := Rp.kp f2 _ _ r
    rw [e1] at e'; cases e'
    exact ⟨us', s'.sq, r'⟩
  | lst l =>
    cases e
    obtain ⟨a, us, e1, s1, r1⟩ := id r
    refine ⟨trivial, a, e1, .inl ⟨⟨us, .inl (.inl s1.1)⟩, src_itl fun W2 H2 M2 f2 m2 _ => ?_⟩⟩
    obtain ⟨a', us', e', s', r'⟩ := Rp.kp f2 _ _ r
    rw [e1] at e'; cases e'
    exact ⟨us', .inl (.inl s'.1), r'⟩
  | fz l =>
    cases e
    obtain ⟨a, us, e1, s1, r1⟩ := lstOf_ok m (d := .fz l) r rfl
    refine ⟨trivial, a, e1, .inl ⟨⟨us, s1⟩, src_itl fun W2 H2 M2 f2 m2 _ => ?_⟩⟩
    obtain ⟨a', us', e', s', r'⟩ := lstOf_ok m2 (d := .fz l) (Rp.kp f2 _ _ r) rfl
    rw [e1] at e'; cases e'
    exact ⟨us', s', r'⟩
  | ref i =>
    simp only [srcOf] at e
    split at e
    · rename_i l hc
      cases e
      obtain ⟨a, e1, e2⟩ := id r
      obtain ⟨us, h1, h2⟩ := m.cell i _ a hc e1
      refine ⟨hc, a, e2, .inl ⟨⟨us, .inl (.inl h1)⟩, src_itl fun W2 H2 M2 f2 m2 st => ?_⟩⟩
      obtain ⟨us', h1', h2'⟩ := m2.cell i _ a st (f2.get _ _ e1)
      exact ⟨us', .inl (.inl h1'), h2'⟩
    · cases e
  | _ => cases e
theorem si_seq {tg : Expr} (ha : PE X a (tE ⟨X.K, cl, X.w⟩ E fa)) : PI X tg a (tI ⟨X.K, cl, X.w⟩ E (iSq fa)) := pi_imp (pi_seq ha) fun σ H Rr ⟨W, env, M, s, p⟩ => by
  refine tE.bind s p fun d m W1 H1 u f1 s1 r1 p1 => ?_
  split at p1
  · rename_i src e
    obtain ⟨st, a1, e1, q⟩ := srcOf_ok s1.mem r1 e
    have k := p1.here s1.mem
    refine ⟨a1, e1, ?_⟩
    rcases q with ⟨h1, h2⟩ | ⟨h1, h2⟩
    · exact .inl ⟨h1, k _ h2 st⟩
    · exact .inr ⟨h1, k _ h2 st⟩
  · exact p1.elim
/-- a text, sign by sign -/
def iStrM (f : FE) : FI := fun env M => (f env M).bind fun d m => match d with
  | .str x => .ok ⟨x.map fun c => .str [c], fun _ => True⟩ m
  | _ => .no
def rngItems (lo : Int) (n : Nat) : List D := (List.range n).map fun i : Nat => .int (lo + (i : Int))
theorem src_rng {W0 : Wd} {H0 : Hp} (lo : Int) (n : Nat) : SrcOk G W0 H0 ⟨rngItems lo n, fun _ => True⟩ (Itr lo n) where
  item := fun W H M f _ m _ i d e => by
    have e' : (rngItems lo n)[i]? = some d := e
    unfold rngItems at e'
    rw [List.getElem?_map] at e'
    cases q : (List.range n)[i]? with
    | none => rw [q] at e'; cases e'
    | some k =>
      rw [q] at e'; cases e'
      obtain ⟨h1, h2⟩ := List.getElem?_eq_some_iff.mp q
      simp at h1 h2
      subst h2
      refine ⟨h1, fun x H' y => ?_⟩
      obtain ⟨rfl, rfl⟩ := y
      exact ⟨Fut.rfl', m, rfl⟩
  stop := fun W H M f _ m _ => by
    show n ≤ (rngItems lo n).length
    simp [rngItems]
def rngOk (i : Int) : Bool := decide (-(2 ^ 62) ≤ i) && decide (i < 2 ^ 62)
theorem rngOk_ok {i : Int} (h : rngOk i = true) : -(2 ^ 62) ≤ i ∧ i < 2 ^ 62 := by
  unfold rngOk at h
  simp only [Bool.and_eq_true, decide_eq_true_eq] at h
  exact h
def iR1 (g : FA) : FI := fun env M => (g env M).bind fun ds m => match ds with
  | [.int j] => if rngOk j = true then .ok ⟨rngItems 0 j.toNat, fun _ => True⟩ m else .no
  | _ => .no
def iR2 (g : FA) : FI := fun env M => (g env M).bind fun ds m => match ds with
  | [.int i, .int j] => if rngOk i = true ∧ rngOk j = true then .ok ⟨rngItems i (j - i).toNat, fun _ => True⟩ m else .no
  | _ => .no
theorem si_range1 {tg : Expr} {g : FA} {p : Pos} (hg : Gl X "range") (hm : X.mg "range" = none) (ha : PA X [a] (tA G E g)) (hs : starEach [a] X.env = [(false, eval a X.env)] := by rfl) : PI X tg (.Call (.Name "range" p) [a] [] pos) (tI G E (iR1 g)) :=
  pi_imp (pi_range1 hg hm ha hs) fun σ H Rr ⟨W, env, M, s, p⟩ => by
    refine tA.bind s p fun ds m W1 H1 us f1 s1 r1 p1 => ?_
    split at p1
    · rename_i j
      split at p1
      · rename_i hj
        obtain ⟨u, e1, r2⟩ := rp_one r1
        subst e1; cases r2
        exact ⟨j, rfl, (rngOk_ok hj).1, (rngOk_ok hj).2, p1.here s1.mem _ (src_rng 0 j.toNat) trivial⟩
      · exact p1.elim
    · exact p1.elim
open Classical in
noncomputable def forL (P : Mem → Prop) (g : FG) (body : FS) : List D → Env → Mem → R Flow
  | [], env, M => if P M then .ok (.nx env) M else .no
  | d :: r, env, M => if P M then (g d env M).bind fun env1 m1 => (body env1 m1).bind fun fl m => match fl with
      | .nx env' => forL P g body r env' m
      | .ct env' => forL P g body r env' m
      | .bk env' => .ok (.nx env') m
      | .rt d => .ok (.rt d) m
    else .no
noncomputable def mFor (f : FI) (g : FG) (body : FS) : FS := fun env M => (f env M).bind fun src m => forL src.still g body src.items env m
theorem ss_for {tg it : Expr} {f : FI} {g : FG} {body : FS} {st : List Stmt} {sl : List Nat} (hp : PassesOwn (model X.prog X.w) X.A X.env X.xe) (hc : X.calm = true) (hi : PI X tg it (tI G E f)) (hg : PG X tg (tGt G E sl g)) (hb : PSs X st (tS G E body))
    (hs : ∀ x, foldedSetIterable it X.env x = pure x := by intro _; rfl) : PS X (.For tg it st [] pos) (tS G E (mFor f g body)) := ps_imp (ps_for hp hc hi hg hb hs) fun D σ H ⟨W, env, M, s, p⟩ => by
  refine ⟨W, env, M, s, PR.bind p fun src m W0 H0 f0 k0 p0 => fun J sj st0 => ?_⟩
  have s0 := s.fut f0 k0
  refine ⟨fun i n σ' H' => n + i = src.items.length ∧ ∃ W env M, Fut W0 H0 W H' ∧ Sta G W env M σ' H' ∧ PR G W H' (PFl G D) E (forL src.still g body (src.items.drop i) env M), ⟨src.items.length, rfl, W0, env, m, Fut.rfl', s0, p0⟩, ?_⟩
  rintro i n σ' H' ⟨hn, W1, env1, M1, f1, s1, p1⟩
  cases hd : src.items.drop i with
  | nil =>
    rw [hd] at p1
    unfold forL at p1
    split at p1
    · rename_i hP
      have hl : src.items.length ≤ i := List.drop_eq_nil_iff.mp hd
      have : i = src.items.length := by omega
      subst this
      exact .inl ⟨sj.stop W1 H' M1 (f1.kp k0) f1.lk s1.mem hP, p1.here s1.mem _ s1.env⟩
    · exact p1.elim
  | cons d r =>
    rw [hd] at p1
    unfold forL at p1
    split at p1
    · rename_i hP
      have hi' : src.items[i]? = some d := by
        have h0 : (src.items.drop i)[0]? = some d := by rw [hd]; rfl
        rw [List.getElem?_drop] at h0
        simpa using h0
      have hr : src.items.drop (i + 1) = r := by
        rw [← List.tail_drop, hd]; rfl
      have hlt : i < src.items.length := (List.getElem?_eq_some_iff.mp hi').1
      obtain ⟨go, yl⟩ := sj.item W1 H' M1 (f1.kp k0) f1.lk s1.mem hP i d hi'
      refine .inr ⟨go, fun σ2 H2 => ∃ W env M, Fut W0 H0 W H2 ∧ Sta G W env M σ2 H2 ∧ PR G W H2 (PFl G D) E (forL src.still g body r env M), fun σ2 H2 ⟨W, env, M, q1, q2, q3⟩ => ⟨n - 1, by omega, by omega, W, env, M, q1, q2, by rw [hr]; exact q3⟩, fun x H2 y => ?_⟩
      obtain ⟨f2, k2, rx⟩ := yl x H2 y
      have s2 := s1.fut f2 k2
      refine ⟨W1, env1, M1, d, s2, rx, PR.bind (PR.fut f2 p1) fun env3 m3 W3 H3 f3 k3 p3 => fun σ3 en3 _ => ?_⟩
      refine ⟨W3, env3, m3, ⟨k3, en3⟩, PR.bind p3 fun fl m4 W4 H4 f4 k4 p4 => ?_⟩
      have ff := f1.trans (f2.trans (f3.trans f4))
      cases fl with
      | nx env' => exact fun σ4 en => ⟨W4, env', m4, ff, ⟨k4, en⟩, p4⟩
      | ct env' => exact fun σ4 en => ⟨W4, env', m4, ff, ⟨k4, en⟩, p4⟩
      | bk env' => exact PR.here (E := E) k4 p4
      | rt d => exact PR.here (E := E) k4 p4
    · exact p1.elim
end
end Fn
set_option Elab.async false
set_option linter.all false
set_option maxRecDepth 100000
set_option maxHeartbeats 1000000
namespace Fn
open PySem PySem.Spec PyProof.Rows L2
section
variable {X : Cx} {G : Gx} {cl : Nat → Addr} {E : XK} {W : Wd} {H : Hp} {M : Mem} {a b c : Expr} {fa fb fc : FE} {pos : Pos}
def wipeE (env : Env) : List Nat → Env
  | [] => env
  | v :: vs => (wipeE env vs).set v none
theorem wipeE_ok {env : Env} {σ : L2.St} (h : EnvOk G W H env σ) : ∀ vs, EnvOk G W H (wipeE env vs) (wipe σ vs)
  | [] => h
  | v :: vs => by
    have ih := wipeE_ok h vs
    unfold wipeE wipe
    refine ⟨by simp [ih.1], fun j d e => ?_⟩
    by_cases hj : v = j
    · subst hj
      by_cases hl : v < (wipeE env vs).length
      · rw [List.getElem?_set_self hl] at e; cases e
      · rw [List.getElem?_eq_none (by simp; omega)] at e; cases e
    · rw [List.getElem?_set_ne hj] at e ⊢
      exact ih.2 j d e
/-- the block's tests -/
theorem wipe_wipe (σ : L2.St) (vs : List Nat) : wipe (wipe σ vs) vs = wipe σ vs := wipe_ext (wipe_length σ vs) fun j hj => wipe_get σ j vs hj
def tsYes : FT := fun _ M => .ok true M
open Classical in
noncomputable def compL (P : Mem → Prop) (g : FG) (t : FT) (f : FE) (env : Env) : List D → Mem → R (List D)
  | [], M => if P M then .ok [] M else .no
  | d :: r, M => if P M then (g d env M).bind fun env1 m1 => (t env1 m1).bind fun b m2 => if b = true then (f env1 m2).bind fun y m3 => (compL P g t f env r m3).bind fun ys m4 => .ok (y :: ys) m4 else compL P g t f env r m2
    else .no
/-- a hidden object is written -/
theorem Kp.hidden {D0 : Addr} {xs : List V} {o : HO} (hD : D0 ∈ W.hd) (hx : H D0 = some (.lst xs)) : Kp W H W (upd H D0 o) :=
  ⟨fun _ _ h => h, fun a o' e _ h2 => by rw [upd_ne (fun z => h2 (by rw [z]; exact hD))]; exact e,
   fun a o' e st => by rw [upd_ne fun z => by subst z; rw [hx] at e; cases e; exact st]; exact e, fun _ _ _ h1 h2 => ⟨h1, h2⟩⟩
theorem CellOk.kp {W' : Wd} {H' : Hp} (k : Kp W H W' H') {a : Addr} {c : Cell} (e : H' a = H a) (h : CellOk G W H a c) : CellOk G W' H' a c := by
  have pk : ∀ {κ κ' : Type} {f : κ → κ'} {l : List (κ × D)} {vs : List (κ' × V)}, RpK G W H f l vs → RpK G W' H' f l vs := fun h => Paired.imp (fun _ _ z => ⟨z.1, Rp.kp k _ _ z.2⟩) h
  cases c with
  | lst l => obtain ⟨vs, q, r⟩ := h; exact ⟨vs, by rw [e]; exact q, RpL.kp k _ _ r⟩
  | dk lk kvs => obtain ⟨vs, q, r⟩ := h; exact ⟨vs, by rw [e]; exact q, pk r⟩
  | dt lk kvs => obtain ⟨vs, q, r⟩ := h; exact ⟨vs, by rw [e]; exact q, pk r⟩
  | dn lk kvs => obtain ⟨vs, q, r⟩ := h; exact ⟨vs, by rw [e]; exact q, r.kp k⟩
  | ins c0 fs => obtain ⟨dx, vs, q, r⟩ := h; exact ⟨dx, vs, by rw [e]; exact q, pk r⟩
theorem MemOk.hidden (m : MemOk G W H M) {D0 : Addr} {xs : List V} {o : HO} (hD : D0 ∈ W.hd) (hx : H D0 = some (.lst xs)) : MemOk G W (upd H D0 o) M where
  len := m.len
  nd := m.nd
  cell := fun i c a e1 e2 => (m.cell i c a e1 e2).kp (Kp.hidden hD hx) (upd_ne fun z => by subst z; exact m.apart _ (List.mem_of_getElem? e2) hD)
  apart := m.apart
  hid := fun b hb => by
    by_cases z : b = D0
    · subst z; exact ⟨_, upd_same⟩
    · obtain ⟨u, hu⟩ := m.hid b hb
      exact ⟨u, by rw [upd_ne z]; exact hu⟩
/-- D0 hidden, and no more -/
theorem Kp.hide {D0 : Addr} {o : HO} (hD : H D0 = none) : Kp W H ⟨W.as, D0 :: W.hd⟩ (upd H D0 o) :=
  ⟨fun _ _ h => h, fun a o' e _ _ => by rw [upd_ne (ne_of_none e hD)]; exact e, fun a o' e _ => by rw [upd_ne (ne_of_none e hD)]; exact e,
   fun a o' e h1 h2 => ⟨h1, fun z => by rcases List.mem_cons.mp z with z | z; · exact ne_of_none e hD z
                                        · exact h2 z⟩⟩
theorem MemOk.hide (m : MemOk G W H M) {D0 : Addr} {o : HO} (hD : H D0 = none) : MemOk G ⟨W.as, D0 :: W.hd⟩ (upd H D0 o) M where
  len := m.len
  nd := m.nd
  cell := fun i c a e1 e2 => by
    have k := m.cell i c a e1 e2
    obtain ⟨u, hu, _⟩ := k.there
    exact k.kp (Kp.hide hD) (upd_ne (ne_of_none hu hD))
  apart := fun a ha z => by
    rcases List.mem_cons.mp z with z | z
    · subst z; exact (m.fresh hD).1 ha
    · exact m.apart a ha z
  hid := fun b hb => by
    rcases List.mem_cons.mp hb with z | z
    · subst z; exact ⟨_, upd_same⟩
    · obtain ⟨u, hu⟩ := m.hid b z
      exact ⟨u, by rw [upd_ne (ne_of_none hu hD)]; exact hu⟩
theorem Kp.show {as hd : List Addr} {D0 : Addr} : Kp ⟨as, D0 :: hd⟩ H ⟨as, hd⟩ H :=
  ⟨fun _ _ h => h, fun _ _ e _ _ => e, fun _ _ e _ => e, fun _ _ _ h1 h2 => ⟨h1, fun z => h2 (List.mem_cons_of_mem _ z)⟩⟩
theorem MemOk.show {as hd : List Addr} {D0 : Addr} (m : MemOk G ⟨as, D0 :: hd⟩ H M) : MemOk G ⟨as, hd⟩ H M where
  len := m.len
  nd := m.nd
  cell := fun i c a e1 e2 => (m.cell i c a e1 e2).kp Kp.show rfl
  apart := fun a ha z => m.apart a ha (List.mem_cons_of_mem _ z)
  hid := fun b hb => m.hid b (List.mem_cons_of_mem _ hb)
theorem Kp.track {as hd : List Addr} {D0 : Addr} : Kp ⟨as, D0 :: hd⟩ H ⟨as ++ [D0], hd⟩ H :=
  ⟨fun i a h => by
    show (as ++ [D0])[i]? = some a
    rw [List.getElem?_append_left (List.getElem?_eq_some_iff.mp h).1]; exact h, fun _ _ e _ _ => e, fun _ _ e _ => e,
   fun a _ _ h1 h2 => ⟨fun z => by
    rcases List.mem_append.mp z with z | z
    · exact h1 z
    · exact h2 (by rw [List.mem_singleton] at z; rw [z]; exact List.mem_cons_self ..), fun z => h2 (List.mem_cons_of_mem _ z)⟩⟩
theorem MemOk.track {as hd : List Addr} {D0 : Addr} {us : List V} {ys : List D} (m : MemOk G ⟨as, D0 :: hd⟩ H M) (hx : H D0 = some (.lst us)) (hn : D0 ∉ hd) (r : RpL G ⟨as, D0 :: hd⟩ H ys us) : MemOk G ⟨as ++ [D0], hd⟩ H (M ++ [.lst ys]) where
  len := by
    have := m.len
    simp at this ⊢
    omega
  nd := by
    show (as ++ [D0]).Nodup
    rw [List.nodup_append]
    refine ⟨m.nd, by simp, fun a ha b hb => ?_⟩
    rw [List.mem_singleton] at hb; subst hb
    intro z; subst z
    exact m.apart a ha (List.mem_cons_self ..)
  cell := fun i c' a e1 e2 => by
    have ml : as.length = M.length := m.len
    have e2' : (as ++ [D0])[i]? = some a := e2
    by_cases hi : i < M.length
    · rw [List.getElem?_append_left hi] at e1
      rw [List.getElem?_append_left (by omega)] at e2'
      exact (m.cell i c' a e1 e2').kp Kp.track rfl
    · rw [List.getElem?_append_right (by omega)] at e1 e2'
      have e3 : i - M.length = 0 := by
        have := (List.getElem?_eq_some_iff.mp e1).1
        simp at this; omega
      rw [e3] at e1
      rw [show i - as.length = 0 by omega] at e2'
      simp at e1 e2'
      subst e1 e2'
      exact ⟨us, hx, RpL.kp Kp.track _ _ r⟩
  apart := fun a ha z => by
    rcases List.mem_append.mp ha with q | q
    · exact m.apart a q (List.mem_cons_of_mem _ z)
    · rw [List.mem_singleton] at q; subst q
      exact hn z
  hid := fun b hb => m.hid b (List.mem_cons_of_mem _ hb)
def R.nox {α : Type} : R α → R α
  | .ok a m => .ok a m
  | _ => .no
@[simp] theorem R.nox_ok {α : Type} (a : α) (m : Mem) : (R.ok a m).nox = .ok a m := rfl
theorem R.bind_eq {α β : Type} {r : R α} {k : α → Mem → R β} {b : β} {m : Mem} (h : r.bind k = .ok b m) : ∃ a m1, r = .ok a m1 ∧ k a m1 = .ok b m := by
  cases r with
  | ok a m1 => exact ⟨a, m1, rfl, h⟩
  | ex c fs m1 => cases h
  | no => cases h
/-- the hidden list becomes the made one -/
theorem mkL_shown {W0 : Wd} {H0 : Hp} {as : List Addr} {D0 : Addr} {us : List V} {c : Bool} {ys : List D} {Q : VK} (f : Fut W0 H0 ⟨as, W0.hd⟩ H) (h0 : H0 D0 = none) (n0 : D0 ∉ W0.as ∧ D0 ∉ W0.hd) (m : MemOk G ⟨as, D0 :: W0.hd⟩ H M) (hx : H D0 = some (.lst us)) (r : RpL G ⟨as, D0 :: W0.hd⟩ H ys us) (p : PR G W0 H0 (PV G Q) E (mkL c ys M)) : Q (.ref D0) H := by
  have nas : D0 ∉ as := fun z => m.apart D0 z (List.mem_cons_self ..)
  unfold mkL at p
  cases c with
  | false =>
    rw [if_neg Bool.false_ne_true] at p
    exact p ⟨as, W0.hd⟩ H f m.show _ ⟨D0, us, rfl, ⟨hx, nas, n0.2⟩, RpL.kp Kp.show _ _ r⟩
  | true =>
    rw [if_pos rfl] at p
    refine p ⟨as ++ [D0], W0.hd⟩ H ⟨?_, rfl, f.keep, f.lk⟩ (m.track hx n0.2 r) _ ⟨D0, ?_, rfl⟩
    · obtain ⟨nw, e, q⟩ := f.ext
      have e' : as = W0.as ++ nw := e
      refine ⟨nw ++ [D0], by show as ++ [D0] = _; rw [e', List.append_assoc], fun a ha => ?_⟩
      rcases List.mem_append.mp ha with z | z
      · exact q a z
      · rw [List.mem_singleton] at z; subst z
        exact ⟨h0, n0.1⟩
    · have ml : as.length = M.length := m.len
      show (as ++ [D0])[M.length]? = some D0
      rw [← ml]; simp
noncomputable def mLc (c : Bool) (vs : List Nat) (fi : FI) (g : FG) (t : FT) (f : FE) : FE := fun env M => (fi env M).bind fun src m => if src.items.length < 16777216 then (compL src.still g t f (wipeE env vs) src.items m).nox.bind fun ys m' => mkL c ys m' else .no
theorem PR.of_ok {α : Type} {K : α → Mem → Wd → Hp → Prop} {r : R α} {x : α} {m : Mem} (e : r = .ok x m) (h : ∀ W' H', Fut W H W' H' → MemOk G W' H' m → K x m W' H') : PR G W H K E r := by
  subst e; exact h
theorem tLc_of {E' : XK} {c : Bool} {vs : List Nat} {fi : FI} {g : FG} {t : FT} {f : FE} (σ : L2.St) (H : Hp) (Q : VK) (h : tE G E (mLc c vs fi g t f) σ H Q) : tLc (tI G E fi) (tGt G E' vs g) (tT G E' t) (tE G E' f) vs σ H Q := by
  obtain ⟨W, env, M, s, p⟩ := h
  refine ⟨W, env, M, s, PR.bind p fun src m W0 H0 f0 k0 p0 => fun J sj st0 => fun D0 hD0 => ?_⟩
  have s0 := s.fut f0 k0
  split at p0
  · rename_i hz
    obtain ⟨ys, m', hrun⟩ : ∃ ys m', compL src.still g t f (wipeE env vs) src.items m = .ok ys m' := by
      cases hc : compL src.still g t f (wipeE env vs) src.items m with
      | ok ys m' => exact ⟨ys, m', rfl⟩
      | ex c fs m' => rw [hc] at p0; exact p0.elim
      | no => rw [hc] at p0; exact p0.elim
    rw [hrun] at p0
    have q0 : PR G W0 H0 (PV G Q) E (mkL c ys m') := p0
    have n0 := k0.fresh hD0
    refine ⟨fun i n H' => n + i = src.items.length ∧ ∃ as M done rest acc, compL src.still g t f (wipeE env vs) (src.items.drop i) M = .ok rest m' ∧ done ++ rest = ys ∧ done.length ≤ i ∧ Fut W0 H0 ⟨as, W0.hd⟩ H' ∧ Kp W0 H0 ⟨as, D0 :: W0.hd⟩ H' ∧ MemOk G ⟨as, D0 :: W0.hd⟩ H' M ∧ H' D0 = some (.lst acc) ∧ RpL G ⟨as, D0 :: W0.hd⟩ H' done acc, ⟨src.items.length, rfl, W0.as, m, [], ys, [], hrun, rfl, Nat.le_refl _, ⟨⟨[], by simp, by simp⟩, rfl, fun a o e _ => by rw [upd_ne (ne_of_none e hD0)]; exact e, fun a od u e => by rw [upd_ne (ne_of_none e hD0)]; exact e⟩, Kp.hide hD0, k0.hide hD0, upd_same, rfl⟩, ?_⟩
    rintro i n H1 ⟨hn, as, M1, done, rest, acc, h1, h2, h3, h4, h4k, h5, h6, h7⟩
    cases hd : src.items.drop i with
    | nil =>
      rw [hd] at h1
      unfold compL at h1
      split at h1
      · rename_i hP
        cases h1
        rw [List.append_nil] at h2
        subst h2
        have hl : src.items.length ≤ i := List.drop_eq_nil_iff.mp hd
        have : i = src.items.length := by omega
        subst this
        exact .inl ⟨sj.stop _ H1 _ h4k h4.lk h5 hP, mkL_shown h4 hD0 n0 h5 h6 h7 q0⟩
      · cases h1
    | cons d r =>
      rw [hd] at h1
      unfold compL at h1
      split at h1
      · rename_i hP
        have hi' : src.items[i]? = some d := by
          have h0 : (src.items.drop i)[0]? = some d := by rw [hd]; rfl
          rw [List.getElem?_drop] at h0
          simpa using h0
        have hr : src.items.drop (i + 1) = r := by
          rw [← List.tail_drop, hd]; rfl
        have hlt : i < src.items.length := (List.getElem?_eq_some_iff.mp hi').1
        obtain ⟨go, yl⟩ := sj.item _ H1 _ h4k h4.lk h5 hP i d hi'
        obtain ⟨env1, m1, g1, h1⟩ := R.bind_eq h1
        obtain ⟨b, m2, g2, h1⟩ := R.bind_eq h1
        refine .inr ⟨go, fun H' => ∃ as M done rest acc, compL src.still g t f (wipeE env vs) r M = .ok rest m' ∧ done ++ rest = ys ∧ done.length ≤ i + 1 ∧ Fut W0 H0 ⟨as, W0.hd⟩ H' ∧ Kp W0 H0 ⟨as, D0 :: W0.hd⟩ H' ∧ MemOk G ⟨as, D0 :: W0.hd⟩ H' M ∧ H' D0 = some (.lst acc) ∧ RpL G ⟨as, D0 :: W0.hd⟩ H' done acc, fun H' ⟨as, M, done, rest, acc, k⟩ => ⟨n - 1, by omega, by omega, as, M, done, rest, acc, by rw [hr]; exact k⟩, fun x H2 y => ?_⟩
        obtain ⟨f2, k2, rx⟩ := yl x H2 y
        have en2 : EnvOk G ⟨as, D0 :: W0.hd⟩ H2 env σ := s0.env.kp (h4k.trans (f2.kp h5))
        refine ⟨_, wipeE env vs, M1, d, ⟨k2, wipeE_ok en2 vs⟩, rx, PR.of_ok g1 fun W3 H3 f3 k3 => fun σ3 en3 ew3 => ⟨by rw [ew3]; exact wipe_wipe σ vs, W3, env1, m1, ⟨k3, en3⟩, PR.of_ok g2 fun W4 H4 f4 k4 => ?_⟩⟩
        have f24 := f2.trans (f3.trans f4)
        have a4 := h5.rpL f24 h7
        have hD4 : H4 D0 = some (.lst acc) := f24.keep _ _ h6 fun z => h5.apart D0 z (List.mem_cons_self ..)
        have ft : ∀ {as5 : List Addr} {H5 : Hp}, Fut ⟨as, D0 :: W0.hd⟩ H1 ⟨as5, D0 :: W0.hd⟩ H5 → Fut W0 H0 ⟨as5, W0.hd⟩ H5 := fun f5 => h4.trans ⟨f5.ext, rfl, f5.keep, f5.lk⟩
        cases b with
        | false =>
          rw [if_neg Bool.false_ne_true] at h1
          simp only [PB, Bool.false_eq_true, if_false]
          obtain ⟨as4, hd4⟩ := W4
          obtain rfl : hd4 = D0 :: W0.hd := f24.hd
          exact ⟨as4, m2, done, rest, acc, h1, h2, by omega, ft f24, h4k.trans (f24.kp h5), k4, hD4, a4⟩
        | true =>
          rw [if_pos rfl] at h1
          obtain ⟨y, m3, g3, h1⟩ := R.bind_eq h1
          obtain ⟨ys', m4, g4, h1⟩ := R.bind_eq h1
          cases h1
          simp only [PB, if_true]
          refine ⟨W4, env1, m2, ⟨k4, en3.fut k3 f4⟩, PR.of_ok g3 fun W5 H5 f5 k5 => fun u ru => ?_⟩
          have f25 := f24.trans f5
          obtain ⟨as5, hd5⟩ := W5
          obtain rfl : hd5 = D0 :: W0.hd := f25.hd
          have hD5 : H5 D0 = some (.lst acc) := f25.keep _ _ h6 fun z => h5.apart D0 z (List.mem_cons_self ..)
          have a5 := h5.rpL f25 h7
          have hid : D0 ∈ (⟨as5, D0 :: W0.hd⟩ : Wd).hd := List.mem_cons_self ..
          have kh : Kp ⟨as5, D0 :: W0.hd⟩ H5 ⟨as5, D0 :: W0.hd⟩ (upd H5 D0 (.lst (acc ++ [u]))) := Kp.hidden hid hD5
          refine ⟨acc, hD5, by rw [h7.len, line_eq]; omega, as5, m3, done ++ [y], ys', acc ++ [u], g4, by rw [List.append_assoc]; exact h2, by simp; omega, ?_, h4k.trans ((f25.kp h5).trans kh), k5.hidden hid hD5, upd_same, RpL.kp kh _ _ (a5.append ⟨u, [], rfl, ru, rfl⟩)⟩
          have f5' := ft f25
          exact ⟨f5'.ext, rfl, fun a o e ha => by rw [upd_ne (ne_of_none e hD0)]; exact f5'.keep a o e ha, fun a od u e => by rw [upd_ne (ne_of_none e hD0)]; exact f5'.lk a od u e⟩
      · cases h1
  · exact p0.elim
theorem sn_lc (c : Bool) {elt tg iter : Expr} {ifs : List Expr} {scope : Scope} {own : List (Str × Nat)} {fi : FI} {g : FG} {t : FT} {f : FE} (hc : X.calm = true) (hN : X.N.Nodup) (hi : PI X tg iter (tI G E fi)) (ok : BlkOk X.N X.env.scope scope own)
    (hg : ∀ (s : Shared) (H : Hp) (C : Addr) (cl : List (Str × Addr)) (fp : List Addr), PG (X.blk s H scope (compEnvC scope cl C X.env) fp) tg (tGt G (fun _ _ _ => False) (own.map (·.2)) g)) (ht : ∀ (s : Shared) (H : Hp) (C : Addr) (cl : List (Str × Addr)) (fp : List Addr), PTs (X.blk s H scope (compEnvC scope cl C X.env) fp) ifs (tT G (fun _ _ _ => False) t))
    (he : ∀ (s : Shared) (H : Hp) (C : Addr) (cl : List (Str × Addr)) (fp : List Addr), PE (X.blk s H scope (compEnvC scope cl C X.env) fp) elt (tE G (fun _ _ _ => False) f)) (hs : ∀ x, foldedSetIterable iter X.env x = pure x := by intro _; rfl) :
    PE X (.ListComp elt [⟨tg, iter, ifs, 0⟩] scope pos) (tE G E (mLc c (own.map (·.2)) fi g t f)) := pe_imp (pe_lc hc hN hi ok hg ht he hs) tLc_of
theorem ss_setLc (c : Bool) {i : Nat} {y : Str} {py : Pos} {elt tg iter : Expr} {ifs : List Expr} {scope : Scope} {own : List (Str × Nat)} {spos : Pos} {fi : FI} {g : FG} {t : FT} {f : FE} (hc : X.calm = true) (hN : X.N.Nodup) (hy : X.N[i]? = some y) (hyl : X.env.scope.names.lookup y = some .local)
    (hsw : swapsWith (.ListComp elt [⟨tg, iter, ifs, 0⟩] scope pos) (some (.Name y py)) spos.line X.env = pure true) (hi : PI X tg iter (tI G E fi)) (ok : BlkOk X.N X.env.scope scope own)
    (hg : ∀ (s : Shared) (H : Hp) (C : Addr) (cl : List (Str × Addr)) (fp : List Addr), PG (X.blk s H scope (compEnvC scope cl C X.env) fp) tg (tGt G (fun _ _ _ => False) (own.map (·.2)) g)) (ht : ∀ (s : Shared) (H : Hp) (C : Addr) (cl : List (Str × Addr)) (fp : List Addr), PTs (X.blk s H scope (compEnvC scope cl C X.env) fp) ifs (tT G (fun _ _ _ => False) t))
    (he : ∀ (s : Shared) (H : Hp) (C : Addr) (cl : List (Str × Addr)) (fp : List Addr), PE (X.blk s H scope (compEnvC scope cl C X.env) fp) elt (tE G (fun _ _ _ => False) f)) (hs : ∀ x, foldedSetIterable iter X.env x = pure x := by intro _; rfl) :
    PS X (.Assign [.Name y py] (.ListComp elt [⟨tg, iter, ifs, 0⟩] scope pos) spos) (tS G E (mSet i (mLc c (own.map (·.2)) fi g t f))) := ps_imp (ps_setLc hc hN hy hyl hsw hi ok hg ht he hs) fun D σ H ⟨W, env, M, s, p⟩ => by
  refine tLc_of (c := c) σ H _ ?_
  refine tE.bind s p fun d m W1 H1 u f1 s1 r1 p1 => ?_
  exact p1.here s1.mem _ (s1.env.set i r1)
theorem sts_nil : PTs X [] (tT G E tsYes) := ⟨fun pins s σ H Q I h => pts_nil.run pins s σ H Q I (by obtain ⟨W, env, M, st, p⟩ := h; exact p.here st.mem)⟩
theorem sts_one {t : FT} (h : PT X c (tT G E t)) : PTs X [c] (tT G E t) := pts_one h
end
end Fn
set_option Elab.async false
set_option linter.all false
set_option maxRecDepth 100000
set_option maxHeartbeats 1000000
namespace Fn
open PySem PySem.Spec PyProof.Rows L2
abbrev FD := List D → Mem → R D
section
variable {X : Cx} {G : Gx} {cl : Nat → Addr} {E : XK} {W : Wd} {H : Hp} {M : Mem} {a b c : Expr} {fa fb fc : FE} {pos : Pos}
def spOf (G : Gx) (n : Nat) (g : FD) : Sp := fun vs H Q E => ∃ W M ds, MemOk G W H M ∧ RpL G W H ds vs ∧ ds.length = n ∧ PR G W H (PV G Q) E (g ds M)
theorem passA {X : Cx} {E : XK} : Passes CX0 X E := fun _ _ _ _ _ _ _ h => h.elim
/-- f(..) with the written arguments and the defaults dd -/
def mFun (n : Nat) (g : FD) (dd : List D) (fa : FA) : FE := fun env M => (fa env M).bind fun ds m => if (ds ++ dd).length = n then g (ds ++ dd) m else .no
def Closed (dd : List D) (dvs : List V) : Prop := ∀ (G : Gx) (W : Wd) (H : Hp), RpL G W H dd dvs
theorem closed_nil : Closed [] [] := fun _ _ _ => rfl
section
variable {CX : CXT} {k n : Nat} {f C : Addr} {fd : FuncData} {ps : List Str} {g : FD} {dvs : List V} {dd : List D} {ds : List Value} {x m : Str} {p apos : Pos} {e o : Expr} {es : List Expr} {ga : FA}
theorem fun_reads {E' : XK} (hc : Closed dd dvs) (σ : L2.St) (H : Hp) (Q : VK) (h : tE G E (mFun n g dd ga) σ H Q) : tCall (spOf G n g) dvs E (tA G E ga) σ H Q := by
  obtain ⟨W, env, M, s, p⟩ := h
  refine tA.bind s p fun ds m2 W2 H2 us f2 s2 r2 p2 => ?_
  split at p2
  · rename_i hl
    exact ⟨W2, m2, ds ++ dd, s2.mem, r2.append (hc G W2 H2), hl, p2⟩
  · exact p2.elim
theorem sn_call (F : FnOk X.prog X.w X.K X.mg X.base CX k f fd ps (spOf ⟨X.K, cl, X.w⟩ n g)) (hr : Room k X.A) (hg : Gl X x) (hm : X.mg x = some (.ref f)) (hk : PySem.W.keepIn X.K (.ref f) = true) (hb : Binds X.K fd ps ds) (hd : Vals dvs ds) (hc : Closed dd dvs) (hx : Passes CX X E)
    (ha : PA X (e :: es) (tA ⟨X.K, cl, X.w⟩ E ga)) (hdb : (x == ("__debug__" : Str)) = false := by decide) (he : starEach (e :: es) X.env = (false, eval e X.env) :: starEach es X.env := by rfl) (hpl : (backTo pos (starEach es X.env)).any (·.1) = false := by rfl) :
    PE X (.Call (.Name x p) (e :: es) [] pos) (tE ⟨X.K, cl, X.w⟩ E (mFun n g dd ga)) := pe_imp (pe_call F hr hg hm hk hb hd hx ha hdb he hpl) (fun_reads (E' := E) hc)
end
def envStart (N : Nat) (ds : List D) : Env := ds.map some ++ List.replicate (N - ds.length) none
/-- rb, a body's run, does what rg tells -/
def Ref (M : Mem) (rg : R D) (rb : R Flow) : Prop := ∀ (G : Gx) (W : Wd) (H : Hp) (Q : VK) (E : XK), MemOk G W H M → PR G W H (PV G Q) E rg → PR G W H (PFl G { nx := fun _ H' => Q .non H', rt := Q }) E rb
theorem Ref.no {M : Mem} {rb : R Flow} : Ref M .no rb := fun _ _ _ _ _ _ h => h.elim
theorem Ref.ret {M m : Mem} {d : D} : Ref M (.ok d m) (.ok (.rt d) m) := fun _ _ _ _ _ _ h => h
theorem Ref.nx {M m : Mem} {env : Env} : Ref M (.ok .non m) (.ok (.nx env) m) := fun _ _ _ _ _ _ h => fun W' H' f m' σ' _ => h W' H' f m' .non rfl
theorem Ref.ex {M m : Mem} {c : Nat} {fs : List (Str × D)} : Ref M (.ex c fs m) (.ex c fs m) := fun _ _ _ _ _ _ h => h
theorem Ref.of {M : Mem} {rg : R D} {rb rb' : R Flow} (e : rb = rb') (h : Ref M rg rb') : Ref M rg rb := by rw [e]; exact h
theorem envStart_ok {N : List Str} {ds : List D} {vs : List V} (r : RpL G W H ds vs) : EnvOk G W H (envStart N.length ds) (L2.start N vs) := by
  unfold envStart L2.start
  rw [r.len]
  refine ⟨by simp [r.len], fun i d e => ?_⟩
  by_cases hi : i < ds.length
  · rw [List.getElem?_append_left (by simpa using hi), List.getElem?_map] at e
    cases q : ds[i]? with
    | none => rw [q] at e; cases e
    | some d' =>
      rw [q] at e; cases e
      obtain ⟨u, h1, h2⟩ := r.get q
      refine ⟨u, ?_, h2⟩
      rw [List.getElem?_append_left (by simp [r.len]; exact hi), List.getElem?_map, h1]
      rfl
  · rw [List.getElem?_append_right (by simp; omega), List.getElem?_replicate] at e
    split at e <;> cases e
/-- a def's model: its body's run -/
def runB (B : FS) (N : Nat) : FD := fun ds M => match B (envStart N ds) M with
  | .ok (.rt d) m => .ok d m
  | .ok (.nx _) m => .ok .non m
  | .ok _ _ => .no
  | .ex c fs m => .ex c fs m
  | .no => .no
theorem ref_run (B : FS) (N : Nat) (ds : List D) (M : Mem) : Ref M (runB B N ds M) (B (envStart N ds) M) := by
  unfold runB
  split
  · rename_i e; exact Ref.of e Ref.ret
  · rename_i e; exact Ref.of e Ref.nx
  · exact Ref.no
  · rename_i e; exact Ref.of e Ref.ex
  · exact Ref.no
mutual
def bdD (n : Nat) : D → Bool
  | .ref i => decide (i < n)
  | .tup l => bdL n l
  | .ct l => bdL n l
  | .lst l => bdL n l
  | .fz l => bdL n l
  | _ => true
def bdL (n : Nat) : List D → Bool
  | [] => true
  | d :: r => bdD n d && bdL n r
end
def bdC (n : Nat) : Cell → Bool
  | .lst l => bdL n l
  | .dk _ kvs => bdL n (kvs.map (·.2))
  | .dt _ kvs => bdL n (kvs.map (·.2))
  | .dn _ kvs => bdL n (kvs.map (·.2))
  | .ins _ fs => bdL n (fs.map (·.2))
mutual
def frzD (m : Mem) (n : Nat) : D → D
  | .ref i => if i < n then .ref i else match m[i]? with
    | some (.lst l) => .lst l
    | _ => .ref i
  | .tup l => .tup (frzL m n l)
  | .ct l => .ct (frzL m n l)
  | .lst l => .lst (frzL m n l)
  | .fz l => .fz (frzL m n l)
  | d => d
def frzL (m : Mem) (n : Nat) : List D → List D
  | [] => []
  | d :: r => frzD m n d :: frzL m n r
end
/-- may the memory be cut to its first cells -/
def cutOk (M m : Mem) (d : D) : Prop := M.length ≤ m.length ∧ bdD M.length d = true ∧ ∀ (j : Nat) (c : Cell), j < M.length → m[j]? = some c → M[j]? = some c ∨ bdC M.length c = true
open Classical in
noncomputable def gcR (M : Mem) (r : R D) : R D := match r with
  | .ok d m => if cutOk M m (frzD m M.length d) then .ok (frzD m M.length d) (m.take M.length) else .ok d m
  | r => r
noncomputable def gcB (B : FS) (N : Nat) : FD := fun ds M => gcR M (runB B N ds M)
mutual
theorem Rp.bd {n : Nat} (hn : n = W.as.length) : ∀ (d : D) (u : V), Rp G W H d u → bdD n d = true
  | .non, u, h => rfl
  | .bl b, u, h => rfl
  | .int i, u, h => rfl
  | .str x, u, h => rfl
  | .tup l, u, h => by obtain ⟨a, us, e, s, r⟩ := h; exact RpL.bd hn l us r
  | .ct l, u, h => by obtain ⟨a, us, e, s, r⟩ := h; exact RpL.bd hn l us r
  | .lst l, u, h => by obtain ⟨a, us, e, s, r⟩ := h; exact RpL.bd hn l us r
  | .fz l, u, h => by obtain ⟨a, us, e, s, r⟩ := h; exact RpL.bd hn l us r
  | .ref i, u, h => by
    obtain ⟨a, e, r⟩ := h
    simp only [bdD, decide_eq_true_eq, hn]
    exact (List.getElem?_eq_some_iff.mp e).1
theorem RpL.bd {n : Nat} (hn : n = W.as.length) : ∀ (l : List D) (us : List V), RpL G W H l us → bdL n l = true
  | [], us, h => rfl
  | d :: r, us, h => by
    obtain ⟨u, us', e, h1, h2⟩ := h
    simp only [bdL, Rp.bd hn d u h1, RpL.bd hn r us' h2, Bool.and_self]
end
/-- the world cut to its first cells -/
def cutW (W : Wd) (n : Nat) : Wd := ⟨W.as.take n, W.hd⟩
theorem mem_take {α : Type} {l : List α} {n : Nat} {a : α} (h : a ∈ l.take n) : a ∈ l := List.mem_of_mem_take h
mutual
theorem Rp.trim {n : Nat} (hn : n ≤ W.as.length) : ∀ (d : D) (u : V), bdD n d = true → Rp G W H d u → Rp G (cutW W n) H d u
  | .non, u, b, h => h
  | .bl _, u, b, h => h
  | .int i, u, b, h => h
  | .str x, u, b, h => h
  | .tup l, u, b, h => by obtain ⟨a, us, e, s, r⟩ := h; exact ⟨a, us, e, s, RpL.trim hn l us b r⟩
  | .ct l, u, b, h => by obtain ⟨a, us, e, s, r⟩ := h; exact ⟨a, us, e, s, RpL.trim hn l us b r⟩
  | .lst l, u, b, h => by obtain ⟨a, us, e, s, r⟩ := h; exact ⟨a, us, e, ⟨s.1, fun z => s.2.1 (mem_take z), s.2.2⟩, RpL.trim hn l us b r⟩
  | .fz l, u, b, h => by obtain ⟨a, us, e, s, r⟩ := h; exact ⟨a, us, e, s, RpL.trim hn l us b r⟩
  | .ref i, u, b, h => by
    obtain ⟨a, e, r⟩ := h
    refine ⟨a, ?_, r⟩
    simp only [bdD, decide_eq_true_eq] at b
    show (W.as.take n)[i]? = some a
    rw [List.getElem?_take, if_pos b]
    exact e
theorem RpL.trim {n : Nat} (hn : n ≤ W.as.length) : ∀ (l : List D) (us : List V), bdL n l = true → RpL G W H l us → RpL G (cutW W n) H l us
  | [], us, b, h => h
  | d :: r, us, b, h => by
    obtain ⟨u, us', e, h1, h2⟩ := h
    simp only [bdL, Bool.and_eq_true] at b
    exact ⟨u, us', e, Rp.trim hn d u b.1 h1, RpL.trim hn r us' b.2 h2⟩
end
mutual
theorem Rp.frz {m : Mem} {n : Nat} (k : MemOk G W H m) (hn : n ≤ W.as.length) : ∀ (d : D) (u : V), bdD n (frzD m n d) = true → Rp G W H d u → Rp G (cutW W n) H (frzD m n d) u
  | .non, u, b, h => h
  | .bl _, u, b, h => h
  | .int i, u, b, h => h
  | .str x, u, b, h => h
  | .tup l, u, b, h => by obtain ⟨a, us, e, s, r⟩ := h; exact ⟨a, us, e, s.imp id fun z => ⟨by rw [z.1]; rfl, z.2⟩, RpL.frz k hn l us b r⟩
  | .ct l, u, b, h => by obtain ⟨a, us, e, s, r⟩ := h; exact ⟨a, us, e, s, RpL.frz k hn l us b r⟩
  | .lst l, u, b, h => by obtain ⟨a, us, e, s, r⟩ := h; exact ⟨a, us, e, ⟨s.1, fun z => s.2.1 (mem_take z), s.2.2⟩, RpL.frz k hn l us b r⟩
  | .fz l, u, b, h => by obtain ⟨a, us, e, s, r⟩ := h; exact ⟨a, us, e, s, RpL.frz k hn l us b r⟩
  | .ref i, u, b, h => by
    simp only [frzD] at b ⊢
    split at b
    · rename_i hi
      rw [if_pos hi]
      exact Rp.trim hn (.ref i) u (by simp only [bdD, decide_eq_true_eq]; exact hi) h
    · rename_i hi
      rw [if_neg hi]
      split at b
      · rename_i l hc
        obtain ⟨a, e, rfl⟩ := h
        obtain ⟨us, h1, h2⟩ := k.cell i _ a hc e
        refine ⟨a, us, rfl, ⟨h1, fun z => ?_, k.apart a (List.mem_of_getElem? e)⟩, RpL.trim hn l us b h2⟩
        obtain ⟨j, hj⟩ := List.getElem?_of_mem z
        have hj' : (W.as.take n)[j]? = some a := hj
        rw [List.getElem?_take] at hj'
        split at hj'
        · rename_i hjn
          have := (List.getElem?_inj (List.getElem?_eq_some_iff.mp hj').1 k.nd).mp (hj'.trans e.symm)
          omega
        · cases hj'
      · simp only [bdD, decide_eq_true_eq] at b
        exact absurd b hi
theorem RpL.frz {m : Mem} {n : Nat} (k : MemOk G W H m) (hn : n ≤ W.as.length) : ∀ (l : List D) (us : List V), bdL n (frzL m n l) = true → RpL G W H l us → RpL G (cutW W n) H (frzL m n l) us
  | [], us, b, h => h
  | d :: r, us, b, h => by
    obtain ⟨u, us', e, h1, h2⟩ := h
    simp only [frzL, bdL, Bool.and_eq_true] at b
    exact ⟨u, us', e, Rp.frz k hn d u b.1 h1, RpL.frz k hn r us' b.2 h2⟩
end
theorem rpk_vals {κ κ' : Type} {f : κ → κ'} : ∀ {l : List (κ × D)} {vs : List (κ' × V)}, RpK G W H f l vs → RpL G W H (l.map (·.2)) (vs.map (·.2))
  | _, _, .nil => (rfl : ([] : List V) = [])
  | _, _, .cons h t => ⟨_, _, rfl, h.2, rpk_vals t⟩
theorem rpn_vals : ∀ {l : List (NK × D)} {vs : List (NestedKey × Addr × V)}, RpN G W H l vs → RpL G W H (l.map (·.2)) (vs.map (·.2.2))
  | _, _, .nil => (rfl : ([] : List V) = [])
  | _, _, .cons h t => ⟨_, _, rfl, h.2.2.2, rpn_vals t⟩
theorem CellOk.bd {n : Nat} (hn : n = W.as.length) {a : Addr} {c : Cell} (h : CellOk G W H a c) : bdC n c = true := by
  cases c with
  | lst l => obtain ⟨us, _, r⟩ := h; exact RpL.bd hn l us r
  | dk lk kvs => obtain ⟨us, _, r⟩ := h; exact RpL.bd hn _ _ (rpk_vals r)
  | dt lk kvs => obtain ⟨us, _, r⟩ := h; exact RpL.bd hn _ _ (rpk_vals r)
  | dn lk kvs => obtain ⟨us, _, r⟩ := h; exact RpL.bd hn _ _ (rpn_vals r)
  | ins c0 fs => obtain ⟨dx, us, _, r⟩ := h; exact RpL.bd hn _ _ (rpk_vals r)
theorem rpk_cut {n : Nat} (hn : n ≤ W.as.length) {κ κ' : Type} {f : κ → κ'} : ∀ {l : List (κ × D)} {vs : List (κ' × V)}, bdL n (l.map (·.2)) = true → RpK G W H f l vs → RpK G (cutW W n) H f l vs
  | _, _, _, .nil => .nil
  | _, _, b, .cons h t => by
    simp only [List.map_cons, bdL, Bool.and_eq_true] at b
    exact .cons ⟨h.1, Rp.trim hn _ _ b.1 h.2⟩ (rpk_cut hn b.2 t)
theorem rpn_cut {n : Nat} (hn : n ≤ W.as.length) : ∀ {l : List (NK × D)} {vs : List (NestedKey × Addr × V)}, bdL n (l.map (·.2)) = true → RpN G W H l vs → RpN G (cutW W n) H l vs
  | _, _, _, .nil => .nil
  | _, _, b, .cons h t => by
    simp only [List.map_cons, bdL, Bool.and_eq_true] at b
    exact .cons ⟨h.1, h.2.1, h.2.2.1, Rp.trim hn _ _ b.1 h.2.2.2⟩ (rpn_cut hn b.2 t)
theorem CellOk.trim {n : Nat} (hn : n ≤ W.as.length) {a : Addr} {c : Cell} (b : bdC n c = true) (h : CellOk G W H a c) : CellOk G (cutW W n) H a c := by
  cases c with
  | lst l => obtain ⟨us, q, r⟩ := h; exact ⟨us, q, RpL.trim hn l us b r⟩
  | dk lk kvs => obtain ⟨us, q, r⟩ := h; exact ⟨us, q, rpk_cut hn b r⟩
  | dt lk kvs => obtain ⟨us, q, r⟩ := h; exact ⟨us, q, rpk_cut hn b r⟩
  | dn lk kvs => obtain ⟨us, q, r⟩ := h; exact ⟨us, q, rpn_cut hn b r⟩
  | ins c0 fs => obtain ⟨dx, us, q, r⟩ := h; exact ⟨dx, us, q, rpk_cut hn b r⟩
theorem MemOk.bd (k : MemOk G W H M) {j : Nat} {c : Cell} (h : M[j]? = some c) : bdC M.length c = true := by
  have hl : j < W.as.length := by rw [k.len]; exact (List.getElem?_eq_some_iff.mp h).1
  exact (k.cell j c _ h (List.getElem?_eq_getElem hl)).bd k.len.symm
theorem MemOk.trim {m : Mem} (k0 : MemOk G W H M) {W' : Wd} {H' : Hp} (k : MemOk G W' H' m) (hl : M.length ≤ m.length) (hb : ∀ (j : Nat) (c : Cell), j < M.length → m[j]? = some c → M[j]? = some c ∨ bdC M.length c = true) : MemOk G (cutW W' M.length) H' (m.take M.length) where
  len := by
    show (W'.as.take M.length).length = _
    rw [List.length_take, List.length_take, k.len]
  nd := k.nd.sublist (List.take_sublist ..)
  cell := fun i c a e1 e2 => by
    have e2' : (W'.as.take M.length)[i]? = some a := e2
    rw [List.getElem?_take] at e1 e2'
    split at e1
    · rename_i hi
      rw [if_pos hi] at e2'
      have hn : M.length ≤ W'.as.length := by rw [k.len]; exact hl
      refine (k.cell i c a e1 e2').trim hn ?_
      rcases hb i c hi e1 with z | z
      · exact k0.bd z
      · exact z
    · cases e1
  apart := fun a ha => k.apart a (mem_take ha)
  hid := k.hid
theorem Fut.trim {W' : Wd} {H' : Hp} (k0 : MemOk G W H M) (f : Fut W H W' H') : Fut W H (cutW W' M.length) H' := by
  refine ⟨⟨[], ?_, by simp⟩, f.hd, f.keep, f.lk⟩
  obtain ⟨nw, e, _⟩ := f.ext
  show W'.as.take M.length = _
  rw [e, ← k0.len, List.append_nil, List.take_left']
  rfl
theorem ref_gc (B : FS) (N : Nat) (ds : List D) (M : Mem) : Ref M (gcB B N ds M) (B (envStart N ds) M) := by
  intro G W H Q E m p
  refine ref_run B N ds M G W H Q E m ?_
  unfold gcB at p
  cases hr : runB B N ds M with
  | ex c fs m' => rw [hr] at p; exact p
  | no => rw [hr] at p; exact p
  | ok d m' =>
    rw [hr] at p
    simp only [gcR] at p
    split at p
    · rename_i hc
      refine fun W' H' f k u ru => p (cutW W' M.length) H' (Fut.trim m f) (MemOk.trim m k hc.1 hc.2.2) u ?_
      exact Rp.frz k (by rw [k.len]; exact hc.1) d u hc.2.1 ru
    · exact p
/-- the usual ends: cells ahead as they were, or one written -/
theorem cut_id {M junk : Mem} {d : D} (hd : bdD M.length d = true) : cutOk M (M ++ junk) d := ⟨by simp, hd, fun j c hj e => .inl (by rw [List.getElem?_append_left hj] at e; exact e)⟩
theorem cut_set {M junk : Mem} {d : D} {i : Nat} {c : Cell} (hd : bdD M.length d = true) (hc : bdC M.length c = true) : cutOk M (M.set i c ++ junk) d := ⟨by simp, hd, fun j c' hj e => by
  rw [List.getElem?_append_left (by simpa using hj)] at e
  by_cases hij : i = j
  · subst hij
    rw [List.getElem?_set_self hj] at e
    cases e
    exact .inr hc
  · rw [List.getElem?_set_ne hij] at e
    exact .inl e⟩
section
variable {P : Program} {w : World} {K : PySem.W.Frag} {mg : Str → Option Value} {base : Heap}
/-- THE RULE: a def's body by its model, the model by what is said of it -/
theorem fn_def {x qual : Str} {st : Stmt} {f : Addr} {fd : FuncData} {N ps : List Str} {k : Nat} {g : FD} {B : FS} {cl : Nat → Addr} (F : Fun K x qual st f fd) (S : FnScope N ps (defScope st))
    (hbody : ∀ (cdv : Value) (A : Around) (outer : List PySem.Env) (s : Shared) (H : Hp) (E : XK), Room k (A.deeper (envOfC qual (defScope st) s.heap.objs.size f cdv)) →
      PSs (cxOf CX0 P w K mg base N qual (defScope st) f cdv A outer s H E).nox (defBody st) (tS ⟨K, cl, w⟩ E B))
    (href : ∀ ds M, ds.length = ps.length → Ref M (g ds M) (B (envStart N.length ds) M)) : FnOk P w K mg base CX0 (k + 1) f fd ps (spOf ⟨K, cl, w⟩ ps.length g) := by
  refine F.ok S (fun vs H Q E ⟨W, M, ds, m, r, hl, _⟩ => by rw [r.len, hl]) fun cdv A outer s H vs Q E hr ⟨W, M, ds, m, r, hl, p⟩ => ?_
  exact ⟨_, hbody cdv A outer s H E hr, W, envStart N.length ds, M, ⟨m, envStart_ok r⟩, href ds M hl _ W H Q E m p⟩
end
end
end Fn
set_option Elab.async false
set_option linter.all false
set_option maxRecDepth 100000
set_option maxHeartbeats 1000000
namespace Fn
open PySem PySem.Spec PyProof.Rows L2
section
variable {X : Cx} {G : Gx} {cl : Nat → Addr} {E : XK} {W : Wd} {H : Hp} {M : Mem} {a b c : Expr} {fa fb fc : FE} {pos : Pos}
theorem huE {k : Nat} {A : Around} (hr : Room k A) : A.units + 64 < cLine := hr.units
theorem hu1E {k : Nat} {A : Around} (hr : Room k A) : A.units + 65 < cLine := by have := hr.un; omega
theorem sn_strL {x : Str} {l : List Nat} {j : Nat} (h : s2l x = l) : PE X (.Constant (.str x) j pos) (tE G E (mC (.str l))) := by subst h; exact sn_str
theorem sn_glob {x : Str} {v : V} {u : Value} {d : D} (hg : Gl X x) (hm : X.mg x = some u) (r : RelV v u) (hc : ∀ W H, Rp G W H d v) (hd : (x == ("__debug__" : Str)) = false := by decide) : PE X (.Name x pos) (tE G E (mC d)) :=
  pe_imp (pe_glob hg hm r hd) fun σ H Q ⟨W, env, M, s, p⟩ => p W H Fut.rfl' s.mem _ (hc W H)
section
variable {id T : String} {r : List V → Hp → VK → Prop} {o : List D → Mem → R D} {x : Str} {p : Pos} {e : Expr} {es : List Expr} {g : FA}
theorem sn_callB (hc : CallR X (.builtin id) r) (hs : Fn1 ⟨X.K, cl, X.w⟩ E r o) (hg : Gl X x) (hm : X.mg x = none) (hv : bootBuiltins x = some (.builtin id)) (ha : PA X (e :: es) (tA ⟨X.K, cl, X.w⟩ E g)) (hn : x ≠ "__name__" := by decide) (hdb : (x == ("__debug__" : Str)) = false := by decide)
    (he : starEach (e :: es) X.env = (false, eval e X.env) :: starEach es X.env := by rfl) (hpl : (backTo pos (starEach es X.env)).any (·.1) = false := by rfl) : PE X (.Call (.Name x p) (e :: es) [] pos) (tE ⟨X.K, cl, X.w⟩ E (mCall o g)) :=
  pe_imp (pe_callB hc hg hm hv ha hn hdb he hpl) (tE_call hs)
theorem sn_callTy (hc : CallR X (.type T) r) (hs : Fn1 ⟨X.K, cl, X.w⟩ E r o) (hg : Gl X x) (hm : X.mg x = none) (hv : bootBuiltins x = some (.type T)) (ha : PA X (e :: es) (tA ⟨X.K, cl, X.w⟩ E g)) (hn : x ≠ "__name__" := by decide) (hdb : (x == ("__debug__" : Str)) = false := by decide)
    (he : starEach (e :: es) X.env = (false, eval e X.env) :: starEach es X.env := by rfl) (hpl : (backTo pos (starEach es X.env)).any (·.1) = false := by rfl) : PE X (.Call (.Name x p) (e :: es) [] pos) (tE ⟨X.K, cl, X.w⟩ E (mCall o g)) :=
  pe_imp (pe_callTy hc hg hm hv ha hn hdb he hpl) (tE_call hs)
end
section
variable {id T : String} {r : V → List V → Hp → VK → Prop} {o : D → List D → Mem → R D} {name : Str} {apos cpos : Pos} {rc e : Expr} {es : List Expr} {f : FE} {g : FA}
theorem tyW_is {pins : List (Addr × Obj)} {σ : L2.St} {H : Hp} {s : Shared} {T : String} {x : V} {v : Value} (I : Inv X pins σ H s) (r : RelV x v) (ty : tyW X.K X.w T x H) : s.TypeIs v T ∧ ∀ a, v = .ref a → ∃ ob, s.heap.get? a = some ob ∧ ob.dict = none := by
  rcases ty with ty | ⟨rfl, a, es, rfl, ha⟩
  · exact tyV_is I r ty
  · obtain rfl : v = Value.ref a := r
    obtain ⟨⟨z, hd, xs, pr, ob, arr, ep, h1, h2, _⟩, _, _⟩ := I.hok a _ ha
    exact ⟨⟨ob, h1, h2.1⟩, fun b e => by cases e; exact ⟨ob, h1, h2.2.1⟩⟩
theorem pe_mw {to : TE} {t : TA} (pa : PlainAttrs T) (slot : Slot T name id) (hty : typeOf (.builtin id) = pure (.type "method_descriptor")) (hm : MtR X id r) (ho : PE X rc to) (ha : PA X (e :: es) t)
    (hbase : attributeBase rc name X.env (eval rc X.env) = eval rc X.env := by rfl)
    (hfew : ((backTo cpos (starEach (e :: es) X.env)).all (fun x => !x.1) && (backToKw cpos (keywordEach [] X.env)).all (fun x => x.1.isSome)
      && decide ((e :: es).length + ([] : List Keyword).length + (if ([] : List Keyword).isEmpty then 0 else 1) < 30)) = true := by rfl)
    (hline : (apos.endLine == cpos.line) = true := by rfl) (hs : starEach (e :: es) X.env = (false, eval e X.env) :: starEach es X.env := by rfl) (hplain : (backTo cpos (starEach es X.env)).any (·.1) = false := by rfl) :
    PE X (.Call (.Attribute rc name apos) (e :: es) [] cpos) (tMw X.K X.w T r to t) := by
  refine ⟨fun pins s σ H Q I h => ?_⟩
  refine wpAny_Call_method_late hbase hfew hline rfl (thn (ho.run pins s σ H _ I h) fun v s1 ⟨x, H1, I1, r1, ty, q1⟩ => ?_)
  have hh := tyW_is I1 r1 ty
  refine ⟨T, id, pa, slot, hty, hh.1, hh.2, ?_⟩
  have hA := ha.run cpos pins s1 σ H1 _ I1 q1
  rw [hs] at hA ⊢
  refine Calls.callWith_builtin (by show (false || (backTo cpos (starEach es X.env)).any (·.1)) = false; rw [hplain] <;> rfl) (Calls.evalArgs_plain ?_)
  exact thn hA fun us s2 ⟨vs, H2, I2, r2, q2⟩ => hm pins s2 σ H2 x vs v us Q I2 r1 r2 q2
theorem sn_meth (pa : PlainAttrs T) (slot : Slot T name id) (hty : typeOf (.builtin id) = pure (.type "method_descriptor")) (hm : MtR X id r) (hs : Mt1 ⟨X.K, cl, X.w⟩ E r o) (ho : PE X rc (tE ⟨X.K, cl, X.w⟩ E f)) (ha : PA X (e :: es) (tA ⟨X.K, cl, X.w⟩ E g))
    (hbase : attributeBase rc name X.env (eval rc X.env) = eval rc X.env := by rfl)
    (hfew : ((backTo cpos (starEach (e :: es) X.env)).all (fun x => !x.1) && (backToKw cpos (keywordEach [] X.env)).all (fun x => x.1.isSome)
      && decide ((e :: es).length + ([] : List Keyword).length + (if ([] : List Keyword).isEmpty then 0 else 1) < 30)) = true := by rfl)
    (hline : (apos.endLine == cpos.line) = true := by rfl) (hs1 : starEach (e :: es) X.env = (false, eval e X.env) :: starEach es X.env := by rfl) (hplain : (backTo cpos (starEach es X.env)).any (·.1) = false := by rfl) :
    PE X (.Call (.Attribute rc name apos) (e :: es) [] cpos) (tE ⟨X.K, cl, X.w⟩ E (mMeth T o f g)) := pe_imp (pe_mw pa slot hty hm ho ha hbase hfew hline hs1 hplain) (tE_meth hs)
end
theorem test_of {f : FE} {t : TE} (h : ∀ σ H Q, tE G E f σ H Q → t σ H Q) (σ : L2.St) (H : Hp) (Q : Bool → Hp → Prop) (q : tT G E (bOf f) σ H Q) : tTest t σ H Q := by
  obtain ⟨W, env, M, s, p⟩ := q
  refine h σ H _ (tE.bind s p fun d m W1 H1 u f1 s1 r1 p1 => ?_)
  cases d with
  | bl k => exact ⟨k, r1, p1.here s1.mem⟩
  | _ => exact p1.elim
theorem st_cmp {op : CmpOp} {r : R2} {o : D → D → Mem → R D} (ho : OpR X (compareOp op) r) (hs : Op2 G E r o) (hm : behindInMarks op b = false) (ha : PE X a (tE G E fa)) (hb : PE X b (tE G E fb)) : PT X (.Compare a [op] [b] pos) (tT G E (bOf (mOp o fa fb))) :=
  pt_imp (pt_cmpR ho ha hb hm) (test_of (tE_op hs))
theorem isN_reads {neg : Bool} (σ : L2.St) (H : Hp) (Q : VK) (h : tE G E (mUn (oIsN neg) fa) σ H Q) : tOp (fun x y H Q => y = .non ∧ Q (.bl (if neg = true then !decide (x = .non) else decide (x = .non))) H) (tE G E fa) (tC .non) σ H Q := by
  obtain ⟨W, env, M, s, p⟩ := h
  refine tE.bind s p fun d m W1 H1 u f1 s1 r1 p1 => ?_
  refine ⟨rfl, ?_⟩
  cases d with
  | non => cases r1; cases neg <;> exact p1.here s1.mem _ rfl
  | bl b => cases r1; cases neg <;> exact p1.here s1.mem _ rfl
  | int b => cases r1; cases neg <;> exact p1.here s1.mem _ rfl
  | str b => cases r1; cases neg <;> exact p1.here s1.mem _ rfl
  | tup l => obtain ⟨a, us, e1, _⟩ := r1; subst e1; cases neg <;> exact p1.here s1.mem _ rfl
  | ct l => obtain ⟨a, us, e1, _⟩ := r1; subst e1; cases neg <;> exact p1.here s1.mem _ rfl
  | lst l => obtain ⟨a, us, e1, _⟩ := r1; subst e1; cases neg <;> exact p1.here s1.mem _ rfl
  | fz l => obtain ⟨a, us, e1, _⟩ := r1; subst e1; cases neg <;> exact p1.here s1.mem _ rfl
  | ref l => obtain ⟨a, us, e1⟩ := r1; subst e1; cases neg <;> exact p1.here s1.mem _ rfl
theorem st_isN {i pos2} (ha : PE X a (tE G E fa)) : PT X (.Compare a [.Is] [.Constant .none i pos2] pos) (tT G E (bOf (mUn (oIsN false) fa))) := pt_imp (pt_cmpR op_isN ha pe_non (nomark _)) (test_of fun σ H Q h => isN_reads (neg := false) σ H Q h)
theorem st_notN {i pos2} (ha : PE X a (tE G E fa)) : PT X (.Compare a [.IsNot] [.Constant .none i pos2] pos) (tT G E (bOf (mUn (oIsN true) fa))) := pt_imp (pt_cmpR op_notN ha pe_non (nomark _)) (test_of fun σ H Q h => isN_reads (neg := true) σ H Q h)
theorem pk_imp {kws : List Keyword} {t t' : TA} (h : PK X kws t) (i : ∀ σ H Q, t' σ H Q → t σ H Q) : PK X kws t' := ⟨fun pos pins s σ H Q I q => h.run pos pins s σ H Q I (i σ H Q q)⟩
theorem sk_nil : PK X [] (tA G E aNil) := pk_imp pk_nil fun σ H Q ⟨W, env, M, s, p⟩ => p.here s.mem _ rfl
theorem sk_cons {kws : List Keyword} {g : FA} {nm : Option Str} {kpos : Pos} (ha : PE X a (tE G E fa)) (hr : PK X kws (tA G E g)) : PK X (⟨nm, a, kpos⟩ :: kws) (tA G E (aCons fa g)) := pk_imp (pk_cons ha hr) fun σ H Q ⟨W, env, M, s, p⟩ => by
  refine tE.bind s p fun d m W1 H1 u f1 s1 r1 p1 => ?_
  refine tA.bind s1 p1 fun ds m2 W2 H2 us f2 s2 r2 p2 => ?_
  exact p2.here s2.mem _ ⟨u, us, rfl, s1.mem.rp f2 r1, r2⟩
/-- the parameters from the positional ones and the keywords' values: pi over any values -/
structure Perm2 where
  on : {α : Type} → List α → List α → List α
def piApp : Perm2 := ⟨fun ds zs => ds ++ zs⟩
def mFunKw (n m np : Nat) (π : Perm2) (dd : List D) (g : FD) (fa fk : FA) : FE := fun env M => (fa env M).bind fun ds m1 => (fk env m1).bind fun zs m2 => if ds.length = n ∧ zs.length = m ∧ (π.on ds (zs ++ dd)).length = np then g (π.on ds (zs ++ dd)) m2 else .no
theorem law_end {K : PySem.W.Frag} {w : World} {cl : Nat → Addr} {g : FD} (h : ∀ ns : List Int, ns.length ≤ 63 → ∃ m, g [.fz (ns.map .int)] [] = .ok (.bl true) m) {H : Hp} {a : Addr} {ns : List Int} (hl : ns.length ≤ 63) (ho : Only H) (hS : SqL K H a (ns.map V.int)) :
    spOf ⟨K, cl, w⟩ 1 g [.ref a] H (fun v _ => v = .bl true) fun _ _ _ => False := by
  obtain ⟨m, e⟩ := h ns hl
  have hints : ∀ ns : List Int, RpL ⟨K, cl, w⟩ ⟨[], []⟩ H (ns.map .int) (ns.map V.int) := fun ns => by
    induction ns with
    | nil => exact (rfl : ([] : List V) = [])
    | cons n r ih => exact ⟨_, _, rfl, rfl, ih⟩
  refine ⟨⟨[], []⟩, [], [.fz (ns.map .int)], ⟨rfl, List.nodup_nil, fun i c a e => by simp at e, by simp, by simp⟩, ⟨_, [], rfl, ⟨a, _, rfl, ?_, hints ns⟩, rfl⟩, rfl, ?_⟩
  · rcases hS with (h1 | ⟨o, h1⟩) | h1
    · rcases ho a with z | ⟨o, xs, z⟩
      · rw [h1] at z; cases z
      · rw [h1] at z; cases z
    · exact .inl ⟨o, h1⟩
    · exact .inr h1
  · rw [e]
    exact fun W' H' f m' u hu => hu
end
end Fn
set_option Elab.async false
set_option linter.all false
set_option maxRecDepth 100000
set_option maxHeartbeats 1000000
namespace Fn
open PySem PySem.Spec PyProof.Rows L2
section
variable {X : Cx} {G : Gx} {cl : Nat → Addr} {E : XK} {W : Wd} {H : Hp} {M : Mem} {a b c : Expr} {fa fb fc : FE} {pos : Pos}
def encD (d : D) : PyData := (pyD d).getD .none
def leD (a b : D) : Bool := PySem.W.dataLe false encD a b
def sortD (l : List D) : List D := l.mergeSort leD
def isTupD : D → Bool
  | .tup (_ :: _) => true
  | _ => false
def isOneD : D → Bool
  | .non => false
  | .tup _ => false
  | .ct _ => false
  | .ref _ => false
  | _ => true
/-- may these be sorted: all alike data, tuples with an item or no tuples -/
def sortOk (l : List D) : Prop := (∀ d ∈ l, (pyD d).isSome = true ∧ (encD d).depth ≤ 60) ∧ (∀ d ∈ l, ∀ d' ∈ l, PySem.W.alike (encD d) (encD d') = true) ∧ ((∀ d ∈ l, isTupD d = true) ∨ ∀ d ∈ l, isOneD d = true)
open Classical in
noncomputable def oSorted (c : Bool) : List D → Mem → R D
  | [d], M => match lstOf M d with
    | some l => if sortOk l then mkL c (sortD l) M else .no
    | none => .no
  | _, _ => .no
theorem eachIs_rp {h : Heap} : ∀ {ds : List D} {us : List V} {vs : List Value}, RpL G W H ds us → Vals us vs → PySem.W.EachIs (fun v d => ∃ u, Rp G W H d u ∧ RelV u v) vs ds
  | [], us, vs, r, k => by
    have : us = [] := r
    subst this
    cases k
    exact .nil
  | d :: r, us, vs, h1, k => by
    obtain ⟨u, us', e, h2, h3⟩ := h1
    subst e
    cases k with
    | cons k1 k2 => exact .cons ⟨u, h2, k1⟩ (eachIs_rp (h := h) h3 k2)
theorem eachIs_back : ∀ {ds : List D} {vs : List Value}, PySem.W.EachIs (fun v d => ∃ u, Rp G W H d u ∧ RelV u v) vs ds → ∃ us, RpL G W H ds us ∧ Vals us vs
  | _, _, .nil => ⟨[], (rfl : ([] : List V) = []), .nil⟩
  | _, _, .cons h t => by
    obtain ⟨u, h1, h2⟩ := h
    obtain ⟨us, h3, h4⟩ := eachIs_back t
    exact ⟨u :: us, ⟨u, us, rfl, h1, h3⟩, .cons h2 h4⟩
theorem eachIs_mono {α β : Type} {R R' : α → β → Prop} : ∀ {as : List α} {bs : List β}, PySem.W.EachIs R as bs → (∀ a b, b ∈ bs → R a b → R' a b) → PySem.W.EachIs R' as bs
  | _, _, .nil, _ => .nil
  | _, _, .cons h t, k => .cons (k _ _ (List.mem_cons_self ..) h) (eachIs_mono t fun a b hb => k a b (List.mem_cons_of_mem _ hb))
/-- sorted(xs) -/
def rSortD (G : Gx) : List V → Hp → VK → Prop := fun vs H Q => ∃ (W : Wd) (a : Addr) (us : List V) (ds : List D), vs = [V.ref a] ∧ SqL G.K H a us ∧ RpL G W H ds us ∧ sortOk ds ∧ ∀ us' p, RpL G W H (sortD ds) us' → H p = none → Q (.ref p) (upd H p (.lst us'))
theorem cr_sortedD (hu : X.A.units + 64 < cLine) : CallR X (.builtin "sorted") (rSortD ⟨X.K, cl, X.w⟩) := by
  intro pins s σ H vs us Q I r h
  obtain ⟨W, a, vs', ds, rfl, hs, hr, hk, q⟩ := h
  obtain ⟨its, rv, hl, hz⟩ := I.list hs
  rw [Vals.ref1 r]
  have e := eachIs_rp (h := s.heap) hr rv
  have er : PySem.W.EachIs (fun v d => ∃ as, Reads s.heap v (encD d) as) its ds := eachIs_mono e fun v d hd ⟨u, h1, h2⟩ => by
    obtain ⟨hp, _⟩ := hk.1 d hd
    cases hpd : pyD d with
    | none => rw [hpd] at hp; cases hp
    | some p =>
      have : encD d = p := by unfold encD; rw [hpd]; rfl
      rw [this]
      exact Dp.reads I p u v (pyD_ok h1 hpd) h2
  have hlen : its.length = ds.length := by rw [← rv.length, hr.len]
  have hL : ds.length ≤ sizeLine := by rw [← hr.len]; exact hz
  refine PySem.W.sorted_data hl.isList e er (fun p hp p' hp' => ?_) ?_ hL (fun d hd => ?_) fun out ho eo => ?_
  · obtain ⟨d, hd, rfl⟩ := List.mem_map.mp hp
    obtain ⟨d', hd', rfl⟩ := List.mem_map.mp hp'
    exact hk.2.1 d hd d' hd'
  · rcases hk.2.2 with z | z
    · refine .inl fun p hp => ?_
      obtain ⟨d, hd, rfl⟩ := List.mem_map.mp hp
      have h1 := z d hd
      have h2 := (hk.1 d hd).1
      cases d with
      | tup l =>
        cases l with
        | nil => cases h1
        | cons x r =>
          unfold encD
          cases hq : pyD (.tup (x :: r)) with
          | none => rw [hq] at h2; cases h2
          | some p =>
            simp only [pyD] at hq
            cases hq2 : pyL (x :: r) with
            | none => rw [hq2] at hq; cases hq
            | some ps =>
              rw [hq2] at hq; cases hq
              simp only [pyL] at hq2
              split at hq2
              · cases hq2; exact ⟨_, _, rfl⟩
              · cases hq2
      | _ => cases h1
    · refine .inr fun p hp => ?_
      obtain ⟨d, hd, rfl⟩ := List.mem_map.mp hp
      have h1 := z d hd
      have h2 := (hk.1 d hd).1
      cases d with
      | non => cases h1
      | tup l => cases h1
      | ref l => cases h1
      | ct l => cases h1
      | bl b => exact ⟨(by intro z; cases z), (by intro xs z; cases z)⟩
      | int b => exact ⟨(by intro z; cases z), (by intro xs z; cases z)⟩
      | str b => exact ⟨(by intro z; cases z), (by intro xs z; cases z)⟩
      | lst l =>
        unfold encD
        simp only [pyD] at h2 ⊢
        cases hq2 : pyL l with
        | none => rw [hq2] at h2; cases h2
        | some ps => exact ⟨(by intro z; cases z), (by intro xs z; cases z)⟩
      | fz l =>
        unfold encD
        simp only [pyD] at h2 ⊢
        cases hq2 : pyL l with
        | none => rw [hq2] at h2; cases h2
        | some ps => exact ⟨(by intro z; cases z), (by intro xs z; cases z)⟩
  · have := (hk.1 d hd).2
    omega
  · obtain ⟨us', h1, h2⟩ := eachIs_back eo
    obtain ⟨ep, he'⟩ := PyProof.Rows.sortedAll_at s.heap its out.toArray
    have hlen' : us'.length ≤ sizeLine := by rw [h2.length, ho]; exact hL
    exact ⟨.ref _, upd H (s.heap.objs.size + 1) (.lst us'), I.laid (t' := s.toks) (fun _ _ => PyProof.Rows.sortedAll_old) (Nat.le_succ _) ⟨hlen', out, ep, h2, he'⟩, rfl, q us' _ h1 (I.hok.fresh (Nat.le_succ _))⟩
theorem fn_sorted {c : Bool} : Fn1 G E (rSortD G) (oSorted c) := fun W H M ds us Q m r p => by
  unfold oSorted at p
  split at p
  · obtain ⟨u, e1, r1⟩ := rp_one r
    subst e1
    split at p
    · rename_i l e1
      split at p
      · rename_i hk
        obtain ⟨a1, us, h1, h2, h3⟩ := lstOf_ok m r1 e1
        subst h1
        exact ⟨W, a1, us, l, rfl, h2, h3, hk, fun us' p' hr hp => mkL_new m p hr p' hp⟩
      · exact p.elim
    · exact p.elim
  · exact p.elim
def mPar3 (i j l : Nat) (g : FA) : FS := fun env M => (g env M).bind fun ds m => match ds with
  | [d, d', d''] => .ok (.nx (((env.set i (some d)).set j (some d')).set l (some d''))) m
  | _ => .no
theorem ss_par3 {i j l : Nat} {x y z : Str} {g : FA} {px py pz pt : Pos} {kt k2 pt2} (hc : X.calm = true) (hN : X.N.Nodup) (hi : X.N[i]? = some x) (hj : X.N[j]? = some y) (hl : X.N[l]? = some z) (hij : i ≠ j) (hil : i ≠ l) (hjl : j ≠ l)
    (hx : X.env.scope.names.lookup x = some .local) (hy : X.env.scope.names.lookup y = some .local) (hz : X.env.scope.names.lookup z = some .local) (ha : PA X [a, b, c] (tA G E g))
    (hw : swappedStores [.Tuple [.Name x px, .Name y py, .Name z pz] kt pt] (.Tuple [a, b, c] k2 pt2) X.env = pure (some [x, y, z]))
    (hs : swapsWithSole [.Tuple [.Name x px, .Name y py, .Name z pz] kt pt] (.Tuple [a, b, c] k2 pt2) pos.line X.env = pure false := by rfl) :
    PS X (.Assign [.Tuple [.Name x px, .Name y py, .Name z pz] kt pt] (.Tuple [a, b, c] k2 pt2) pos) (tS G E (mPar3 i j l g)) := ps_imp (ps_par3 hc hN hi hj hl hij hil hjl hx hy hz ha hw hs) fun D σ H ⟨W, env, M, s, p⟩ => by
  refine tA.bind s p fun ds m W1 H1 us f1 s1 r1 p1 => ?_
  split at p1
  · obtain ⟨u, us', e1, r2, u', us2, e2, r3, u'', us3, e3, r4, r5⟩ := r1
    have : us3 = [] := r5
    subst this e3 e2 e1
    exact ⟨u, u', u'', rfl, p1.here s1.mem _ (((s1.env.set i r2).set j r3).set l r4)⟩
  · exact p1.elim
end
end Fn
set_option Elab.async false
set_option linter.all false
set_option maxRecDepth 100000
set_option maxHeartbeats 4000000
namespace Fn
open PySem PySem.Spec PyProof.Rows L2
section
variable {env : Env} {M : Mem}
theorem mVar_eq (i : Nat) : mVar i env M = match env[i]? with | some (some d) => .ok d M | _ => .no := rfl
theorem mC_eq (d : D) : mC d env M = .ok d M := rfl
theorem mOp_eq (o : D → D → Mem → R D) (fa fb : FE) : mOp o fa fb env M = (fa env M).bind fun a m => (fb env m).bind fun b m' => o a b m' := rfl
theorem mUn_eq (o : D → Mem → R D) (fa : FE) : mUn o fa env M = (fa env M).bind fun a m => o a m := rfl
theorem mSeq_eq (f g : FS) : mSeq f g env M = (f env M).bind fun fl m => match fl with | .nx env' => g env' m | fl => .ok fl m := rfl
theorem mSet_eq (i : Nat) (f : FE) : mSet i f env M = (f env M).bind fun d m => .ok (.nx (env.set i (some d))) m := rfl
theorem mRet_eq (f : FE) : mRet f env M = (f env M).bind fun d m => .ok (.rt d) m := rfl
theorem mExpr_eq (f : FE) : mExpr f env M = (f env M).bind fun _ m => .ok (.nx env) m := rfl
theorem mIfS_eq (c : FT) (f g : FS) : mIfS c f g env M = (c env M).bind fun b m => if b = true then f env m else g env m := rfl
theorem mPass_eq : mPass env M = .ok (.nx env) M := rfl
theorem mAsg_eq (f : FE) (g : FG) : mAsg f g env M = (f env M).bind fun d m => (g d env m).bind fun env' m' => .ok (.nx env') m' := rfl
theorem mCall_eq (o : List D → Mem → R D) (g : FA) : mCall o g env M = (g env M).bind o := rfl
theorem mFun_eq (n : Nat) (g : FD) (dd : List D) (fa : FA) : mFun n g dd fa env M = (fa env M).bind fun ds m => if (ds ++ dd).length = n then g (ds ++ dd) m else .no := rfl
theorem aNil_eq : aNil env M = .ok [] M := rfl
theorem aCons_eq (f : FE) (g : FA) : aCons f g env M = (f env M).bind fun d m => (g env m).bind fun ds m' => .ok (d :: ds) m' := rfl
theorem mTup_eq (g : FA) : mTup g env M = (g env M).bind fun ds m => if ds.length ≤ 16777216 then .ok (.tup ds) m else .no := rfl
theorem mLst_eq (c : Bool) (g : FA) : mLst c g env M = (g env M).bind fun ds m => if ds.length ≤ 16777216 then mkL c ds m else .no := rfl
theorem bOf_eq (f : FE) : bOf f env M = (f env M).bind fun d m => match d with | .bl b => .ok b m | _ => .no := rfl
theorem mkL_t (ds : List D) : mkL true ds M = .ok (.ref M.length) (M ++ [.lst ds]) := rfl
theorem mkL_f (ds : List D) : mkL false ds M = .ok (.lst ds) M := rfl
theorem mMeth_eq (T : String) (o : D → List D → Mem → R D) (f : FE) (g : FA) : mMeth T o f g env M = (f env M).bind fun a m => if tyOk T m a = true then (g env m).bind fun ds m' => o a ds m' else .no := rfl
theorem oIx_fz (l : List D) (i : Int) : oIx (.fz l) (.int i) M = match atI l i with | some d => .ok d M | none => .no := rfl
theorem oIx_lst (l : List D) (i : Int) : oIx (.lst l) (.int i) M = match atI l i with | some d => .ok d M | none => .no := rfl
theorem oIx_tup (l : List D) (i : Int) : oIx (.tup l) (.int i) M = match atI l i with | some d => .ok d M | none => .no := rfl
theorem oAdd_int (c : Bool) (i j : Int) : oAdd c (.int i) (.int j) M = .ok (.int (i + j)) M := rfl
theorem oSub_int (i j : Int) : oSub (.int i) (.int j) M = .ok (.int (i - j)) M := rfl
theorem oMul_int (c : Bool) (i j : Int) (h : mulOk i j = true) : oMul c (.int i) (.int j) M = .ok (.int (i * j)) M := by
  show (if mulOk i j = true then _ else _) = _
  rw [if_pos h]
theorem oMod_int (i j : Int) (h : 0 < j) : oMod (.int i) (.int j) M = .ok (.int (i % j)) M := by
  show (if decide (0 < j) = true then _ else _) = _
  rw [if_pos (decide_eq_true h)]
theorem oDiv_int (i j : Int) (h : divOk i j = true) : oDiv (.int i) (.int j) M = .ok (.int (i / j)) M := by
  show (if divOk i j = true then _ else _) = _
  rw [if_pos h]
theorem oLt_int (i j : Int) : oLt (.int i) (.int j) M = .ok (.bl (decide (i < j))) M := rfl
theorem oLe_int (i j : Int) : oLe (.int i) (.int j) M = .ok (.bl (decide (i ≤ j))) M := rfl
theorem oGt_int (i j : Int) : oGt (.int i) (.int j) M = .ok (.bl (decide (j < i))) M := rfl
theorem oGe_int (i j : Int) : oGe (.int i) (.int j) M = .ok (.bl (decide (j ≤ i))) M := rfl
theorem oLen_fz (l : List D) : oLen [.fz l] M = .ok (.int l.length) M := rfl
theorem oLen_lst (l : List D) : oLen [.lst l] M = .ok (.int l.length) M := rfl
theorem oLen_tup (l : List D) : oLen [.tup l] M = .ok (.int l.length) M := rfl
theorem oLen_str (l : List Nat) (h : l.length ≤ 16777216) : oLen [.str l] M = .ok (.int l.length) M := by
  show (if l.length ≤ 16777216 then _ else _) = _
  rw [if_pos h]
theorem mRetN_eq : mRetN env M = .ok (.rt .non) M := rfl
theorem mPar_eq (i j : Nat) (g : FA) : mPar i j g env M = (g env M).bind fun ds m => match ds with | [d, d'] => .ok (.nx ((env.set i (some d)).set j (some d'))) m | _ => .no := rfl
theorem mAug_eq (i : Nat) (o : D → D → Mem → R D) (f : FE) : mAug i o f env M = match env[i]? with | some (some x) => (f env M).bind fun d m => (o x d m).bind fun z m' => .ok (.nx (env.set i (some z))) m' | _ => .no := rfl
theorem tOf_eq (f : FE) : tOf f env M = (f env M).bind fun d m => match truD m d with | some b => .ok b m | none => .no := rfl
theorem tAndM_eq (f g : FT) : tAndM f g env M = (f env M).bind fun b m => if b = true then g env m else .ok false m := rfl
theorem tOrM_eq (f g : FT) : tOrM f g env M = (f env M).bind fun b m => if b = true then .ok true m else g env m := rfl
theorem tNotM_eq (f : FT) : tNotM f env M = (f env M).bind fun b m => .ok (!b) m := rfl
theorem tsYes_eq : tsYes env M = .ok true M := rfl
theorem mFunKw_eq (n m np : Nat) (π : Perm2) (dd : List D) (g : FD) (fa fk : FA) : mFunKw n m np π dd g fa fk env M = (fa env M).bind fun ds m1 => (fk env m1).bind fun zs m2 => if ds.length = n ∧ zs.length = m ∧ (π.on ds (zs ++ dd)).length = np then g (π.on ds (zs ++ dd)) m2 else .no := rfl
theorem piApp_on {α : Type} (a b : List α) : piApp.on a b = a ++ b := rfl
theorem mAnd_eq (f g : FE) : mAnd f g env M = (f env M).bind fun d m => match d with | .bl true => g env m | .bl false => .ok (.bl false) m | _ => .no := rfl
theorem mOr_eq (f g : FE) : mOr f g env M = (f env M).bind fun d m => match d with | .bl true => .ok (.bl true) m | .bl false => g env m | _ => .no := rfl
theorem mNot_eq (f : FE) : mNot f env M = (f env M).bind fun d m => match d with | .bl b => .ok (.bl (!b)) m | _ => .no := rfl
theorem mIf_eq (t : FT) (f g : FE) : mIf t f g env M = (t env M).bind fun b m => if b = true then f env m else g env m := rfl
theorem mChain_eq (o o' : D → D → Mem → R D) (fa fb fc : FE) : mChain o o' fa fb fc env M = (fa env M).bind fun x m => (fb env m).bind fun y m => (o x y m).bind fun z m => match z with | .bl true => (fc env m).bind fun w m => o' y w m | .bl false => .ok (.bl false) m | _ => .no := rfl
theorem mSl_eq (c : Bool) (f : FE) (lo hi : FO) : mSl c f lo hi env M = (f env M).bind fun d m => (lo env m).bind fun l m1 => (hi env m1).bind fun h m2 => oSl c d l h m2 := rfl
theorem pNone_eq : pNone env M = .ok none M := rfl
theorem pSome_eq (f : FE) : pSome f env M = (f env M).bind fun d m => match d with | .int i => .ok (some i) m | _ => .no := rfl
theorem gN_eq (i : Nat) (d : D) : gN i d env M = .ok (env.set i (some d)) M := rfl
theorem gT_eq (n : Nat) (g : FGs) (d : D) : gT n g d env M = match d with | .tup l => if l.length = n then g l env M else .no | .ct l => if l.length = n then g l env M else .no | _ => .no := rfl
theorem gsNil_eq (ds : List D) : gsNil ds env M = match ds with | [] => .ok env M | _ => .no := rfl
theorem gsCons_eq (f : FG) (g : FGs) (ds : List D) : gsCons f g ds env M = match ds with | d :: r => (f d env M).bind fun env' m => g r env' m | [] => .no := rfl
theorem oMax_int (i j : Int) : oMax [.int i, .int j] M = .ok (.int (if j > i then j else i)) M := rfl
theorem oMin_int (i j : Int) : oMin [.int i, .int j] M = .ok (.int (if j < i then j else i)) M := rfl
theorem oInt_bl (b : Bool) : oInt [.bl b] M = .ok (.int (if b = true then 1 else 0)) M := rfl
theorem oInt_int (b : Int) : oInt [.int b] M = .ok (.int b) M := rfl
theorem oIsi_bl (b : Bool) (T : String) : oIsi T (.bl b) M = .ok (.bl (isTy "bool" T)) M := rfl
theorem oNeg_int (i : Int) : oNeg (.int i) M = .ok (.int (-i)) M := rfl
theorem oTuple_lst (l : List D) : oTuple [.lst l] M = .ok (.tup l) M := rfl
theorem oTuple_tup (l : List D) : oTuple [.tup l] M = .ok (.tup l) M := rfl
theorem iR1_eq (g : FA) : iR1 g env M = (g env M).bind fun ds m => match ds with | [.int j] => if rngOk j = true then .ok ⟨rngItems 0 j.toNat, fun _ => True⟩ m else .no | _ => .no := rfl
theorem iR2_eq (g : FA) : iR2 g env M = (g env M).bind fun ds m => match ds with | [.int i, .int j] => if rngOk i = true ∧ rngOk j = true then .ok ⟨rngItems i (j - i).toNat, fun _ => True⟩ m else .no | _ => .no := rfl
theorem iSq_eq (f : FE) : iSq f env M = (f env M).bind fun d m => match srcOf m d with | some s => .ok s m | none => .no := rfl
theorem iStrM_eq (f : FE) : iStrM f env M = (f env M).bind fun d m => match d with | .str x => .ok ⟨x.map fun c => .str [c], fun _ => True⟩ m | _ => .no := rfl
theorem srcOf_tup (l : List D) : srcOf M (.tup l) = some ⟨l, fun _ => True⟩ := rfl
theorem srcOf_lst (l : List D) : srcOf M (.lst l) = some ⟨l, fun _ => True⟩ := rfl
theorem srcOf_fz (l : List D) : srcOf M (.fz l) = some ⟨l, fun _ => True⟩ := rfl
end
theorem p64 : (2 : Int) ^ 64 = 18446744073709551616 := by decide +kernel
theorem mul_small {i j : Int} (h1 : -18446744073709551616 < j) (h2 : j < 18446744073709551616) : mulOk i j = true := by
  unfold mulOk
  rw [p64]
  simp only [Bool.or_eq_true, decide_eq_true_eq]
  exact Or.inl (Or.inr ⟨h1, h2⟩)
theorem mul_smallL {i j : Int} (h1 : -18446744073709551616 < i) (h2 : i < 18446744073709551616) : mulOk i j = true := by
  unfold mulOk
  rw [p64]
  simp only [Bool.or_eq_true, decide_eq_true_eq]
  exact Or.inl (Or.inl ⟨h1, h2⟩)
theorem oMul_r (c : Bool) (i j : Int) {M : Mem} (h1 : -18446744073709551616 < j) (h2 : j < 18446744073709551616) : oMul c (.int i) (.int j) M = .ok (.int (i * j)) M := oMul_int c i j (mul_small h1 h2)
theorem oMul_l (c : Bool) (i j : Int) {M : Mem} (h1 : -18446744073709551616 < i) (h2 : i < 18446744073709551616) : oMul c (.int i) (.int j) M = .ok (.int (i * j)) M := oMul_int c i j (mul_smallL h1 h2)
theorem i1 : -18446744073709551616 < (7919 : Int) := by omega
theorem i2 : (7919 : Int) < 18446744073709551616 := by omega
theorem i3 : -18446744073709551616 < (7 : Int) := by omega
theorem i4 : (7 : Int) < 18446744073709551616 := by omega
theorem i5 : (0 : Int) < 2147483629 := by omega
theorem i6 : -18446744073709551616 < (48271 : Int) := by omega
theorem i7 : (48271 : Int) < 18446744073709551616 := by omega
theorem i8 : (0 : Int) < 2147483647 := by omega
theorem i9 : -18446744073709551616 < (31 : Int) := by omega
theorem i10 : (31 : Int) < 18446744073709551616 := by omega
theorem i11 : -18446744073709551616 < (40692 : Int) := by omega
theorem i12 : (40692 : Int) < 18446744073709551616 := by omega
theorem i13 : -18446744073709551616 < (2 : Int) := by omega
theorem i14 : (2 : Int) < 18446744073709551616 := by omega
theorem i15 : (0 : Int) < 2147483587 := by omega
theorem i17 : (0 : Int) < 31 := by omega
theorem i18 : (31 : Int) < 1000000000000000000000000 := by omega
def intsD (ns : List Int) : List D := ns.map .int
def cellV (ns : List Int) (k : Nat) : Int :=
  if h : k < ns.length then ns[k] else
  if 0 < ns.length then (ns.getD (k * 7 % ns.length) 0 % 2147483629 * 48271 + k * 7919) % 2147483647 * 31 else ((k : Int) * 7919 + 5) % 2147483647 * 31
/-- the body of _law_cell -/
def cellB : FS := (mSeq (mIfS (bOf (mOp oLt (mVar 1) (mCall oLen (aCons (mVar 0) aNil)))) (mRet (mOp oIx (mVar 0) (mVar 1))) mPass) (mSeq (mSet 2 (mOp (oAdd false) (mOp (oMul false) (mVar 1) (mC (.int 7919))) (mC (.int 5)))) (mSeq (mIfS (bOf (mOp oGt (mCall oLen (aCons (mVar 0) aNil)) (mC (.int 0)))) (mSet 2 (mOp (oAdd false) (mOp (oMul false) (mOp oMod (mOp oIx (mVar 0) (mOp oMod (mOp (oMul false) (mVar 1) (mC (.int 7))) (mCall oLen (aCons (mVar 0) aNil)))) (mC (.int 2147483629))) (mC (.int 48271))) (mOp (oMul false) (mVar 1) (mC (.int 7919))))) mPass) (mRet (mOp (oMul false) (mOp oMod (mVar 2) (mC (.int 2147483647))) (mC (.int 31)))))))
theorem cell_run (ns : List Int) (k : Nat) (M : Mem) : cellB [some (.fz (intsD ns)), some (.int k), none] M = .ok (.rt (.int (cellV ns k))) M := by
  by_cases h : k < ns.length
  · have h' : decide ((k : Int) < (ns.length : Int)) = true := decide_eq_true (by omega)
    have hat : atI (ns.map D.int) (k : Int) = some (.int ns[k]) := atI_nat (by simp [h])
    simp -implicitDefEqProofs only [mSeq_eq, mIfS_eq, mSet_eq, mRet_eq, mRetN_eq, mExpr_eq, mPass_eq, mAsg_eq, mPar_eq, mAug_eq, bOf_eq, tOf_eq, tAndM_eq, tOrM_eq, tNotM_eq, tsYes_eq, mOp_eq, mUn_eq, mVar_eq, mC_eq, mCall_eq, mFun_eq, mFunKw_eq, mMeth_eq, mAnd_eq, mOr_eq, mNot_eq, mIf_eq, mChain_eq, mSl_eq, pNone_eq, pSome_eq, aCons_eq, aNil_eq, mTup_eq, mLst_eq, gN_eq, gT_eq, gsNil_eq, gsCons_eq, mkL_t, mkL_f, R.bind_ok, R.bind_no, R.nox_ok, List.getElem?_cons_zero, List.getElem?_cons_succ, List.set_cons_zero, List.set_cons_succ, List.length_cons, List.length_nil, List.append_nil, List.nil_append, List.cons_append, piApp_on, oLen_fz, oLen_lst, oLen_tup, oLt_int, oLe_int, oGt_int, oGe_int, oAdd_int, oSub_int, oIx_fz, oIx_lst, oIx_tup, oMax_int, oMin_int, oInt_bl, oInt_int, oIsi_bl, oNeg_int, oTuple_lst, oTuple_tup, iR1_eq, iR2_eq, iSq_eq, iStrM_eq, srcOf_tup, srcOf_lst, srcOf_fz, if_true, if_false, Bool.false_eq_true, Bool.true_eq_false, reduceIte, Nat.reduceAdd, Nat.reduceLeDiff, Nat.reduceEqDiff, decide_true, decide_false, and_self, and_true, true_and, cellB, intsD, List.length_map, h', hat]
    simp [cellV, h]
  · have h' : decide ((k : Int) < (ns.length : Int)) = false := decide_eq_false (by omega)
    by_cases h0 : 0 < ns.length
    · have h0' : decide ((0 : Int) < (ns.length : Int)) = true := decide_eq_true (by omega)
      have hk : ((k : Int) * 7) % (ns.length : Int) = ((k * 7 % ns.length : Nat) : Int) := by simp
      have hl : k * 7 % ns.length < ns.length := Nat.mod_lt _ h0
      have hat : atI (ns.map D.int) ((k * 7 % ns.length : Nat) : Int) = some (.int (ns.getD (k * 7 % ns.length) 0)) := atI_nat (by
        rw [List.getElem?_map, List.getElem?_eq_getElem hl]
        simp [List.getD, List.getElem?_eq_getElem hl])
      simp -implicitDefEqProofs only [mSeq_eq, mIfS_eq, mSet_eq, mRet_eq, mRetN_eq, mExpr_eq, mPass_eq, mAsg_eq, mPar_eq, mAug_eq, bOf_eq, tOf_eq, tAndM_eq, tOrM_eq, tNotM_eq, tsYes_eq, mOp_eq, mUn_eq, mVar_eq, mC_eq, mCall_eq, mFun_eq, mFunKw_eq, mMeth_eq, mAnd_eq, mOr_eq, mNot_eq, mIf_eq, mChain_eq, mSl_eq, pNone_eq, pSome_eq, aCons_eq, aNil_eq, mTup_eq, mLst_eq, gN_eq, gT_eq, gsNil_eq, gsCons_eq, mkL_t, mkL_f, R.bind_ok, R.bind_no, R.nox_ok, List.getElem?_cons_zero, List.getElem?_cons_succ, List.set_cons_zero, List.set_cons_succ, List.length_cons, List.length_nil, List.append_nil, List.nil_append, List.cons_append, piApp_on, oLen_fz, oLen_lst, oLen_tup, oLt_int, oLe_int, oGt_int, oGe_int, oAdd_int, oSub_int, oIx_fz, oIx_lst, oIx_tup, oMax_int, oMin_int, oInt_bl, oInt_int, oIsi_bl, oNeg_int, oTuple_lst, oTuple_tup, iR1_eq, iR2_eq, iSq_eq, iStrM_eq, srcOf_tup, srcOf_lst, srcOf_fz, if_true, if_false, Bool.false_eq_true, Bool.true_eq_false, reduceIte, Nat.reduceAdd, Nat.reduceLeDiff, Nat.reduceEqDiff, decide_true, decide_false, and_self, and_true, true_and, cellB, intsD, List.length_map, h', h0', oMul_r _ _ 7919 i1 i2, oMul_r _ _ 7 i3 i4, oMod_int _ (ns.length : Int) (by omega), hk, hat, oMod_int _ 2147483629 i5, oMul_r _ _ 48271 i6 i7, oMod_int _ 2147483647 i8, oMul_r _ _ 31 i9 i10]
      simp only [cellV, dif_neg h, if_pos h0]
    · have h0' : decide ((0 : Int) < (ns.length : Int)) = false := decide_eq_false (by omega)
      simp -implicitDefEqProofs only [mSeq_eq, mIfS_eq, mSet_eq, mRet_eq, mRetN_eq, mExpr_eq, mPass_eq, mAsg_eq, mPar_eq, mAug_eq, bOf_eq, tOf_eq, tAndM_eq, tOrM_eq, tNotM_eq, tsYes_eq, mOp_eq, mUn_eq, mVar_eq, mC_eq, mCall_eq, mFun_eq, mFunKw_eq, mMeth_eq, mAnd_eq, mOr_eq, mNot_eq, mIf_eq, mChain_eq, mSl_eq, pNone_eq, pSome_eq, aCons_eq, aNil_eq, mTup_eq, mLst_eq, gN_eq, gT_eq, gsNil_eq, gsCons_eq, mkL_t, mkL_f, R.bind_ok, R.bind_no, R.nox_ok, List.getElem?_cons_zero, List.getElem?_cons_succ, List.set_cons_zero, List.set_cons_succ, List.length_cons, List.length_nil, List.append_nil, List.nil_append, List.cons_append, piApp_on, oLen_fz, oLen_lst, oLen_tup, oLt_int, oLe_int, oGt_int, oGe_int, oAdd_int, oSub_int, oIx_fz, oIx_lst, oIx_tup, oMax_int, oMin_int, oInt_bl, oInt_int, oIsi_bl, oNeg_int, oTuple_lst, oTuple_tup, iR1_eq, iR2_eq, iSq_eq, iStrM_eq, srcOf_tup, srcOf_lst, srcOf_fz, if_true, if_false, Bool.false_eq_true, Bool.true_eq_false, reduceIte, Nat.reduceAdd, Nat.reduceLeDiff, Nat.reduceEqDiff, decide_true, decide_false, and_self, and_true, true_and, cellB, intsD, List.length_map, h', h0', oMul_r _ _ 7919 i1 i2, oMod_int _ 2147483647 i8, oMul_r _ _ 31 i9 i10]
      simp only [cellV, dif_neg h, if_neg h0]
structure Fl where
  own : Int
  cnt : Int
  seed : Int
def Fl.c (s : Fl) : Cell := .lst [.int s.own, .int s.cnt, .int s.seed]
/-- a flow that may be drawn of -/
def Fl.ok (s : Fl) : Prop := -9223372036854775808 < s.seed ∧ s.seed < 9223372036854775808
theorem pow_10_18 {M : Mem} : oPow (.int 10) (.int 18) M = .ok (.int 1000000000000000000) M := by
  have h : powOk 10 18 = true := by decide +kernel
  have e : (10 : Int) ^ (18 : Int).toNat = 1000000000000000000 := by decide +kernel
  simp only [oPow, oIC, h, if_true, e]
theorem oIx_ref {M : Mem} {i : Nat} {l : List D} (h : M[i]? = some (.lst l)) (k : Int) : oIx (.ref i) (.int k) M = match atI l k with | some d => .ok d M | none => .no := by
  simp only [oIx, seqOf, lstOf, h]
  all_goals rfl
theorem at0 {α : Type} (a b c : α) : atI [a, b, c] 0 = some a := rfl
theorem at1 {α : Type} (a b c : α) : atI [a, b, c] 1 = some b := rfl
theorem at2 {α : Type} (a b c : α) : atI [a, b, c] 2 = some c := rfl
theorem gIx_eq (fo fi : FE) (d : D) {env : Env} {M : Mem} : gIx fo fi d env M = (fo env M).bind fun o m => (fi env m).bind fun i m' => match o, i with
  | .ref j, .int k => match m'[j]? with
    | some (.lst l) => match ixN l.length k with
      | some n => .ok env (m'.set j (.lst (l.set n d)))
      | none => .no
    | _ => .no
  | _, _ => .no := rfl
theorem ix30 : ixN 3 0 = some 0 := rfl
theorem ix31 : ixN 3 1 = some 1 := rfl
theorem div_ok {many : Int} (h : 0 < many) (h2 : many < 1000000000000000000000000) (i : Int) : divOk i many = true := by
  unfold divOk
  simp only [Bool.and_eq_true, decide_eq_true_eq]
  refine ⟨h, ?_⟩
  have : many.natAbs < 2 ^ 80 := by
    have : (2 : Nat) ^ 80 = 1208925819614629174706176 := by decide +kernel
    omega
  exact Nat.lt_of_lt_of_le (PySem.Flt.log2_lt_of (by decide) this) (by decide)
theorem forL_nil {g : FG} {body : FS} {env : Env} {M : Mem} : forL (fun _ => True) g body [] env M = .ok (.nx env) M := by
  unfold forL; rw [if_pos trivial]
theorem forL_cons {g : FG} {body : FS} {d : D} {r : List D} {env : Env} {M : Mem} : forL (fun _ => True) g body (d :: r) env M = (g d env M).bind fun env1 m1 => (body env1 m1).bind fun fl m => match fl with
      | .nx env' => forL (fun _ => True) g body r env' m
      | .ct env' => forL (fun _ => True) g body r env' m
      | .bk env' => .ok (.nx env') m
      | .rt d => .ok (.rt d) m := by
  conv => lhs; unfold forL
  rw [if_pos trivial]
  all_goals rfl
theorem forL_inv {g : FG} {body : FS} (P : Nat → Env → Mem → Prop) : ∀ (items : List D) (k0 : Nat) (env : Env) (M : Mem), P k0 env M →
    (∀ (k : Nat) d env M, items[k]? = some d → P (k0 + k) env M → ∃ env' m', ((g d env M).bind fun e1 m1 => body e1 m1) = .ok (.nx env') m' ∧ P (k0 + k + 1) env' m') →
    ∃ env' m', forL (fun _ => True) g body items env M = .ok (.nx env') m' ∧ P (k0 + items.length) env' m'
  | [], k0, env, M, h0, _ => ⟨env, M, forL_nil, h0⟩
  | d :: r, k0, env, M, h0, hs => by
    obtain ⟨env1, m1, e1, h1⟩ := hs 0 d env M rfl h0
    obtain ⟨env2, m2, e2, h2⟩ := forL_inv P r (k0 + 1) env1 m1 h1 fun k d' env' M' hk hp => by
      have := hs (k + 1) d' env' M' (by simpa using hk) (by rw [show k0 + (k + 1) = k0 + 1 + k by omega]; exact hp)
      rw [show k0 + (k + 1) + 1 = k0 + 1 + k + 1 by omega] at this
      exact this
    refine ⟨env2, m2, ?_, by rw [show k0 + (d :: r).length = k0 + 1 + r.length by simp; omega]; exact h2⟩
    rw [forL_cons]
    obtain ⟨ea, ma, ea1, ea2⟩ := R.bind_eq e1
    rw [ea1, R.bind_ok, ea2, R.bind_ok]
    exact e2
theorem compL_nil {g : FG} {t : FT} {f : FE} {env : Env} {M : Mem} : compL (fun _ => True) g t f env [] M = .ok [] M := by
  unfold compL; rw [if_pos trivial]
theorem compL_cons {g : FG} {t : FT} {f : FE} {env : Env} {d : D} {r : List D} {M : Mem} : compL (fun _ => True) g t f env (d :: r) M = (g d env M).bind fun env1 m1 => (t env1 m1).bind fun b m2 => if b = true then (f env1 m2).bind fun y m3 => (compL (fun _ => True) g t f env r m3).bind fun ys m4 => .ok (y :: ys) m4 else compL (fun _ => True) g t f env r m2 := by
  conv => lhs; unfold compL
  rw [if_pos trivial]
/-- a comprehension without tests, its elements each by the memory as it is -/
theorem compL_inv {g : FG} {f : FE} {env : Env} (P : Nat → Mem → Prop) (Y : Nat → D → D → Prop) : ∀ (items : List D) (k0 : Nat) (M : Mem), P k0 M →
    (∀ (k : Nat) d M, items[k]? = some d → P (k0 + k) M → ∃ y m', ((g d env M).bind fun e1 m1 => f e1 m1) = .ok y m' ∧ Y (k0 + k) d y ∧ P (k0 + k + 1) m') →
    ∃ ys m', compL (fun _ => True) g tsYes f env items M = .ok ys m' ∧ ys.length = items.length ∧ (∀ (k : Nat) d y, items[k]? = some d → ys[k]? = some y → Y (k0 + k) d y) ∧ P (k0 + items.length) m'
  | [], k0, M, h0, _ => ⟨[], M, compL_nil, rfl, fun k d y e => by simp at e, h0⟩
  | d :: r, k0, M, h0, hs => by
    obtain ⟨y, m1, e1, y1, h1⟩ := hs 0 d M rfl h0
    obtain ⟨ys, m2, e2, l2, y2, h2⟩ := compL_inv P Y r (k0 + 1) m1 h1 fun k d' M' hk hp => by
      have := hs (k + 1) d' M' (by simpa using hk) (by rw [show k0 + (k + 1) = k0 + 1 + k by omega]; exact hp)
      rw [show k0 + (k + 1) + 1 = k0 + 1 + k + 1 by omega, show k0 + (k + 1) = k0 + 1 + k by omega] at this
      exact this
    refine ⟨y :: ys, m2, ?_, by simp [l2], fun k d' y' hk hy => ?_, by rw [show k0 + (d :: r).length = k0 + 1 + r.length by simp; omega]; exact h2⟩
    · rw [compL_cons]
      obtain ⟨ea, ma, ea1, ea2⟩ := R.bind_eq e1
      rw [ea1, R.bind_ok, tsYes_eq, R.bind_ok, if_pos rfl, ea2, R.bind_ok, e2, R.bind_ok]
    · cases k with
      | zero => simp at hk hy; subst hk hy; exact y1
      | succ k => rw [show k0 + (k + 1) = k0 + 1 + k by omega]; exact y2 k d' y' (by simpa using hk) (by simpa using hy)
theorem mLc_eq (c : Bool) (vs : List Nat) (fi : FI) (g : FG) (t : FT) (f : FE) {env : Env} {M : Mem} : mLc c vs fi g t f env M = (fi env M).bind fun src m => if src.items.length < 16777216 then (compL src.still g t f (wipeE env vs) src.items m).nox.bind fun ys m' => mkL c ys m' else .no := rfl
theorem mFor_eq (f : FI) (g : FG) (body : FS) {env : Env} {M : Mem} : mFor f g body env M = (f env M).bind fun src m => forL src.still g body src.items env m := rfl
theorem runB_rt {B : FS} {N : Nat} {ds : List D} {M m : Mem} {d : D} (h : B (envStart N ds) M = .ok (.rt d) m) : runB B N ds M = .ok d m := by
  unfold runB; rw [h]
theorem runB_nx {B : FS} {N : Nat} {ds : List D} {M m : Mem} {env : Env} (h : B (envStart N ds) M = .ok (.nx env) m) : runB B N ds M = .ok .non m := by
  unfold runB; rw [h]
theorem set_twice {M : Mem} {i : Nat} {a b : Cell} : (M.set i a).set i b = M.set i b := List.set_set ..
/-- the memory bears a flow at i, else as M0 -/
structure FlAt (M0 : Mem) (i : Nat) (M : Mem) : Prop where
  at_ : ∃ s : Fl, s.ok ∧ M = M0.set i s.c
  lt : i < M0.length
theorem FlAt.get {M0 M : Mem} {i : Nat} (h : FlAt M0 i M) : ∃ s : Fl, s.ok ∧ M[i]? = some s.c ∧ ∀ s' : Fl, s'.ok → FlAt M0 i (M.set i s'.c) := by
  obtain ⟨s, h1, h2⟩ := h.at_
  refine ⟨s, h1, by rw [h2]; exact List.getElem?_set_self h.lt, fun s' hs => ⟨⟨s', hs, by rw [h2, set_twice]⟩, h.lt⟩⟩
theorem FlAt.start {M : Mem} {i : Nat} {s : Fl} (hs : s.ok) (h : M[i]? = some s.c) : FlAt M i M := by
  obtain ⟨h1, h2⟩ := List.getElem?_eq_some_iff.mp h
  exact ⟨⟨s, hs, by rw [← h2, List.set_getElem_self]⟩, h1⟩
theorem FlAt.len {M0 M : Mem} {i : Nat} (h : FlAt M0 i M) : M.length = M0.length := by
  obtain ⟨s, _, h2⟩ := h.at_
  rw [h2, List.length_set]
theorem FlAt.other {M0 M : Mem} {i j : Nat} (h : FlAt M0 i M) (hj : i ≠ j) : M[j]? = M0[j]? := by
  obtain ⟨s, _, e⟩ := h.at_
  rw [e, List.getElem?_set_ne hj]
theorem rngItems_get {lo : Int} {n k : Nat} {d : D} (h : (rngItems lo n)[k]? = some d) : d = .int (lo + (k : Int)) ∧ k < n := by
  unfold rngItems at h
  rw [List.getElem?_map] at h
  cases q : (List.range n)[k]? with
  | none => rw [q] at h; cases h
  | some j =>
    rw [q] at h; cases h
    obtain ⟨h1, h2⟩ := List.getElem?_eq_some_iff.mp q
    simp at h1 h2
    subst h2
    exact ⟨rfl, h1⟩
theorem rngItems_len {lo : Int} {n : Nat} : (rngItems lo n).length = n := by simp [rngItems]
theorem rngOk_of {i : Int} (h1 : 0 ≤ i) (h2 : i < 4611686018427387904) : rngOk i = true := by
  unfold rngOk
  have e : (2 : Int) ^ 62 = 4611686018427387904 := by decide +kernel
  rw [e]
  simp only [Bool.and_eq_true, decide_eq_true_eq]
  omega
theorem oSl_str {c : Bool} {x : List Nat} {lo hi : Option Int} {M : Mem} (h : x.length ≤ 16777216) : oSl c (.str x) lo hi M = .ok (.str (cutD x lo hi)) M := by
  simp only [oSl, h, if_true]
theorem oSl_tup {c : Bool} {x : List D} {lo hi : Option Int} {M : Mem} : oSl c (.tup x) lo hi M = .ok (.tup (cutD x lo hi)) M := rfl
theorem oSl_lst {x : List D} {lo hi : Option Int} {M : Mem} : oSl false (.lst x) lo hi M = .ok (.lst (cutD x lo hi)) M := rfl
theorem oSl_fz {x : List D} {lo hi : Option Int} {M : Mem} : oSl false (.fz x) lo hi M = .ok (.lst (cutD x lo hi)) M := rfl
theorem cutD_take {α : Type} (xs : List α) (k : Nat) : cutD xs none (some (k : Int)) = xs.take k := by
  unfold cutD
  rw [HT.sIx_none, HT.sIx_nat, List.drop_zero, Nat.sub_zero]
  by_cases h : k ≤ xs.length
  · rw [Nat.min_eq_left h]
  · rw [Nat.min_eq_right (by omega), List.take_of_length_le (Nat.le_refl _), List.take_of_length_le (by omega)]
theorem cutD_drop {α : Type} (xs : List α) (k : Nat) : cutD xs (some (k : Int)) none = xs.drop k := by
  unfold cutD
  rw [HT.sIx_none, HT.sIx_nat]
  by_cases h : k ≤ xs.length
  · rw [Nat.min_eq_left h, List.take_of_length_le]
    rw [List.length_drop]
    omega
  · rw [Nat.min_eq_right (by omega), List.drop_eq_nil_of_le (Nat.le_refl _), List.drop_eq_nil_of_le (by omega)]
    simp
theorem oIx_str {x : List Nat} {i : Int} {c : Nat} {M : Mem} (h : x.length ≤ 16777216) (e : atI x i = some c) : oIx (.str x) (.int i) M = .ok (.str [c]) M := by
  simp only [oIx, h, if_true, e]
theorem atI_some {α : Type} {xs : List α} {i : Int} (h0 : 0 ≤ i) (h1 : i < xs.length) : ∃ v, atI xs i = some v ∧ v ∈ xs := by
  obtain ⟨j, rfl⟩ : ∃ j : Nat, i = (j : Int) := ⟨i.toNat, by omega⟩
  have hj : j < xs.length := by omega
  exact ⟨xs[j], atI_nat (List.getElem?_eq_getElem hj), List.getElem_mem hj⟩
theorem oAdd_str {c : Bool} {a b : List Nat} {M : Mem} (h : a.length + b.length ≤ 16777216) : oAdd c (.str a) (.str b) M = .ok (.str (a ++ b)) M := by
  show oAddS (.str a) (.str b) M = _
  simp only [oAddS, h, if_true]
theorem oEq_bl (ne a b : Bool) {M : Mem} : oEq ne (.bl a) (.bl b) M = .ok (.bl (if ne = true then !(a == b) else (a == b))) M := by
  cases ne <;> rfl
theorem oEq_int (ne : Bool) (a b : Int) {M : Mem} : oEq ne (.int a) (.int b) M = .ok (.bl (if ne = true then !(a == b) else (a == b))) M := by
  cases ne <;> rfl
end Fn
set_option Elab.async false
set_option linter.all false
set_option maxRecDepth 100000
set_option maxHeartbeats 1000000
namespace Fn
open PySem PySem.Spec PyProof.Rows L2
section
variable {X : Cx} {G : Gx} {cl : Nat → Addr} {E : XK} {W : Wd} {H : Hp} {M : Mem} {a b c : Expr} {fa fb fc : FE} {pos : Pos}
def putD (f : Str) (v : D) : List (Str × D) → List (Str × D)
  | [] => [(f, v)]
  | (g, x) :: r => if g = f then (g, v) :: r else (g, x) :: putD f v r
theorem rpk_put {f : Str} {d : D} {u : V} (r : Rp G W H d u) : ∀ {fs : List (Str × D)} {vs : List (Str × V)}, RpK G W H id fs vs → RpK G W H id (putD f d fs) (putF f u vs)
  | _, _, .nil => .cons ⟨rfl, r⟩ .nil
  | (g, x) :: fs, (g', x') :: vs, .cons h t => by
    have e : g = g' := h.1
    subst e
    show RpK G W H id (if g = f then _ else _) (if g = f then _ else _)
    by_cases q : g = f
    · rw [if_pos q, if_pos q]
      exact .cons ⟨rfl, r⟩ t
    · rw [if_neg q, if_neg q]
      exact .cons h (rpk_put r t)
theorem rpk_get {f : Str} {d : D} : ∀ {fs : List (Str × D)} {vs : List (Str × V)}, RpK G W H id fs vs → fs.lookup f = some d → ∃ u, vs.lookup f = some u ∧ Rp G W H d u
  | _, _, .nil, e => by cases e
  | (g, x) :: fs, (g', x') :: vs, .cons h t, e => by
    have q : g = g' := h.1
    subst q
    simp only [List.lookup] at e ⊢
    cases k : f == g with
    | true => rw [k] at e; cases e; exact ⟨x', rfl, h.2⟩
    | false => rw [k] at e; exact rpk_get t e
theorem rpk_none {f : Str} : ∀ {fs : List (Str × D)} {vs : List (Str × V)}, RpK G W H id fs vs → fs.lookup f = none → vs.lookup f = none
  | _, _, .nil, e => rfl
  | (g, x) :: fs, (g', x') :: vs, .cons h t, e => by
    have q : g = g' := h.1
    subst q
    simp only [List.lookup] at e ⊢
    cases k : f == g with
    | true => rw [k] at e; cases e
    | false => rw [k] at e; exact rpk_none t e
theorem rpk_len {fs : List (Str × D)} {vs : List (Str × V)} (h : RpK G W H id fs vs) : vs.length = fs.length := by
  induction h with
  | nil => rfl
  | cons _ _ ih => simp [ih]
/-- the attributes of an instance of the class c0 -/
def insOf (c0 : Nat) (M : Mem) : D → Option (Nat × List (Str × D))
  | .ref i => match M[i]? with
    | some (.ins c fs) => if c = c0 then some (i, fs) else none
    | _ => none
  | _ => none
theorem insOf_ok {c0 : Nat} (m : MemOk G W H M) {d : D} {u : V} {i : Nat} {fs : List (Str × D)} (r : Rp G W H d u) (e : insOf c0 M d = some (i, fs)) : d = .ref i ∧ ∃ a dx vs, u = .ref a ∧ W.as[i]? = some a ∧ H a = some (.ins (G.cl c0) dx vs) ∧ RpK G W H id fs vs := by
  unfold insOf at e
  split at e
  · rename_i j
    split at e
    · rename_i c fs' hc
      split at e
      · rename_i hcc
        subst hcc
        cases e
        obtain ⟨a, e1, e2⟩ := r
        obtain ⟨dx, vs, h1, h2⟩ := m.cell _ _ a hc e1
        exact ⟨rfl, a, dx, vs, e2, e1, h1, h2⟩
      · cases e
    · cases e
  · cases e
/-- e.f -/
def mFld (c0 : Nat) (f : Str) (fa : FE) : FE := fun env M => (fa env M).bind fun d m => match insOf c0 m d with
  | some (_, fs) => match fs.lookup f with
    | some v => .ok v m
    | none => .no
  | none => .no
theorem sn_fld {f : Str} {c0 : Nat} (hc : Cls X.K (cl c0)) (hn : NoAttr X.K (cl c0) f) (ha : PE X a (tE ⟨X.K, cl, X.w⟩ E fa)) (hb : attributeBase a f X.env (eval a X.env) = eval a X.env := by rfl) : PE X (.Attribute a f pos) (tE ⟨X.K, cl, X.w⟩ E (mFld c0 f fa)) := pe_imp (pe_fld ha hb) fun σ H Q ⟨W, env, M, s, p⟩ => by
  refine tE.bind s p fun d m W1 H1 u f1 s1 r1 p1 => ?_
  split at p1
  · rename_i i fs e
    split at p1
    · rename_i v hv
      obtain ⟨_, a1, dx, vs, e2, e3, h1, h2⟩ := insOf_ok s1.mem r1 e
      obtain ⟨w, h3, h4⟩ := rpk_get h2 hv
      exact ⟨a1, _, dx, vs, w, e2, h1, hc, hn, h3, p1.here s1.mem _ h4⟩
    · exact p1.elim
  · exact p1.elim
/-- e.f = v -/
def mFldSet (c0 : Nat) (f : Str) (fa fv : FE) : FS := fun env M => (fv env M).bind fun v m => (fa env m).bind fun d m2 => match insOf c0 m2 d with
  | some (i, fs) => if fs.length < 1000 then .ok (.nx env) (m2.set i (.ins c0 (putD f v fs))) else .no
  | none => .no
theorem ss_fld {f : Str} {c0 : Nat} {pos' : Pos} (hc : Cls X.K (cl c0)) (hn : NoAttr X.K (cl c0) f) (ha : PE X a (tE ⟨X.K, cl, X.w⟩ E fa)) (hb : PE X b (tE ⟨X.K, cl, X.w⟩ E fb)) (hs : swapsWith b (some (.Attribute a f pos')) pos.line X.env = pure false := by rfl) : PS X (.Assign [.Attribute a f pos'] b pos) (tS ⟨X.K, cl, X.w⟩ E (mFldSet c0 f fa fb)) := ps_imp (ps_fld ha hb hs) fun D σ H ⟨W, env, M, s, p⟩ => by
  refine tE.bind s p fun v m W1 H1 u f1 s1 r1 p1 => ?_
  refine tE.bind s1 p1 fun d m2 W2 H2 u2 f2 s2 r2 p2 => ?_
  split at p2
  · rename_i i fs e
    split at p2
    · rename_i hl
      obtain ⟨_, a1, dx, vs, e2, e3, h1, h2⟩ := insOf_ok s2.mem r2 e
      refine ⟨a1, _, dx, vs, e2, h1, hc, hn, by rw [rpk_len h2]; exact hl, ?_⟩
      have f3 := Fut.wrote (W := W2) (H := H2) (o := .ins (cl c0) dx (putF f u vs)) e3 h1 trivial
      exact p2 W2 _ f3 (s2.mem.wrote e3 ⟨dx, _, upd_same, rpk_put (s2.mem.rp f3 (s1.mem.rp f2 r1)) (h2.fut s2.mem f3)⟩) _ (s2.env.fut s2.mem f3)
    · exact p2.elim
  · exact p2.elim
def ClosedK (K : PySem.W.Frag) (cl : Nat → Addr) (dd : List D) (dvs : List V) : Prop := ∀ (w : World) (W : Wd) (H : Hp), RpL ⟨K, cl, w⟩ W H dd dvs
theorem closedK_nil {K : PySem.W.Frag} : ClosedK K cl [] [] := fun _ _ _ => rfl
/-- o.x(..) -/
def mMth (c0 : Nat) (x : Str) (n : Nat) (g : FD) (dd : List D) (fo : FE) (ga : FA) : FE := fun env M => (fo env M).bind fun d m => match insOf c0 m d with
  | some (_, fs) => match fs.lookup x with
    | none => (ga env m).bind fun ds m2 => if (d :: (ds ++ dd)).length = n then g (d :: (ds ++ dd)) m2 else .no
    | some _ => .no
  | none => .no
/-- C(..) -/
def mMake (c0 : Nat) (n : Nat) (g : FD) (dd : List D) (ga : FA) : FE := fun env M => (ga env M).bind fun ds m => if (D.ref m.length :: (ds ++ dd)).length = n then (g (D.ref m.length :: (ds ++ dd)) (m ++ [.ins c0 []])).bind fun r m2 => match r with
    | .non => .ok (.ref m.length) m2
    | _ => .no
  else .no
section
variable {CX : CXT} {k n c0 : Nat} {f C : Addr} {fd : FuncData} {ps ks : List Str} {g : FD} {dvs : List V} {dd : List D} {ds : List Value} {x m : Str} {p apos : Pos} {e o : Expr} {es : List Expr} {ga : FA} {kws : List Keyword} {π : Perm2} {nk : Nat} {gk : FA}
theorem mth_reads {K : PySem.W.Frag} {w : World} (hc : ClosedK K cl dd dvs) (σ : L2.St) (H : Hp) (Q : VK) (h : tE ⟨K, cl, w⟩ E (mMth c0 x n g dd fa ga) σ H Q) : tMeth (cl c0) x (spOf ⟨K, cl, w⟩ n g) dvs E (tE ⟨K, cl, w⟩ E fa) (tA ⟨K, cl, w⟩ E ga) σ H Q := by
  obtain ⟨W, env, M, s, p⟩ := h
  refine tE.bind s p fun d m W1 H1 u f1 s1 r1 p1 => ?_
  split at p1
  · rename_i i fs e
    split at p1
    · rename_i hv
      obtain ⟨hd, a1, dx, vs, e2, e3, h1, h2⟩ := insOf_ok s1.mem r1 e
      refine ⟨a1, dx, vs, e2, h1, rpk_none h2 hv, ?_⟩
      refine tA.bind s1 p1 fun ds m2 W2 H2 us f2 s2 r2 p2 => ?_
      split at p2
      · rename_i hl
        exact ⟨W2, m2, d :: (ds ++ dd), s2.mem, ⟨u, _, rfl, s1.mem.rp f2 r1, r2.append (hc _ W2 H2)⟩, hl, p2⟩
      · exact p2.elim
    · exact p1.elim
  · exact p1.elim
theorem sn_mth {pl : Sem Bool} (ho : PE X o (tE ⟨X.K, cl, X.w⟩ E fa)) (c : Cls X.K (cl c0)) (hm : Meth X.K (cl c0) m f) (F : FnOk X.prog X.w X.K X.mg X.base CX k f fd ps (spOf ⟨X.K, cl, X.w⟩ n g)) (hr : Room k X.A) (hb : Binds X.K fd ps ds) (hd : Vals dvs ds) (hcl : ClosedK X.K cl dd dvs) (hx : Passes CX X E) (ha : PA X (e :: es) (tA ⟨X.K, cl, X.w⟩ E ga))
    (hst : starEach (e :: es) X.env = (false, eval e X.env) :: starEach es X.env := by rfl) (hpl : (backTo pos (starEach es X.env)).any (·.1) = false := by rfl)
    (ht : eval (.Call (.Attribute o m apos) (e :: es) [] pos) X.env = (do
      let ov ← eval o X.env
      standAt apos.atName
      let (f, first) ← holding [ov] (getMethod ov m pl)
      callWith pos f first (backTo pos (starEach (e :: es) X.env)) (backToKw pos (keywordEach [] X.env))) := by rfl) :
    PE X (.Call (.Attribute o m apos) (e :: es) [] pos) (tE ⟨X.K, cl, X.w⟩ E (mMth c0 m n g dd fa ga)) := pe_imp (pe_meth ho c hm F hr hb hd hx ha hst hpl ht) (mth_reads hcl)
theorem sn_mth0 {pl : Sem Bool} (ho : PE X o (tE ⟨X.K, cl, X.w⟩ E fa)) (c : Cls X.K (cl c0)) (hm : Meth X.K (cl c0) m f) (F : FnOk X.prog X.w X.K X.mg X.base CX k f fd ps (spOf ⟨X.K, cl, X.w⟩ n g)) (hr : Room k X.A) (hb : Binds X.K fd ps ds) (hd : Vals dvs ds) (hcl : ClosedK X.K cl dd dvs) (hx : Passes CX X E)
    (ht : eval (.Call (.Attribute o m apos) [] [] pos) X.env = (do
      let ov ← eval o X.env
      standAt apos.atName
      let (f, first) ← holding [ov] (getMethod ov m pl)
      callWith pos f first (backTo pos (starEach [] X.env)) (backToKw pos (keywordEach [] X.env))) := by rfl) :
    PE X (.Call (.Attribute o m apos) [] [] pos) (tE ⟨X.K, cl, X.w⟩ E (mMth c0 m n g dd fa aNil)) := pe_imp (pe_meth0 ho c hm F hr hb hd hx ht) fun σ H Q h => by
  obtain ⟨W, env, M, s, p⟩ := h
  refine tE.bind s p fun d m W1 H1 u f1 s1 r1 p1 => ?_
  split at p1
  · rename_i i fs e
    split at p1
    · rename_i hv
      obtain ⟨hd, a1, dx, vs, e2, e3, h1, h2⟩ := insOf_ok s1.mem r1 e
      refine ⟨a1, dx, vs, e2, h1, rpk_none h2 hv, ?_⟩
      have p2 : PR ⟨X.K, cl, X.w⟩ W1 H1 (PV ⟨X.K, cl, X.w⟩ Q) E (if (d :: ([] ++ dd)).length = n then g (d :: ([] ++ dd)) m else .no) := p1
      split at p2
      · rename_i hl
        exact ⟨W1, m, d :: ([] ++ dd), s1.mem, ⟨u, _, rfl, r1, hcl _ W1 H1⟩, hl, p2⟩
      · exact p2.elim
    · exact p1.elim
  · exact p1.elim
/-- a new instance stands -/
theorem made_ok (m : MemOk G W H M) {x dx : Addr} (hx : H x = none) (hdx : H dx = none) (hne : dx ≠ x) : Fut W H ⟨W.as ++ [x], W.hd⟩ (upd (upd H dx (.own x)) x (.ins (G.cl c0) dx [])) ∧ MemOk G ⟨W.as ++ [x], W.hd⟩ (upd (upd H dx (.own x)) x (.ins (G.cl c0) dx [])) (M ++ [.ins c0 []]) ∧ Rp G ⟨W.as ++ [x], W.hd⟩ (upd (upd H dx (.own x)) x (.ins (G.cl c0) dx [])) (.ref M.length) (.ref x) := by
  have m1 : MemOk G W (upd H dx (.own x)) M := m.laid hdx
  have hx1 : upd H dx (.own x) x = none := by rw [upd_ne (Ne.symm hne)]; exact hx
  refine ⟨(Fut.laid hdx).trans (Fut.added m1 hx1), m1.added hx1 ⟨dx, [], upd_same, .nil⟩, x, ?_, rfl⟩
  rw [← m.len]
  simp
theorem make_post {K : PySem.W.Frag} {w : World} {W1 : Wd} {H1 : Hp} {m1 : Mem} {Q : VK} {x dx : Addr} {as : List D} (mo : MemOk ⟨K, cl, w⟩ W1 H1 m1) (hx : H1 x = none) (hdx : H1 dx = none) (hne : dx ≠ x)
    (p : PR ⟨K, cl, w⟩ W1 H1 (PV ⟨K, cl, w⟩ Q) E ((g as (m1 ++ [.ins c0 []])).bind fun r m2 => match r with | .non => .ok (.ref m1.length) m2 | _ => .no)) :
    PR ⟨K, cl, w⟩ ⟨W1.as ++ [x], W1.hd⟩ (upd (upd H1 dx (.own x)) x (.ins (cl c0) dx [])) (PV ⟨K, cl, w⟩ fun v H2 => v = .non ∧ Q (.ref x) H2) E (g as (m1 ++ [.ins c0 []])) := by
  obtain ⟨f, m', r⟩ := made_ok (c0 := c0) mo hx hdx hne
  obtain ⟨b, hb, hb2⟩ := r
  cases hb2
  refine PR.bind (PR.fut f p) fun z m2 W2 H2 f2 k2 p2 => fun u hu => ?_
  cases z with
  | non =>
    cases hu
    exact ⟨rfl, p2.here k2 _ ⟨x, f2.get hb, rfl⟩⟩
  | _ => exact p2.elim
theorem make_reads {K : PySem.W.Frag} {w : World} (hc : ClosedK K cl dd dvs) (σ : L2.St) (H : Hp) (Q : VK) (h : tE ⟨K, cl, w⟩ E (mMake c0 n g dd ga) σ H Q) : tMake (cl c0) (spOf ⟨K, cl, w⟩ n g) dvs E (tA ⟨K, cl, w⟩ E ga) σ H Q := by
  obtain ⟨W, env, M, s, p⟩ := h
  refine tA.bind s p fun ds m1 W1 H1 vs f1 s1 r1 p1 => ?_
  split at p1
  · rename_i hl
    intro x dx hx hdx hne
    obtain ⟨f, m', r⟩ := made_ok (c0 := c0) s1.mem hx hdx hne
    exact ⟨_, _, D.ref m1.length :: (ds ++ dd), m', ⟨_, _, rfl, r, (s1.mem.rpL f r1).append (hc _ _ _)⟩, hl, make_post s1.mem hx hdx hne p1⟩
  · exact p1.elim
theorem sn_make (Mk0 : Mk X.K (cl c0) f) (F : FnOk X.prog X.w X.K X.mg X.base CX k f fd ps (spOf ⟨X.K, cl, X.w⟩ n g)) (hr : Room (k + 1) X.A) (hg : Gl X x) (hm : X.mg x = some (.ref (cl c0))) (hb : Binds X.K fd ps ds) (hd : Vals dvs ds) (hc : ClosedK X.K cl dd dvs) (hx : Passes CX X E)
    (ha : PA X (e :: es) (tA ⟨X.K, cl, X.w⟩ E ga)) (hdb : (x == ("__debug__" : Str)) = false := by decide) (he : starEach (e :: es) X.env = (false, eval e X.env) :: starEach es X.env := by rfl) (hpl : (backTo pos (starEach es X.env)).any (·.1) = false := by rfl) :
    PE X (.Call (.Name x p) (e :: es) [] pos) (tE ⟨X.K, cl, X.w⟩ E (mMake c0 n g dd ga)) := pe_imp (pe_make Mk0 F hr hg hm hb hd hx ha hdb he hpl) (make_reads hc)
theorem sn_make0 (Mk0 : Mk X.K (cl c0) f) (F : FnOk X.prog X.w X.K X.mg X.base CX k f fd ps (spOf ⟨X.K, cl, X.w⟩ n g)) (hr : Room (k + 1) X.A) (hg : Gl X x) (hm : X.mg x = some (.ref (cl c0))) (hb : Binds X.K fd ps ds) (hd : Vals dvs ds) (hc : ClosedK X.K cl dd dvs) (hx : Passes CX X E)
    (hdb : (x == ("__debug__" : Str)) = false := by decide) : PE X (.Call (.Name x p) [] [] pos) (tE ⟨X.K, cl, X.w⟩ E (mMake c0 n g dd aNil)) := pe_imp (pe_make0 Mk0 F hr hg hm hb hd hx hdb) fun σ H Q ⟨W, env, M, s, p⟩ => by
  have p1 : PR ⟨X.K, cl, X.w⟩ W H (PV ⟨X.K, cl, X.w⟩ Q) E (if (D.ref M.length :: ([] ++ dd)).length = n then (g (D.ref M.length :: ([] ++ dd)) (M ++ [.ins c0 []])).bind fun r m2 => match r with | .non => .ok (.ref M.length) m2 | _ => .no else .no) := p
  split at p1
  · rename_i hl
    intro x dx hx hdx hne
    obtain ⟨f, m', r⟩ := made_ok (c0 := c0) s.mem hx hdx hne
    exact ⟨_, _, D.ref M.length :: ([] ++ dd), m', ⟨_, _, rfl, r, hc _ _ _⟩, hl, make_post s.mem hx hdx hne p1⟩
  · exact p1.elim
/-- binding with keywords: the defaults by K alone -/
structure KwBK (K : PySem.W.Frag) (cl : Nat → Addr) (fd : FuncData) (ps : List Str) (n : Nat) (ks : List Str) (π : Perm2) (dd : List D) : Prop where
  kb : ∃ (g : List Value → List Value → List Value) (gV : List V → List V → List V), KBn K fd ps n ks g gV ∧ ∀ (w : World) (W : Wd) (H : Hp) (ds zs : List D) (vs ws : List V), RpL ⟨K, cl, w⟩ W H ds vs → RpL ⟨K, cl, w⟩ W H zs ws → RpL ⟨K, cl, w⟩ W H (π.on ds (zs ++ dd)) (gV vs ws)
end
end
end Fn
set_option Elab.async false
set_option linter.all false
set_option maxRecDepth 100000
set_option maxHeartbeats 1000000
namespace Fn
open PySem PySem.Spec PyProof.Rows L2
section
variable {X : Cx} {G : Gx} {cl : Nat → Addr} {E : XK} {W : Wd} {H : Hp} {M : Mem} {a b c : Expr} {fa fb fc : FE} {pos : Pos}
def numb (l : List D) : List D := (List.range l.length).zipWith (fun i d => .tup [.int (i : Nat), d]) l
theorem numb_get {l : List D} {i : Nat} {d : D} (h : (numb l)[i]? = some d) : ∃ x, l[i]? = some x ∧ d = .tup [.int (i : Nat), x] := by
  unfold numb at h
  rw [List.getElem?_zipWith] at h
  cases q : l[i]? with
  | none => rw [q] at h; cases q2 : (List.range l.length)[i]? <;> rw [q2] at h <;> cases h
  | some x =>
    have hi : i < l.length := (List.getElem?_eq_some_iff.mp q).1
    rw [q, List.getElem?_range hi] at h
    cases h
    exact ⟨x, rfl, rfl⟩
theorem numb_len (l : List D) : (numb l).length = l.length := by simp [numb]
theorem src_enum {W0 : Wd} {H0 : Hp} {l : List D} {P : Mem → Prop} {a : Addr} (h : ∀ W H M, Kp W0 H0 W H → MemOk G W H M → P M → ∃ us, SqL G.K H a us ∧ RpL G W H l us) : SrcOk G W0 H0 ⟨numb l, P⟩ (Ite G.K a) where
  item := fun W H M f _ m st i d e => by
    obtain ⟨us, h1, h2⟩ := h W H M f m st
    obtain ⟨y, e1, rfl⟩ := numb_get e
    obtain ⟨u, e2, r2⟩ := h2.get e1
    refine ⟨⟨us, u, h1, e2⟩, fun x H' z => ?_⟩
    obtain ⟨T, x', rfl, hT, rfl, hx⟩ := z
    have := hx us h1
    rw [e2] at this; cases this
    exact ⟨Fut.laid hT, m.laid hT, T, _, rfl, .inl upd_same, _, _, rfl, rfl, _, _, rfl, m.rp (Fut.laid hT) r2, rfl⟩
  stop := fun W H M f _ m st => by
    obtain ⟨us, h1, h2⟩ := h W H M f m st
    exact ⟨us, h1, by rw [numb_len, h2.len]; exact Nat.le_refl _⟩
theorem aCons_bind {α : Type} {f : FE} {env : Fn.Env} {M : Mem} {k : List D → Mem → R α} : ((aCons f aNil) env M).bind k = (f env M).bind fun d m => k [d] m := by
  show ((f env M).bind fun d m => R.ok [d] m).bind k = _
  cases f env M <;> rfl
def piIx (is : List Nat) : Perm2 := ⟨fun ds zs => is.filterMap fun i => (ds ++ zs)[i]?⟩
theorem rpl_pick {ds : List D} {vs : List V} (h : RpL G W H ds vs) : ∀ is : List Nat, RpL G W H (is.filterMap fun i => ds[i]?) (is.filterMap fun i => vs[i]?)
  | [] => (rfl : ([] : List V) = [])
  | i :: is => by
    rw [List.filterMap_cons, List.filterMap_cons]
    cases e : ds[i]? with
    | none =>
      have : vs[i]? = none := by
        rw [List.getElem?_eq_none_iff] at e ⊢
        rw [h.len]; exact e
      rw [this]
      exact rpl_pick h is
    | some d =>
      obtain ⟨u, e2, r⟩ := h.get e
      rw [e2]
      exact ⟨u, _, rfl, r, rpl_pick h is⟩
theorem vals_pick {vs : List V} {us : List Value} (h : Vals vs us) : ∀ is : List Nat, Vals (is.filterMap fun i => vs[i]?) (is.filterMap fun i => us[i]?)
  | [] => .nil
  | i :: is => by
    rw [List.filterMap_cons, List.filterMap_cons]
    cases e : vs[i]? with
    | none =>
      have : us[i]? = none := by
        rw [List.getElem?_eq_none_iff] at e ⊢
        rw [← h.length]; exact e
      rw [this]
      exact vals_pick h is
    | some d =>
      obtain ⟨u, e2, r⟩ := h.get e
      rw [e2]
      exact .cons r (vals_pick h is)
end
end Fn
set_option Elab.async false
set_option linter.all false
set_option maxRecDepth 100000
set_option maxHeartbeats 4000000
namespace Fn
open PySem PySem.Spec PyProof.Rows L2
section
variable {env : Env} {M : Mem}
theorem mFld_eq (c0 : Nat) (f : Str) (fa : FE) : mFld c0 f fa env M = (fa env M).bind fun d m => match insOf c0 m d with | some (_, fs) => (match fs.lookup f with | some v => .ok v m | none => .no) | none => .no := rfl
theorem mFldSet_eq (c0 : Nat) (f : Str) (fa fv : FE) : mFldSet c0 f fa fv env M = (fv env M).bind fun v m => (fa env m).bind fun d m2 => match insOf c0 m2 d with | some (i, fs) => if fs.length < 1000 then .ok (.nx env) (m2.set i (.ins c0 (putD f v fs))) else .no | none => .no := rfl
theorem mMth_eq (c0 : Nat) (x : Str) (n : Nat) (g : FD) (dd : List D) (fo : FE) (ga : FA) : mMth c0 x n g dd fo ga env M = (fo env M).bind fun d m => match insOf c0 m d with | some (_, fs) => (match fs.lookup x with | none => (ga env m).bind fun ds m2 => if (d :: (ds ++ dd)).length = n then g (d :: (ds ++ dd)) m2 else .no | some _ => .no) | none => .no := rfl
theorem mMake_eq (c0 n : Nat) (g : FD) (dd : List D) (ga : FA) : mMake c0 n g dd ga env M = (ga env M).bind fun ds m => if (D.ref m.length :: (ds ++ dd)).length = n then (g (D.ref m.length :: (ds ++ dd)) (m ++ [.ins c0 []])).bind fun r m2 => (match r with | .non => .ok (.ref m.length) m2 | _ => .no) else .no := rfl
theorem insOf_at {c0 i : Nat} {fs : List (Str × D)} (h : M[i]? = some (.ins c0 fs)) : insOf c0 M (.ref i) = some (i, fs) := by
  simp only [insOf, h, if_true]
theorem oLen_ref {i : Nat} {l : List D} (h : M[i]? = some (.lst l)) : oLen [.ref i] M = .ok (.int l.length) M := by
  simp only [oLen, seqOf, lstOf, h]
  all_goals rfl
theorem oAppend_at {i : Nat} {l : List D} {d : D} (h : M[i]? = some (.lst l)) (hl : l.length < 16777216) : oAppend (.ref i) [d] M = .ok .non (M.set i (.lst (l ++ [d]))) := by
  simp only [oAppend, h, if_pos hl]
theorem tyOk_at {i : Nat} {l : List D} (h : M[i]? = some (.lst l)) : tyOk "list" M (.ref i) = true := by
  simp only [tyOk, h]
  all_goals rfl
theorem compL_nilP {P : Mem → Prop} {g : FG} {t : FT} {f : FE} (hP : P M) : compL P g t f env [] M = .ok [] M := by
  unfold compL; rw [if_pos hP]
theorem compL_consP {P : Mem → Prop} {g : FG} {t : FT} {f : FE} {d : D} {r : List D} (hP : P M) : compL P g t f env (d :: r) M = (g d env M).bind fun env1 m1 => (t env1 m1).bind fun b m2 => if b = true then (f env1 m2).bind fun y m3 => (compL P g t f env r m3).bind fun ys m4 => .ok (y :: ys) m4 else compL P g t f env r m2 := by
  conv => lhs; unfold compL
  rw [if_pos hP]
end
def Pl (n : Nat) (d : D) : Prop := ∃ p, pyD d = some p ∧ p.depth ≤ n
def PlL (n : Nat) (l : List D) : Prop := ∀ d ∈ l, Pl n d
theorem PlL.py {n : Nat} : ∀ {l : List D}, PlL n l → ∃ ps, pyL l = some ps ∧ PyData.depthAll ps ≤ n
  | [], _ => ⟨[], rfl, Nat.zero_le _⟩
  | d :: r, h => by
    obtain ⟨p, h1, h2⟩ := h d (List.mem_cons_self ..)
    obtain ⟨ps, h3, h4⟩ := PlL.py (l := r) fun x hx => h x (List.mem_cons_of_mem _ hx)
    refine ⟨p :: ps, by simp only [pyL, h1, h3], ?_⟩
    simp only [PyData.depthAll]
    omega
theorem Pl.str {n : Nat} (x : List Nat) : Pl n (.str x) := ⟨_, rfl, by simp only [PyData.depth]; omega⟩
theorem Pl.int {n : Nat} (x : Int) : Pl n (.int x) := ⟨_, rfl, by simp only [PyData.depth]; omega⟩
theorem Pl.non {n : Nat} : Pl n .non := ⟨_, rfl, by simp only [PyData.depth]; omega⟩
theorem Pl.bl {n : Nat} (x : Bool) : Pl n (.bl x) := ⟨_, rfl, by simp only [PyData.depth]; omega⟩
theorem Pl.tup {n : Nat} {l : List D} (h : PlL n l) : Pl (n + 1) (.tup l) := by
  obtain ⟨ps, h1, h2⟩ := h.py
  exact ⟨.tuple ps, by simp only [pyD, h1, Option.map_some], by simp only [PyData.depth]; omega⟩
theorem Pl.lst {n : Nat} {l : List D} (h : PlL n l) : Pl (n + 1) (.lst l) := by
  obtain ⟨ps, h1, h2⟩ := h.py
  exact ⟨.list ps, by simp only [pyD, h1, Option.map_some], by simp only [PyData.depth]; omega⟩
theorem Pl.mono {n m : Nat} {d : D} (h : Pl n d) (hm : n ≤ m) : Pl m d := by
  obtain ⟨p, h1, h2⟩ := h
  exact ⟨p, h1, by omega⟩
theorem PlL.nil {n : Nat} : PlL n [] := fun d h => by cases h
theorem PlL.cons {n : Nat} {d : D} {l : List D} (h : Pl n d) (t : PlL n l) : PlL n (d :: l) := fun x hx => by
  rcases List.mem_cons.mp hx with rfl | hx
  · exact h
  · exact t x hx
mutual
theorem pyD_bd {n : Nat} : ∀ {d : D} {p : PyData}, pyD d = some p → bdD n d = true
  | .non, _, _ => rfl
  | .bl _, _, _ => rfl
  | .int _, _, _ => rfl
  | .str _, _, _ => rfl
  | .tup l, p, e => by
    simp only [pyD] at e
    cases q : pyL l with
    | none => rw [q] at e; cases e
    | some ps => exact pyL_bd q
  | .ct l, p, e => by
    simp only [pyD] at e
    cases q : pyL l with
    | none => rw [q] at e; cases e
    | some ps => exact pyL_bd q
  | .lst l, p, e => by
    simp only [pyD] at e
    cases q : pyL l with
    | none => rw [q] at e; cases e
    | some ps => exact pyL_bd q
  | .fz l, p, e => by
    simp only [pyD] at e
    cases q : pyL l with
    | none => rw [q] at e; cases e
    | some ps => exact pyL_bd q
  | .ref i, p, e => by cases e
theorem pyL_bd {n : Nat} : ∀ {l : List D} {ps : List PyData}, pyL l = some ps → bdL n l = true
  | [], _, _ => rfl
  | d :: l, ps, e => by
    simp only [pyL] at e
    split at e
    · rename_i a b h1 h2
      simp only [bdL, pyD_bd h1, pyL_bd h2, Bool.and_self]
    · cases e
end
theorem PlL.bd {k n : Nat} {l : List D} (h : PlL k l) : bdL n l = true := by
  obtain ⟨ps, h1, _⟩ := h.py
  exact pyL_bd h1
mutual
theorem frzD_py (m : Mem) (n : Nat) : ∀ (d : D) (p : PyData), pyD d = some p → frzD m n d = d
  | .non, _, _ => rfl
  | .bl _, _, _ => rfl
  | .int _, _, _ => rfl
  | .str _, _, _ => rfl
  | .tup l, p, e => by
    simp only [pyD] at e
    cases q : pyL l with
    | none => rw [q] at e; cases e
    | some ps => simp only [frzD, frzL_py m n l ps q]
  | .ct l, p, e => by
    simp only [pyD] at e
    cases q : pyL l with
    | none => rw [q] at e; cases e
    | some ps => simp only [frzD, frzL_py m n l ps q]
  | .lst l, p, e => by
    simp only [pyD] at e
    cases q : pyL l with
    | none => rw [q] at e; cases e
    | some ps => simp only [frzD, frzL_py m n l ps q]
  | .fz l, p, e => by
    simp only [pyD] at e
    cases q : pyL l with
    | none => rw [q] at e; cases e
    | some ps => simp only [frzD, frzL_py m n l ps q]
  | .ref i, p, e => by cases e
theorem frzL_py (m : Mem) (n : Nat) : ∀ (l : List D) (ps : List PyData), pyL l = some ps → frzL m n l = l
  | [], _, _ => rfl
  | d :: l, ps, e => by
    simp only [pyL] at e
    split at e
    · rename_i a b h1 h2
      simp only [frzL, frzD_py m n d a h1, frzL_py m n l b h2]
    · cases e
end
structure Fd where
  own : Int
  seed : Int
  cnt : Int
def Fd.c (s : Fd) : Cell := .lst [.int s.own, .int s.seed, .int s.cnt]
structure FdAt (M0 : Mem) (i : Nat) (M : Mem) : Prop where
  at_ : ∃ s : Fd, M = M0.set i s.c
  lt : i < M0.length
theorem FdAt.get {M0 M : Mem} {i : Nat} (h : FdAt M0 i M) : ∃ s : Fd, M[i]? = some s.c ∧ ∀ s' : Fd, FdAt M0 i (M.set i s'.c) := by
  obtain ⟨s, h2⟩ := h.at_
  exact ⟨s, by rw [h2]; exact List.getElem?_set_self h.lt, fun s' => ⟨⟨s', by rw [h2, set_twice]⟩, h.lt⟩⟩
theorem FdAt.start {M : Mem} {i : Nat} {s : Fd} (h : M[i]? = some s.c) : FdAt M i M := by
  obtain ⟨h1, h2⟩ := List.getElem?_eq_some_iff.mp h
  exact ⟨⟨s, by rw [← h2, List.set_getElem_self]⟩, h1⟩
theorem FdAt.len {M0 M : Mem} {i : Nat} (h : FdAt M0 i M) : M.length = M0.length := by
  obtain ⟨s, h2⟩ := h.at_
  rw [h2, List.length_set]
theorem FdAt.other {M0 M : Mem} {i j : Nat} (h : FdAt M0 i M) (hj : i ≠ j) : M[j]? = M0[j]? := by
  obtain ⟨s, e⟩ := h.at_
  rw [e, List.getElem?_set_ne hj]
theorem FdAt.trans {M0 M1 M2 : Mem} {i : Nat} (h : FdAt M0 i M1) (h' : FdAt M1 i M2) : FdAt M0 i M2 := by
  obtain ⟨s, e⟩ := h.at_
  obtain ⟨s', e'⟩ := h'.at_
  exact ⟨⟨s', by rw [e', e, set_twice]⟩, h.lt⟩
theorem FdAt.self {M0 M1 : Mem} {i : Nat} (h : FdAt M0 i M1) : FdAt M1 i M1 := by
  obtain ⟨s, h1, _⟩ := h.get
  exact .start h1
theorem j1 : -18446744073709551616 < (7643 : Int) := by omega
theorem j2 : (7643 : Int) < 18446744073709551616 := by omega
theorem j3 : -18446744073709551616 < (69623 : Int) := by omega
theorem oAbs_int {M : Mem} (i : Int) : oAbs [.int i] M = .ok (.int (if i < 0 then -i else i)) M := rfl
theorem ix32 : ixN 3 2 = some 2 := rfl
theorem i20 : (0 : Int) < 8191 := by omega
def DrawOk (g : FD) : Prop := ∀ (M0 M : Mem) (i : Nat) (many : Int), FdAt M0 i M → 0 < many → many < 1000000000000000000000000 → ∃ (v : Int) (M' : Mem), 0 ≤ v ∧ v < many ∧ FdAt M0 i M' ∧ g [.ref i, .int many] M = .ok (.int v) M'
theorem FdAt.app {A B M : Mem} {i : Nat} (h : FdAt (A ++ B) i M) (hi : i < A.length) : ∃ A', FdAt A i A' ∧ M = A' ++ B := by
  obtain ⟨s, e⟩ := h.at_
  exact ⟨A.set i s.c, ⟨⟨s, rfl⟩, hi⟩, by rw [e, List.set_append_left _ _ hi]⟩
theorem FdAt.mkApp {M0 A B : Mem} {i : Nat} (h : FdAt M0 i A) : FdAt (A ++ B) i (A ++ B) := by
  obtain ⟨s, h1, _⟩ := h.get
  exact .start (s := s) (by rw [List.getElem?_append_left (List.getElem?_eq_some_iff.mp h1).1]; exact h1)
/-- draws with other cells behind -/
theorem DrawOk.app {g : FD} (hg : DrawOk g) {M0 A B : Mem} {i : Nat} (h : FdAt M0 i A) {many : Int} (h0 : 0 < many) (h1 : many < 1000000000000000000000000) : ∃ (v : Int) (A' : Mem), 0 ≤ v ∧ v < many ∧ FdAt M0 i A' ∧ g [.ref i, .int many] (A ++ B) = .ok (.int v) (A' ++ B) := by
  obtain ⟨v, M', k0, k1, k2, k3⟩ := hg _ _ i many (h.mkApp (B := B)) h0 h1
  obtain ⟨A', h2, rfl⟩ := k2.app (by rw [h.len]; exact h.lt)
  exact ⟨v, A', k0, k1, h.trans h2, k3⟩
theorem app_get0 {A B : Mem} {c : Cell} {N : Nat} (h : A.length = N) : (A ++ c :: B)[N]? = some c := by
  rw [List.getElem?_append_right (by omega), h, Nat.sub_self]; rfl
theorem app_get1 {A B : Mem} {c c' : Cell} {N : Nat} (h : A.length = N) : (A ++ c :: c' :: B)[N + 1]? = some c' := by
  rw [List.getElem?_append_right (by omega), h, Nat.add_sub_cancel_left]; rfl
theorem app_set0 {A B : Mem} {c d : Cell} {N : Nat} (h : A.length = N) : (A ++ c :: B).set N d = A ++ d :: B := by
  rw [List.set_append_right _ _ (by omega), h, Nat.sub_self]; rfl
theorem app_set1 {A B : Mem} {c c' d : Cell} {N : Nat} (h : A.length = N) : (A ++ c :: c' :: B).set (N + 1) d = A ++ c :: d :: B := by
  rw [List.set_append_right _ _ (by omega), h, Nat.add_sub_cancel_left]; rfl
theorem ixN_nat {n k : Nat} (h : k < n) : ixN n (k : Int) = some k := by
  unfold ixN; simp; omega
end Fn
set_option Elab.async false
set_option linter.all false
set_option maxRecDepth 100000
set_option maxHeartbeats 1000000
namespace Fn
open PySem PySem.Spec PyProof.Rows L2
section
variable {prog : Program} {w : World} {A : Around} {E : Value → Shared → Prop} {s : Shared}
/-- a tuple's values, those amid in a new list -/
theorem star_of {l : Addr} {vs : Array Value} {n i : Nat} {Q : List Value → Shared → Prop} (pl : IsTup s.heap l vs) (nh : A.handled = none) (lt : i < n) (le : n ≤ vs.size + 1) (sz : vs.size ≤ 16384)
    (q : ∀ (h' : Heap) (tk : Nat), (∀ b o, s.heap.get? b = some o → h'.get? b = some o) →
      Q (vs.toList.take i ++ [.ref h'.objs.size] ++ (vs.toList.drop i).drop (vs.size + 1 - n)) { s with heap := h'.push { cls := .type "list", data := .seq ((vs.toList.drop i).take (vs.size + 1 - n)).toArray }, toks := tk }) :
    wpAny (model prog w) A (unpackItems (.ref l) n (some i)) Q E s := by
  have here : l < s.heap.objs.size := let ⟨_, e, _⟩ := pl; Heap.lt_size e
  have apart : l ≠ s.heap.objs.size := Nat.ne_of_lt here
  unfold unpackItems notIterableAtAll
  refine wpAny_bind (wpAny_bind (wpAny_specialOf pl.typeIs slot_tuple_iter.lookup (wpAny_pure ?_)))
  simp only [Bool.false_eq_true, if_false]
  refine wpAny_bind (wpAny_holding (iter_tuple pl (wpAny_bind (wpAny_holding (draw_tuple apart i 0 _ _ ⟨_, Heap.get?_push_size _ rfl, rfl, rfl⟩ (pl.push _) (by omega) fun g it same => ?_)))))
  have pl1 : IsTup g l vs := (pl.push _).extBut same.extBut apart
  have old1 : ∀ b o, s.heap.get? b = some o → g.get? b = some o := fun b o e => same.extBut b o (Nat.ne_of_lt (Heap.lt_size e)) (Heap.get?_push_of_some _ e)
  rw [Nat.zero_add] at it
  have itl : s.heap.objs.size < g.objs.size := let ⟨_, e, _⟩ := it; Heap.lt_size e
  have lg : l < g.objs.size := let ⟨_, e, _⟩ := pl1; Heap.lt_size e
  have fl : (vs.toList.take i).length = i := by simp; omega
  have dl : (vs.toList.drop i).length = vs.size - i := by simp
  simp only [List.drop_zero, fl, Nat.lt_irrefl, if_false]
  refine wpAny_bind (wpAny_holding (PySem.W.kun_collect (s := { s with heap := g }) (T := "tuple_iterator") (.inr (.inr (.inr rfl))) (Walks.tuple (A := A.in1) nh s.heap.objs.size l apart vs) (fun _ _ st => st.1.typeIs) (k := i) (by omega) ⟨it, pl1⟩ itl lg (fun g2 tk kp => ?_) (by rw [sizeLine_eq]; omega)))
  have cnt : vs.size - i - (n - 1 - i) = vs.size + 1 - n := by omega
  simp only [dl, show ¬ (vs.size - i < n - 1 - i) by omega, if_false, cnt]
  refine wpAny_bind (wpAny_newList (wpAny_pure (q g2 tk (fun b o e => kp b o (Nat.ne_of_lt (Heap.lt_size e)) (old1 b o e)))) (by rw [List.length_take, dl, sizeLine_eq]; omega))
end
section
variable {X : Cx} {G : Gx} {cl : Nat → Addr} {E : XK} {W : Wd} {H : Hp} {M : Mem} {pos : Pos}
/-- a, *b, c = a tuple -/
def gStar (K : PySem.W.Frag) (n i : Nat) (t : TGs) : TG := fun v σ H Q => ∃ a xs, v = .ref a ∧ SqT K H a xs ∧ n ≤ xs.length + 1 ∧ xs.length ≤ 16384 ∧ ∀ p, H p = none → t (xs.take i ++ [.ref p] ++ (xs.drop i).drop (xs.length + 1 - n)) σ (upd H p (.lst ((xs.drop i).take (xs.length + 1 - n)))) Q
theorem pg_star {es : List Expr} {k : Nat} {t : TGs} {n i : Nat} (hc : X.calm = true) (h : PGs X es t) (lt : i < n)
    (hn : (assignEach es X.env).length = n := by rfl) (hst : (assignEach es X.env).findIdx? (·.1) = some i := by rfl) : PG X (.Tuple es k pos) (gStar X.K n i t) := by
  refine ⟨fun pins s σ H v u Q I r hw => ?_⟩
  obtain ⟨a, xs, rfl, hq, le, sz, hw⟩ := hw
  cases r
  obtain ⟨its, rv, ht, hz⟩ := I.tuple hq
  have el : its.length = xs.length := rv.length.symm
  have ez : its.toArray.size = xs.length := by rw [List.size_toArray, el]
  rw [PyProof.Rows.assign_Tuple]
  refine wpAny_bind (wpAny_standAt ?_)
  unfold unpack
  rw [hn, hst]
  refine wpAny_bind (wpAny_holding (star_of ht (I.ok.hd hc) lt (by omega) (by omega) fun g tk kp => ?_))
  have I1 : Inv X pins σ H { s with heap := g, toks := tk } := I.kept kp
  have fr : H g.objs.size = none := I1.hok.fresh (Nat.le_refl _)
  have rm : Vals ((xs.drop i).take (xs.length + 1 - n)) ((its.drop i).take (xs.length + 1 - n)) := (rv.drop i).take _
  have I2 : Inv X pins σ (upd H g.objs.size (.lst ((xs.drop i).take (xs.length + 1 - n)))) { s with heap := g.push { cls := .type "list", data := .seq ((its.drop i).take (xs.length + 1 - n)).toArray }, toks := tk } :=
    I1.laid (t' := tk) (fun b o e => Heap.get?_push_of_some _ e) (Nat.le_refl _) ⟨by rw [List.length_take, List.length_drop, sizeLine_eq]; omega, _, 0, rm, Heap.get?_push_size _ rfl⟩
  rw [ez]
  exact h.run pins _ σ _ _ _ Q I2 (((rv.take i).append (.cons (show RelV (.ref g.objs.size) (.ref g.objs.size) from rfl) .nil)).append ((rv.drop i).drop _)) (hw _ fr)
def gS (n i : Nat) (g : FGs) : FG := fun d env M => match d with
  | .tup l => if n ≤ l.length + 1 ∧ l.length ≤ 16384 then g (l.take i ++ [.lst ((l.drop i).take (l.length + 1 - n))] ++ (l.drop i).drop (l.length + 1 - n)) env M else .no
  | .ct l => if n ≤ l.length + 1 ∧ l.length ≤ 16384 then g (l.take i ++ [.lst ((l.drop i).take (l.length + 1 - n))] ++ (l.drop i).drop (l.length + 1 - n)) env M else .no
  | _ => .no
theorem pgs_star {e : Expr} {p : Pos} {es : List Expr} {t : TG} {u : TGs} (h1 : PG X e t) (h2 : PGs X es u)
    (hs : (assignEach (.Starred e p :: es) X.env).map (·.2) = assign e X.env :: (assignEach es X.env).map (·.2) := by rfl) : PGs X (.Starred e p :: es) (gCons t u) := by
  refine ⟨fun pins s σ H xs us Q I rx k => ?_⟩
  obtain ⟨x, xr, rfl, k⟩ := k
  rw [hs]
  cases rx with
  | cons ra rb => exact assignInOrder_cons (thn (h1.run pins s σ H _ _ _ I ra k) fun _ s2 ⟨σ2, H2, I2, k2⟩ => h2.run pins s2 σ2 H2 _ _ Q I2 rb k2)
theorem sgs_star {e : Expr} {p : Pos} {es : List Expr} {f : FG} {g : FGs} {sl : List Nat} (h1 : PG X e (tGt G E sl f)) (h2 : PGs X es (tGts G E sl g))
    (hs : (assignEach (.Starred e p :: es) X.env).map (·.2) = assign e X.env :: (assignEach es X.env).map (·.2) := by rfl) : PGs X (.Starred e p :: es) (tGts G E sl (gsCons f g)) := pgs_imp (pgs_star h1 h2 hs) fun v σ H Q ⟨W, env, M, ds, s, r, p⟩ => by
  cases ds with
  | nil => exact p.elim
  | cons d r' =>
    obtain ⟨u, us, e1, r1, r2⟩ := r
    exact ⟨u, us, e1, W, env, M, d, s, r1, PR.bind p fun env1 m W1 H1 f1 k1 p1 => fun σ1 en ew => ⟨W1, env1, m, r', ⟨k1, en⟩, s.mem.rpL f1 r2, PR.mono p1 fun env2 m2 W2 H2 f2 k2 q σ2 en2 ew2 => q σ2 en2 (ew2.trans ew)⟩⟩
theorem sg_star {es : List Expr} {k : Nat} {g : FGs} {n i : Nat} {sl : List Nat} (hc : X.calm = true) (h : PGs X es (tGts ⟨X.K, cl, X.w⟩ E sl g)) (lt : i < n)
    (hn : (assignEach es X.env).length = n := by rfl) (hst : (assignEach es X.env).findIdx? (·.1) = some i := by rfl) : PG X (.Tuple es k pos) (tGt ⟨X.K, cl, X.w⟩ E sl (gS n i g)) := pg_imp (pg_star hc h lt hn hst) fun v σ H Q ⟨W, env, M, d, s, r, p⟩ => by
  unfold gS at p
  split at p
  · rename_i l
    obtain ⟨a1, us, e1, s1, r1⟩ := r
    split at p
    · rename_i hl
      refine ⟨a1, us, e1, s1.sq, by rw [r1.len]; exact hl.1, by rw [r1.len]; exact hl.2, fun q hq => ?_⟩
      have f : Fut W H W (upd H q (.lst ((us.drop i).take (us.length + 1 - n)))) := Fut.laid hq
      have m1 := s.mem.laid (o := .lst ((us.drop i).take (us.length + 1 - n))) hq
      have nw : q ∉ W.as ∧ q ∉ W.hd := s.mem.fresh hq
      rw [← r1.len] at p
      have rr := s.mem.rpL f r1
      have rl : Rp ⟨X.K, cl, X.w⟩ W (upd H q (.lst ((us.drop i).take (us.length + 1 - n)))) (.lst ((l.drop i).take (us.length + 1 - n))) (.ref q) := ⟨q, _, rfl, ⟨upd_same, nw.1, nw.2⟩, RpL.take _ (RpL.drop i rr)⟩
      exact ⟨W, env, M, _, ⟨m1, s.env.fut s.mem f⟩, ((RpL.take i rr).append (show RpL ⟨X.K, cl, X.w⟩ W (upd H q (.lst ((us.drop i).take (us.length + 1 - n)))) [.lst ((l.drop i).take (us.length + 1 - n))] [.ref q] from ⟨_, _, rfl, rl, rfl⟩)).append (RpL.drop _ (RpL.drop i rr)), PR.fut f p⟩
    · exact p.elim
  · rename_i l
    obtain ⟨a1, us, e1, s1, r1⟩ := r
    split at p
    · rename_i hl
      refine ⟨a1, us, e1, s1.sq, by rw [r1.len]; exact hl.1, by rw [r1.len]; exact hl.2, fun q hq => ?_⟩
      have f : Fut W H W (upd H q (.lst ((us.drop i).take (us.length + 1 - n)))) := Fut.laid hq
      have m1 := s.mem.laid (o := .lst ((us.drop i).take (us.length + 1 - n))) hq
      have nw : q ∉ W.as ∧ q ∉ W.hd := s.mem.fresh hq
      rw [← r1.len] at p
      have rr := s.mem.rpL f r1
      have rl : Rp ⟨X.K, cl, X.w⟩ W (upd H q (.lst ((us.drop i).take (us.length + 1 - n)))) (.lst ((l.drop i).take (us.length + 1 - n))) (.ref q) := ⟨q, _, rfl, ⟨upd_same, nw.1, nw.2⟩, RpL.take _ (RpL.drop i rr)⟩
      exact ⟨W, env, M, _, ⟨m1, s.env.fut s.mem f⟩, ((RpL.take i rr).append (show RpL ⟨X.K, cl, X.w⟩ W (upd H q (.lst ((us.drop i).take (us.length + 1 - n)))) [.lst ((l.drop i).take (us.length + 1 - n))] [.ref q] from ⟨_, _, rfl, rl, rfl⟩)).append (RpL.drop _ (RpL.drop i rr)), PR.fut f p⟩
    · exact p.elim
  · exact p.elim
theorem gS_eq (n i : Nat) (g : FGs) (l : List D) {env : Fn.Env} : gS n i g (.tup l) env M = if n ≤ l.length + 1 ∧ l.length ≤ 16384 then g (l.take i ++ [.lst ((l.drop i).take (l.length + 1 - n))] ++ (l.drop i).drop (l.length + 1 - n)) env M else .no := rfl
end
end Fn
set_option Elab.async false
set_option linter.all false
set_option maxRecDepth 100000
set_option maxHeartbeats 4000000
namespace Fn
open PySem PySem.Spec PyProof.Rows L2
section
variable {M : Mem}
theorem oLen_refM (i : Nat) : oLen [.ref i] M = match M[i]? with | some (.lst l) => .ok (.int l.length) M | _ => .no := by
  simp only [oLen, seqOf, lstOf]
  cases M[i]? with
  | none => rfl
  | some c => cases c <;> rfl
theorem oIx_refM (i : Nat) (k : Int) : oIx (.ref i) (.int k) M = match M[i]? with | some (.lst l) => (match atI l k with | some d => .ok d M | none => .no) | _ => .no := by
  simp only [oIx, seqOf, lstOf]
  cases M[i]? with
  | none => rfl
  | some c => cases c <;> rfl
theorem oAppM (i : Nat) (d : D) : oAppend (.ref i) [d] M = match M[i]? with | some (.lst l) => (if l.length < 16777216 then .ok .non (M.set i (.lst (l ++ [d]))) else .no) | _ => .no := by
  simp only [oAppend]
  all_goals rfl
theorem oExtM (i : Nat) (d : D) : oExtend (.ref i) [d] M = match M[i]?, ownOf M d with | some (.lst l), some l' => (if l.length + l'.length ≤ 16777216 then .ok .non (M.set i (.lst (l ++ l'))) else .no) | _, _ => .no := by
  simp only [oExtend]
  all_goals rfl
theorem oTuple_ref (i : Nat) : oTuple [.ref i] M = match M[i]? with | some (.lst l) => .ok (.tup l) M | _ => .no := by
  simp only [oTuple, lstOf]
  cases M[i]? with
  | none => rfl
  | some c => cases c <;> rfl
theorem oList_ref {c : Bool} (i : Nat) : oList c [.ref i] M = match M[i]? with | some (.lst l) => mkL c l M | _ => .no := by
  simp only [oList, seqOf, lstOf]
  cases M[i]? with
  | none => rfl
  | some c => cases c <;> rfl
theorem srcOf_refM (i : Nat) : srcOf M (.ref i) = match M[i]? with | some (.lst l) => some ⟨l, fun M' => M'[i]? = some (.lst l)⟩ | _ => none := by
  simp only [srcOf]
  all_goals rfl
end
theorem ifLt24 {α : Sort _} {n : Nat} {a b : α} (h : n < 16777216) : (if n < 16777216 then a else b) = a := if_pos h
theorem ifLe24 {α : Sort _} {n : Nat} {a b : α} (h : n ≤ 16777216) : (if n ≤ 16777216 then a else b) = a := if_pos h
theorem lt_of_get {M : Mem} {k : Nat} {c : Cell} (h : M[k]? = some c) : k < M.length := (List.getElem?_eq_some_iff.mp h).1
theorem forL_consP {P : Mem → Prop} {g : FG} {body : FS} {d : D} {r : List D} {env : Fn.Env} {M : Mem} (hP : P M) : forL P g body (d :: r) env M = (g d env M).bind fun env1 m1 => (body env1 m1).bind fun fl m => match fl with
      | .nx env' => forL P g body r env' m
      | .ct env' => forL P g body r env' m
      | .bk env' => .ok (.nx env') m
      | .rt d => .ok (.rt d) m := by
  conv => lhs; unfold forL
  rw [if_pos hP]
  all_goals rfl
theorem compL_fm {P : Mem → Prop} {M : Mem} (hP : P M) {g : FG} {t : FT} {f : FE} {env : Fn.Env} {α : Type} (mk : α → D) (T : α → Bool) (F : α → D) : ∀ (xs : List α), (∀ x ∈ xs, ∃ env1, g (mk x) env M = .ok env1 M ∧ t env1 M = .ok (T x) M ∧ (T x = true → f env1 M = .ok (F x) M)) →
    compL P g t f env (xs.map mk) M = .ok ((xs.filter T).map F) M
  | [], _ => compL_nilP hP
  | d :: r, h => by
    obtain ⟨env1, h1, h2, h3⟩ := h d (List.mem_cons_self ..)
    have ih := compL_fm hP mk T F r fun d' hd => h d' (List.mem_cons_of_mem _ hd)
    rw [List.map_cons, compL_consP hP, h1, R.bind_ok, h2, R.bind_ok]
    cases ht : T d with
    | true => rw [if_pos rfl, h3 ht, R.bind_ok, ih, R.bind_ok, List.filter_cons_of_pos ht, List.map_cons]
    | false => rw [if_neg Bool.false_ne_true, ih, List.filter_cons_of_neg (by simp [ht])]
theorem compL_m {P : Mem → Prop} {M : Mem} (hP : P M) {g : FG} {f : FE} {env : Fn.Env} {α : Type} (mk : α → D) (F : α → D) (xs : List α) (h : ∀ x ∈ xs, ∃ env1, g (mk x) env M = .ok env1 M ∧ f env1 M = .ok (F x) M) :
    compL P g tsYes f env (xs.map mk) M = .ok (xs.map F) M := by
  have := compL_fm hP (t := tsYes) mk (fun _ => true) F xs fun x hx => by
    obtain ⟨env1, h1, h2⟩ := h x hx
    exact ⟨env1, h1, rfl, fun _ => h2⟩
  rw [this, List.filter_eq_self.mpr (fun _ _ => rfl)]
theorem allY {items ys : List D} {Y : D → Prop} (hl : ys.length = items.length) (h : ∀ (k : Nat) (d y : D), items[k]? = some d → ys[k]? = some y → Y y) {y : D} (hy : y ∈ ys) : Y y := by
  obtain ⟨k, hk⟩ := List.getElem?_of_mem hy
  have hk' : k < items.length := by rw [← hl]; exact (List.getElem?_eq_some_iff.mp hk).1
  exact h k _ y (List.getElem?_eq_getElem hk') hk
theorem atLast {α : Type} (l : List α) (d : α) : L2.atI (l ++ [d]) (-1) = some d := by
  have e : L2.ixN (l ++ [d]).length (-1) = some l.length := by
    unfold L2.ixN
    rw [if_neg (by omega)]
    simp
    try omega
  unfold L2.atI
  rw [e]
  simp
theorem strsOf_of : ∀ {l : List D}, (∀ d ∈ l, ∃ c : Nat, d = .str [c]) → ∃ w : List Nat, strsOf l = some (w.map fun c => [c]) ∧ w.length = l.length ∧ l = w.map fun c => .str [c]
  | [], _ => ⟨[], rfl, rfl, rfl⟩
  | d :: r, h => by
    obtain ⟨c, rfl⟩ := h d (List.mem_cons_self ..)
    obtain ⟨w, h1, h2, h3⟩ := strsOf_of (l := r) fun d hd => h d (List.mem_cons_of_mem _ hd)
    exact ⟨c :: w, by simp [strsOf, h1], by simp [h2], by rw [h3]; rfl⟩
theorem join_signs : ∀ w : List Nat, joinL [] (w.map fun c => [c]) = w
  | [] => rfl
  | [c] => rfl
  | c :: d :: r => by
    show [c] ++ [] ++ joinL [] ((d :: r).map fun c => [c]) = _
    rw [join_signs (d :: r)]
    rfl
theorem sum_ones : ∀ w : List Nat, ((w.map fun c => [c]).map (·.length)).sum = w.length
  | [] => rfl
  | c :: r => by
    simp only [List.map_cons, List.sum_cons, sum_ones r, List.length_cons, List.length_nil]
    omega
theorem any_str (w : List Nat) : ∀ F : List (List Nat), ((F.map D.str).any fun y => eqF y (.str w)) = decide (w ∈ F)
  | [] => by simp
  | x :: r => by
    rw [List.map_cons, List.any_cons, any_str w r]
    show (x == w || _) = _
    by_cases h : x = w
    · subst h; simp
    · have : (x == w) = false := beq_eq_false_iff_ne.mpr h
      rw [this, Bool.false_or]
      congr 1
      rw [List.mem_cons, eq_iff_iff]
      exact ⟨.inr, fun z => z.resolve_left fun e => h e.symm⟩
theorem flat_strs (F : List (List Nat)) : (F.map D.str).all flatD = true := by simp [flatD]
theorem oInF_strs {neg : Bool} {w : List Nat} {d : D} {F : List (List Nat)} {M : Mem} (h : seqOf M d = some (F.map .str)) : oInF neg (.str w) d M = .ok (.bl (neg != decide (w ∈ F))) M := by
  simp only [oInF, h, flat_strs, flatD, and_self, if_true, any_str]
  cases neg <;> simp
theorem mPar3_eq (i j l : Nat) (g : FA) {env : Fn.Env} {M : Mem} : mPar3 i j l g env M = (g env M).bind fun ds m => match ds with
  | [d, d', d''] => .ok (.nx (((env.set i (some d)).set j (some d')).set l (some d''))) m
  | _ => .no := rfl
theorem gc_ref {B : FS} {N : Nat} {ds : List D} {M junk : Mem} {i : Nat} {c : Cell} {l : List D} {ps : List PyData} (hB : runB B N ds M = .ok (.ref M.length) (M.set i c ++ .lst l :: junk)) (hc : bdC M.length c = true) (hl : pyL l = some ps) : gcB B N ds M = .ok (.lst l) (M.set i c) := by
  have hf : frzD (M.set i c ++ .lst l :: junk) M.length (.ref M.length) = .lst l := by
    simp only [frzD, Nat.lt_irrefl, if_false, app_get0 (show (M.set i c).length = M.length from List.length_set ..)]
  unfold gcB gcR
  simp only [hB]
  rw [if_pos (by rw [hf]; exact cut_set (d := .lst l) (by simp only [bdD]; exact pyL_bd hl) hc), hf, List.take_append_of_le_length (by simp), List.take_of_length_le (by simp)]
/-- of a call that changes nothing -/
theorem gc_ref0 {B : FS} {N : Nat} {ds : List D} {M junk : Mem} {l : List D} {ps : List PyData} (hB : runB B N ds M = .ok (.ref M.length) (M ++ .lst l :: junk)) (hl : pyL l = some ps) : gcB B N ds M = .ok (.lst l) M := by
  have hf : frzD (M ++ .lst l :: junk) M.length (.ref M.length) = .lst l := by
    simp only [frzD, Nat.lt_irrefl, if_false, app_get0 (show M.length = M.length from rfl)]
  unfold gcB gcR
  simp only [hB]
  rw [if_pos (by rw [hf]; exact cut_id (d := .lst l) (by simp only [bdD]; exact pyL_bd hl)), hf, List.take_append_of_le_length (by simp), List.take_of_length_le (by simp)]
theorem gc_val0 {B : FS} {N : Nat} {ds : List D} {M junk : Mem} {d : D} {p : PyData} (hB : runB B N ds M = .ok d (M ++ junk)) (hl : pyD d = some p) : gcB B N ds M = .ok d M := by
  have hf : frzD (M ++ junk) M.length d = d := frzD_py _ _ _ _ hl
  unfold gcB gcR
  simp only [hB]
  rw [if_pos (by rw [hf]; exact cut_id (d := d) (pyD_bd hl)), hf, List.take_append_of_le_length (by simp), List.take_of_length_le (by simp)]
theorem gc_flow {B : FS} {N : Nat} {ds : List D} {M A junk : Mem} {i : Nat} {l : List D} {n : Nat} (hA : FlAt M i A) (hB : runB B N ds M = .ok (.ref M.length) (A ++ .lst l :: junk)) (hl : PlL n l) : gcB B N ds M = .ok (.lst l) A := by
  obtain ⟨s, _, rfl⟩ := hA.at_
  obtain ⟨ps, hps, _⟩ := hl.py
  exact gc_ref hB rfl hps
theorem FlAt.trans {M0 M1 M2 : Mem} {i : Nat} (h : FlAt M0 i M1) (h' : FlAt M1 i M2) : FlAt M0 i M2 := by
  obtain ⟨s, _, e⟩ := h.at_
  obtain ⟨s', k, e'⟩ := h'.at_
  exact ⟨⟨s', k, by rw [e', e, set_twice]⟩, h.lt⟩
theorem FlAt.self {M0 M1 : Mem} {i : Nat} (h : FlAt M0 i M1) : FlAt M1 i M1 := by
  obtain ⟨s, k, h1, _⟩ := h.get
  exact .start k h1
theorem plL_str {n : Nat} (F : List (List Nat)) : PlL n (F.map .str) := fun d hd => by obtain ⟨w, _, rfl⟩ := List.mem_map.mp hd; exact Pl.str _
end Fn
set_option Elab.async false
set_option linter.all false
set_option maxRecDepth 100000
namespace Fn
open PySem PySem.Spec PyProof.Rows L2
end Fn
set_option Elab.async false
set_option linter.all false
set_option maxRecDepth 100000
set_option maxHeartbeats 1000000
namespace Fn
open PySem PySem.Spec PyProof.Rows L2
end Fn
set_option Elab.async false
set_option linter.all false
set_option maxRecDepth 100000
set_option maxHeartbeats 1000000
namespace Fn
open PySem PySem.Spec PyProof.Rows L2
mutual
def exD : D → Bool
  | .non | .int _ | .str _ => true
  | .tup l => exL l
  | .ct _ => false
  | .lst l => exL l
  | _ => false
def exL : List D → Bool
  | [] => true
  | d :: r => exD d && exL r
end
theorem exL_iff : ∀ {l : List D}, exL l = true ↔ ∀ d ∈ l, exD d = true
  | [] => by simp [exL]
  | d :: r => by simp only [exL, Bool.and_eq_true, exL_iff, List.mem_cons, forall_eq_or_imp]
mutual
theorem eqv_ex : ∀ (a b : D) (p q : PyData), exD a = true → exD b = true → pyD a = some p → pyD b = some q → (PyData.eqv p q = true ↔ a = b)
  | .non, b, p, q, h1, h2, e1, e2 => by
    cases e1
    cases b <;> simp only [exD, Bool.false_eq_true] at h2 <;> simp only [pyD, Option.some.injEq, Option.map_eq_some_iff] at e2
    case non => subst e2; simp [PyData.eqv]
    case int => subst e2; simp [PyData.eqv]
    case str => subst e2; simp [PyData.eqv]
    case tup => obtain ⟨x, _, rfl⟩ := e2; simp [PyData.eqv]
    case lst => obtain ⟨x, _, rfl⟩ := e2; simp [PyData.eqv]
  | .int i, b, p, q, h1, h2, e1, e2 => by
    cases e1
    cases b <;> simp only [exD, Bool.false_eq_true] at h2 <;> simp only [pyD, Option.some.injEq, Option.map_eq_some_iff] at e2
    case non => subst e2; simp [PyData.eqv]
    case int => subst e2; simp [PyData.eqv]
    case str => subst e2; simp [PyData.eqv]
    case tup => obtain ⟨x, _, rfl⟩ := e2; simp [PyData.eqv]
    case lst => obtain ⟨x, _, rfl⟩ := e2; simp [PyData.eqv]
  | .str s, b, p, q, h1, h2, e1, e2 => by
    cases e1
    cases b <;> simp only [exD, Bool.false_eq_true] at h2 <;> simp only [pyD, Option.some.injEq, Option.map_eq_some_iff] at e2
    case non => subst e2; simp [PyData.eqv]
    case int => subst e2; simp [PyData.eqv]
    case str y =>
      subst e2
      simp only [PyData.eqv, beq_iff_eq, D.str.injEq]
      exact ⟨fun h => l2s_inj h, fun h => by rw [h]⟩
    case tup => obtain ⟨x, _, rfl⟩ := e2; simp [PyData.eqv]
    case lst => obtain ⟨x, _, rfl⟩ := e2; simp [PyData.eqv]
  | .tup l, b, p, q, h1, h2, e1, e2 => by
    simp only [pyD, Option.map_eq_some_iff] at e1
    obtain ⟨ps, k1, rfl⟩ := e1
    cases b <;> simp only [exD, Bool.false_eq_true] at h2 <;> simp only [pyD, Option.some.injEq, Option.map_eq_some_iff] at e2
    case non => subst e2; simp [PyData.eqv]
    case int => subst e2; simp [PyData.eqv]
    case str => subst e2; simp [PyData.eqv]
    case tup m =>
      obtain ⟨qs, k2, rfl⟩ := e2
      simp only [PyData.eqv, D.tup.injEq]
      exact eqv_exL l m ps qs (by simpa only [exD] using h1) h2 k1 k2
    case lst => obtain ⟨x, _, rfl⟩ := e2; simp [PyData.eqv]
  | .ct _, b, p, q, h1, h2, e1, e2 => by simp only [exD, Bool.false_eq_true] at h1
  | .lst l, b, p, q, h1, h2, e1, e2 => by
    simp only [pyD, Option.map_eq_some_iff] at e1
    obtain ⟨ps, k1, rfl⟩ := e1
    cases b <;> simp only [exD, Bool.false_eq_true] at h2 <;> simp only [pyD, Option.some.injEq, Option.map_eq_some_iff] at e2
    case non => subst e2; simp [PyData.eqv]
    case int => subst e2; simp [PyData.eqv]
    case str => subst e2; simp [PyData.eqv]
    case tup => obtain ⟨x, _, rfl⟩ := e2; simp [PyData.eqv]
    case lst m =>
      obtain ⟨qs, k2, rfl⟩ := e2
      simp only [PyData.eqv, D.lst.injEq]
      exact eqv_exL l m ps qs (by simpa only [exD] using h1) h2 k1 k2
  | .bl _, b, p, q, h1, h2, e1, e2 => by simp only [exD, Bool.false_eq_true] at h1
  | .fz _, b, p, q, h1, h2, e1, e2 => by simp only [exD, Bool.false_eq_true] at h1
  | .ref _, b, p, q, h1, h2, e1, e2 => by simp only [exD, Bool.false_eq_true] at h1
theorem eqv_exL : ∀ (l m : List D) (ps qs : List PyData), exL l = true → exL m = true → pyL l = some ps → pyL m = some qs → (PyData.eqvAll ps qs = true ↔ l = m)
  | [], m, ps, qs, h1, h2, e1, e2 => by
    cases e1
    cases m with
    | nil => cases e2; simp [PyData.eqvAll]
    | cons b m =>
      simp only [pyL] at e2
      split at e2
      · cases e2; simp [PyData.eqvAll]
      · cases e2
  | a :: l, m, ps, qs, h1, h2, e1, e2 => by
    simp only [pyL] at e1
    split at e1
    · rename_i p ps' k1 k2
      cases e1
      cases m with
      | nil => cases e2; simp [PyData.eqvAll]
      | cons b m =>
        simp only [pyL] at e2
        split at e2
        · rename_i q qs' k3 k4
          cases e2
          simp only [exL, Bool.and_eq_true] at h1 h2
          simp only [PyData.eqvAll, Bool.and_eq_true, eqv_ex a b p q h1.1 h2.1 k1 k3, eqv_exL l m ps' qs' h1.2 h2.2 k2 k4, List.cons.injEq]
        · cases e2
    · cases e1
end
mutual
def dpD : D → Nat
  | .tup l => dpL l + 1
  | .ct l => dpL l + 1
  | .lst l => dpL l + 1
  | _ => 0
def dpL : List D → Nat
  | [] => 0
  | d :: r => max (dpD d) (dpL r)
end
mutual
theorem ex_py : ∀ (a : D), exD a = true → ∃ p, pyD a = some p ∧ p.depth ≤ dpD a
  | .non, _ => ⟨_, rfl, by simp [PyData.depth]⟩
  | .int _, _ => ⟨_, rfl, by simp [PyData.depth]⟩
  | .str _, _ => ⟨_, rfl, by simp [PyData.depth]⟩
  | .tup l, h => by
    obtain ⟨ps, h1, h2⟩ := ex_pyL l (by simpa only [exD] using h)
    exact ⟨.tuple ps, by simp only [pyD, h1, Option.map_some], by simp only [PyData.depth, dpD]; omega⟩
  | .ct _, h => by simp only [exD, Bool.false_eq_true] at h
  | .lst l, h => by
    obtain ⟨ps, h1, h2⟩ := ex_pyL l (by simpa only [exD] using h)
    exact ⟨.list ps, by simp only [pyD, h1, Option.map_some], by simp only [PyData.depth, dpD]; omega⟩
  | .bl _, h => by simp only [exD, Bool.false_eq_true] at h
  | .fz _, h => by simp only [exD, Bool.false_eq_true] at h
  | .ref _, h => by simp only [exD, Bool.false_eq_true] at h
theorem ex_pyL : ∀ (l : List D), exL l = true → ∃ ps, pyL l = some ps ∧ PyData.depthAll ps ≤ dpL l
  | [], _ => ⟨[], rfl, by simp [PyData.depthAll]⟩
  | d :: r, h => by
    simp only [exL, Bool.and_eq_true] at h
    obtain ⟨p, h1, h2⟩ := ex_py d h.1
    obtain ⟨ps, h3, h4⟩ := ex_pyL r h.2
    exact ⟨p :: ps, by simp only [pyL, h1, h3], by simp only [PyData.depthAll, dpL]; omega⟩
end
theorem ex_pl {a : D} (h : exD a = true) : Pl (dpD a) a := ex_py a h
theorem oEq_ex {ne : Bool} {a b : D} {M : Mem} (ha : exD a = true) (hb : exD b = true) (hd : dpD a ≤ 60) : oEq ne a b M = .ok (.bl (ne != (@decide (a = b) (Classical.propDecidable _)))) M := by
  obtain ⟨p, p1, p2⟩ := ex_py a ha
  obtain ⟨q, q1, q2⟩ := ex_py b hb
  have k1 : pyM M a = some p := pyGo_of p1
  have k2 : pyM M b = some q := pyGo_of q1
  have hm : min p.depth q.depth ≤ 60 := by omega
  have he : PyData.eqv p q = @decide (a = b) (Classical.propDecidable _) := by
    rw [Bool.eq_iff_iff, @decide_eq_true_iff _ (Classical.propDecidable _)]
    exact eqv_ex a b p q ha hb p1 q1
  simp only [oEq, k1, k2, if_pos hm, he]
  cases ne <;> simp
theorem oEq_exT {ne : Bool} {a : D} {M : Mem} (ha : exD a = true) (hd : dpD a ≤ 60) : oEq ne a a M = .ok (.bl (!ne)) M := by
  rw [oEq_ex ha ha hd]
  simp
theorem oEq_exF {ne : Bool} {a b : D} {M : Mem} (ha : exD a = true) (hb : exD b = true) (hd : dpD a ≤ 60) (h : a ≠ b) : oEq ne a b M = .ok (.bl ne) M := by
  rw [oEq_ex ha hb hd]
  simp [h]
theorem exL_strs (l : List (List Nat)) : exL (l.map .str) = true := by
  rw [exL_iff]; intro d hd; obtain ⟨w, _, rfl⟩ := List.mem_map.mp hd; rfl
theorem exL_ints (l : List Int) : exL (l.map .int) = true := by
  rw [exL_iff]; intro d hd; obtain ⟨w, _, rfl⟩ := List.mem_map.mp hd; rfl
theorem dpL_le {n : Nat} : ∀ {l : List D}, (∀ d ∈ l, dpD d ≤ n) → dpL l ≤ n
  | [], _ => Nat.zero_le _
  | d :: r, h => by
    have h1 := h d (List.mem_cons_self ..)
    have h2 := dpL_le (l := r) fun x hx => h x (List.mem_cons_of_mem _ hx)
    simp only [dpL]; omega
theorem dpL_strs (l : List (List Nat)) : dpL (l.map .str) = 0 := by
  have := dpL_le (n := 0) (l := l.map D.str) fun d hd => by obtain ⟨w, _, rfl⟩ := List.mem_map.mp hd; exact Nat.le_refl _
  omega
end Fn
set_option Elab.async false
set_option linter.all false
set_option maxRecDepth 100000
set_option maxHeartbeats 1000000
namespace Fn
open PySem PySem.Spec PyProof.Rows L2
end Fn
set_option Elab.async false
set_option linter.all false
set_option maxRecDepth 100000
set_option maxHeartbeats 1000000
namespace Fn
open PySem PySem.Spec PyProof.Rows L2
mutual
theorem nk_depth : ∀ k : NK, (nk k).depth = nkDep k
  | .int _ => rfl
  | .str _ => rfl
  | .non => rfl
  | .tup l => by simp only [nk, NestedKey.depth, nkDep, nkL_depth l]
theorem nkL_depth : ∀ l : List NK, NestedKey.depthAll (nkL l) = nkDepL l
  | [] => rfl
  | k :: r => by simp only [nkL, NestedKey.depthAll, nkDepL, nk_depth k, nkL_depth r]
end
section
variable {P : Program} {w : World} {H : Hp} {h : Heap}
mutual
theorem nkAt_is (ok : HOk P w H h) : ∀ (k : NK) (v : V) (u : Value), NkAt H k v → RelV v u → NestedIs h (nk k) u
  | .int i, v, u, a, r => by
    obtain rfl : v = V.int i := a
    obtain ⟨t, rfl⟩ := r
    exact .int i t
  | .str x, v, u, a, r => by
    obtain rfl : v = V.str (l2s x) := a
    obtain ⟨t, rfl⟩ := r
    exact .text _ t
  | .non, v, u, a, r => by
    obtain rfl : v = V.non := a
    obtain rfl : u = Value.none := r
    exact .none
  | .tup l, v, u, a, r => by
    obtain ⟨b, us, rfl, hb, ks⟩ := a
    obtain rfl : u = Value.ref b := r
    obtain ⟨_, its, rv, o, h1, h2, n, h3⟩ := ok b _ hb
    exact .tup h1 h2 h3 (nkAtL_is ok l us its ks rv)
theorem nkAtL_is (ok : HOk P w H h) : ∀ (l : List NK) (vs : List V) (us : List Value), NkAtL H l vs → Vals vs us → NestedAll h (nkL l) us
  | [], vs, us, a, r => by
    obtain rfl : vs = [] := a
    cases r
    exact .nil
  | k :: l, vs, us, a, r => by
    obtain ⟨v, vs', rfl, h1, h2⟩ := a
    cases r with
    | cons r1 r2 => exact .cons (nkAt_is ok k v _ h1 r1) (nkAtL_is ok l vs' _ h2 r2)
end
def EsOk (H : Hp) (es : List (NestedKey × Addr × V)) : Prop := ∀ e ∈ es, ∃ k, nk k = e.1 ∧ nkDep k ≤ 8 ∧ NkAt H k (.ref e.2.1)
abbrev NP : List (NestedKey × Addr × V) → List (NestedKey × Addr × Value) → Prop := Paired fun p q => p.1 = q.1 ∧ p.2.1 = q.2.1 ∧ RelV p.2.2 q.2.2
theorem nd_keys (ok : HOk P w H h) {es : List (NestedKey × Addr × V)} {xs : List (NestedKey × Addr × Value)} (pr : NP es xs) : EsOk H es → ∀ x ∈ xs, (nestedKind P w).is h x.1 x.2.1 := by
  induction pr with
  | nil => exact fun _ x hx => by cases hx
  | @cons p q ps qs r t ih =>
    intro ke x hx
    rcases List.mem_cons.mp hx with rfl | hx
    · obtain ⟨k, k1, k2, k3⟩ := ke p (List.mem_cons_self ..)
      obtain ⟨r1, r2, r3⟩ := r
      refine ⟨?_, ?_⟩
      · rw [← r1, ← r2, ← k1]
        exact nkAt_is ok k _ _ k3 rfl
      · rw [← r1, ← k1, nk_depth]; exact k2
    · exact ih (fun e he => ke e (List.mem_cons_of_mem _ he)) x hx
/-- what the heap holds there -/
theorem nd_rd {a : Addr} {es : List (NestedKey × Addr × V)} (ok : HOk P w H h) (e : Rd H a (NdO w a es)) (ke : EsOk H es) : es.length ≤ sizeLine ∧ (a == sysModules) = false ∧ ∃ xs, NP es xs ∧ h.DictOfH (nestedKind P w) a xs := by
  obtain ⟨⟨z, hd, xs, pr, o, arr, ep, h1, h2, h3, h4, h5⟩, _, _⟩ := (show ObjOk P w H h a (NdO w a es) from e.ok ok)
  exact ⟨z, hd, xs, pr, o, arr, ep, h1, h2, h3, h4, nd_keys ok pr ke, h5⟩
theorem nd_ok {a : Addr} {es : List (NestedKey × Addr × V)} {xs : List (NestedKey × Addr × Value)} {H' : Hp} (z : es.length ≤ sizeLine) (hd : (a == sysModules) = false) (pr : NP es xs) (dd : h.DictOfH (nestedKind P w) a xs) : ObjOk P w H' h a (NdO w a es) := by
  obtain ⟨o, arr, ep, h1, h2, h3, h4, _, h5⟩ := dd
  exact ⟨⟨z, hd, xs, pr, o, arr, ep, h1, h2, h3, h4, h5⟩, ⟨o, h1⟩, fun g1 g2 ⟨z, hd, xs, pr, o, arr, ep, q1, q2⟩ k => ⟨z, hd, xs, pr, o, arr, ep, k _ q1, q2⟩⟩
end
def valN (es : List (NestedKey × Addr × V)) (k : NestedKey) : Option V := (es.find? fun e => decide (e.1 = k)).map (·.2.2)
def putN (es : List (NestedKey × Addr × V)) (k : NestedKey) (b : Addr) (v : V) : List (NestedKey × Addr × V) := if (valN es k).isSome then es.map (fun e => if e.1 = k then (e.1, e.2.1, v) else e) else es ++ [(k, b, v)]
def dropN (es : List (NestedKey × Addr × V)) (k : NestedKey) : List (NestedKey × Addr × V) := es.filter fun e => decide (e.1 ≠ k)
theorem NP.val {es : List (NestedKey × Addr × V)} {xs : List (NestedKey × Addr × Value)} (r : NP es xs) (k : NestedKey) : RelO (valN es k) ((atKey xs k).map (·.2)) := by
  induction r with
  | nil => exact True.intro
  | @cons p q ps qs h t ih =>
    unfold valN atKey at ih ⊢
    obtain ⟨h1, h2, h3⟩ := h
    by_cases e : p.1 = k
    · have e' : q.1 = k := h1 ▸ e
      simp only [List.find?_cons, e, e', decide_true, Option.map_some]
      exact h3
    · have e' : ¬ q.1 = k := fun z => e (h1.trans z)
      simp only [List.find?_cons, e, e', decide_false]
      exact ih
theorem NP.put {es : List (NestedKey × Addr × V)} {xs : List (NestedKey × Addr × Value)} (r : NP es xs) (k : NestedKey) {b : Addr} {v : V} {u : Value} (rv : RelV v u) : NP (putN es k b v) (storedH xs k b u) := by
  have hv := (r.val k).isSome_eq
  rw [Option.isSome_map] at hv
  unfold putN storedH
  rw [hv]
  split
  · rename_i hc
    clear hv hc
    induction r with
    | nil => exact .nil
    | @cons p q ps qs h t ih =>
      refine .cons ?_ ih
      obtain ⟨h1, h2, h3⟩ := h
      unfold putAt
      dsimp only
      by_cases e : p.1 = k
      · rw [if_pos e, if_pos (h1 ▸ e)]; exact ⟨h1, h2, rv⟩
      · rw [if_neg e, if_neg (fun z => e (h1.trans z))]; exact ⟨h1, h2, h3⟩
  · rename_i hc
    clear hv hc
    induction r with
    | nil => exact .cons ⟨rfl, rfl, rv⟩ .nil
    | cons h t ih => exact .cons h ih
theorem NP.drop {es : List (NestedKey × Addr × V)} {xs : List (NestedKey × Addr × Value)} (r : NP es xs) (k : NestedKey) : NP (dropN es k) (withoutH xs k) := by
  unfold dropN withoutH
  induction r with
  | nil => exact .nil
  | @cons p q ps qs h t ih =>
    obtain ⟨h1, h2, h3⟩ := h
    by_cases e : p.1 = k
    · rw [List.filter_cons_of_neg (by simpa using e), List.filter_cons_of_neg (by simp [← h1, e])]; exact ih
    · rw [List.filter_cons_of_pos (by simpa using e), List.filter_cons_of_pos (by
        have : ¬ q.1 = k := fun z => e (h1.trans z)
        simpa using this)]
      exact .cons ⟨h1, h2, h3⟩ ih
theorem putN_len (es : List (NestedKey × Addr × V)) (k : NestedKey) (b : Addr) (v : V) : (putN es k b v).length ≤ es.length + 1 := by
  unfold putN
  split <;> simp
/-- the key stands at y -/
structure KeyAt (H : Hp) (k : NK) (y : V) (b : Addr) : Prop where
  y : y = .ref b
  dep : nkDep k ≤ 8
  at_ : NkAt H k (.ref b)
def NGet (w : World) (H : Hp) (a : Addr) (y : V) (r : Option V) : Prop := ∃ es k b, Rd H a (NdO w a es) ∧ EsOk H es ∧ KeyAt H k y b ∧ r = valN es (nk k)
def NPut (w : World) (H : Hp) (a : Addr) (y v : V) (H' : Hp) : Prop := ∃ es k b, H a = some (NdO w a es) ∧ EsOk H es ∧ KeyAt H k y b ∧ es.length < sizeLine ∧ H' = upd H a (NdO w a (putN es (nk k) b v))
section
variable {X : Cx} {pins : List (Addr × Obj)} {σ : L2.St} {H : Hp} {s : Shared} {a : Addr} {y v d : V} {u r : Value} {o : Option V} {A : Around} {E : Value → Shared → Prop}
theorem nd_key (I : Inv X pins σ H s) {k : NK} {b : Addr} (ka : KeyAt H k y b) : (nestedKind X.prog X.w).is s.heap (nk k) b := ⟨nkAt_is I.hok k _ _ ka.at_ rfl, by rw [nk_depth]; exact ka.dep⟩
theorem nroom (hu : A.units + 64 < cLine) : (nestedKind X.prog X.w).room A.in1 := by
  show A.in1.units + 8 < cLine
  have : A.in1.units = A.units + 1 := rfl
  omega
theorem n_getItem {Q : Value → Shared → Prop} (hu : A.units + 64 < cLine) (I : Inv X pins σ H s) (g : NGet X.w H a y (some v)) (ry : RelV y u) (h : ∀ w' s', Inv X pins σ H s' → RelV v w' → Q w' s') : wpAny (model X.prog X.w) A (getItem (.ref a) u) Q E s := by
  obtain ⟨es, k, b, e, ke, ka, l⟩ := g
  obtain rfl := ka.y
  cases (show u = Value.ref b from ry)
  obtain ⟨z, hd, xs, rel, dd⟩ := nd_rd I.hok e ke
  obtain ⟨w', hw, rw'⟩ := RelO.some_of (v := v) (o := (atKey xs (nk k)).map (·.2)) (by rw [l]; exact rel.val (nk k))
  obtain ⟨p, hp, hp2⟩ := Option.map_eq_some_iff.mp hw
  refine wpAny_getItem_heap (nroom hu) (nd_key I ka) dd hp ?_
  rw [hp2]
  exact h w' _ (I.tok _) rw'
theorem n_in {Q : Value → Shared → Prop} (hu : A.units + 64 < cLine) (I : Inv X pins σ H s) (g : NGet X.w H a y o) (ry : RelV y u) (h : ∀ s', Inv X pins σ H s' → Q (.bool o.isSome) s') : wpAny (model X.prog X.w) A (compareOp .In u (.ref a)) Q E s := by
  obtain ⟨es, k, b, e, ke, ka, l⟩ := g
  obtain rfl := ka.y
  cases (show u = Value.ref b from ry)
  obtain ⟨z, hd, xs, rel, dd⟩ := nd_rd I.hok e ke
  refine wpAny_in_heap (nroom hu) (nd_key I ka) hd dd ?_
  have q := (rel.val (nk k)).isSome_eq
  rw [Option.isSome_map] at q
  rw [← q, ← l]
  exact h _ (I.tok _)
theorem n_notIn {Q : Value → Shared → Prop} (hu : A.units + 64 < cLine) (I : Inv X pins σ H s) (g : NGet X.w H a y o) (ry : RelV y u) (h : ∀ s', Inv X pins σ H s' → Q (.bool (!o.isSome)) s') : wpAny (model X.prog X.w) A (compareOp .NotIn u (.ref a)) Q E s := by
  obtain ⟨es, k, b, e, ke, ka, l⟩ := g
  obtain rfl := ka.y
  cases (show u = Value.ref b from ry)
  obtain ⟨z, hd, xs, rel, dd⟩ := nd_rd I.hok e ke
  refine wpAny_notIn_heap (nroom hu) (nd_key I ka) hd dd ?_
  have q := (rel.val (nk k)).isSome_eq
  rw [Option.isSome_map] at q
  rw [← q, ← l]
  exact h _ (I.tok _)
theorem n_setItem {H' : Hp} {Q : Unit → Shared → Prop} (hu : A.units + 64 < cLine) (I : Inv X pins σ H s) (g : NPut X.w H a y v H') (ry : RelV y u) (rv : RelV v r) (h : ∀ s', Inv X pins σ H' s' → Q () s') : wpAny (model X.prog X.w) A (setItem (.ref a) u r) Q E s := by
  obtain ⟨es, k, b, e, ke, ka, l, eH⟩ := g
  obtain rfl := ka.y
  subst eH
  cases (show u = Value.ref b from ry)
  obtain ⟨z, hd, xs, rel, dd⟩ := nd_rd I.hok (.inl e) ke
  have hz : xs.length ≤ sizeLine := by rw [← Paired.length rel]; exact z
  have hl : (putN es (nk k) b v).length ≤ sizeLine := by have := putN_len es (nk k) b v; omega
  refine wpAny_setItem_heap (hsz := hz) (nroom hu) (nd_key I ka) dd fun h' dd' hs => h _ ?_
  have he : ∃ q, h'.get? a = some q := let ⟨q, _, _, hq, _⟩ := dd'; ⟨q, hq⟩
  exact d_write I (by rw [e]; exact True.intro) hs he (nd_ok hl hd (rel.put (nk k) rv) dd')
theorem n_get1 {Q : Value → Shared → Prop} (hu : A.units + 64 < cLine) (I : Inv X pins σ H s) (g : NGet X.w H a y o) (ry : RelV y u) (h : ∀ w' s', Inv X pins σ H s' → RelV (o.getD .non) w' → Q w' s') : wpAny (model X.prog X.w) A (call (.builtin "dict.get") [.ref a, u]) Q E s := by
  obtain ⟨es, k, b, e, ke, ka, l⟩ := g
  obtain rfl := ka.y
  cases (show u = Value.ref b from ry)
  obtain ⟨z, hd, xs, rel, dd⟩ := nd_rd I.hok e ke
  refine call_meetsIn PySem.F.slot_dict_get dd.typeIs PySem.F.entry_dict_get (PySem.F.args_dict_get_2 _ _) (meetsH_dict_get (nestedKind X.prog X.w) a b hd) ⟨nroom hu, nk k, xs, nd_key I ka, dd, h _ _ (I.tok _) ?_⟩
  rw [l]
  exact (rel.val (nk k)).getD rfl
theorem n_get2 {Q : Value → Shared → Prop} (hu : A.units + 64 < cLine) (I : Inv X pins σ H s) (g : NGet X.w H a y o) (ry : RelV y u) (rd : RelV d r) (h : ∀ w' s', Inv X pins σ H s' → RelV (o.getD d) w' → Q w' s') : wpAny (model X.prog X.w) A (call (.builtin "dict.get") [.ref a, u, r]) Q E s := by
  obtain ⟨es, k, b, e, ke, ka, l⟩ := g
  obtain rfl := ka.y
  cases (show u = Value.ref b from ry)
  obtain ⟨z, hd, xs, rel, dd⟩ := nd_rd I.hok e ke
  refine call_meetsIn PySem.F.slot_dict_get dd.typeIs PySem.F.entry_dict_get (PySem.F.args_dict_get_3 _ _ _) (meetsH_dict_get_default (nestedKind X.prog X.w) a b hd r) ⟨nroom hu, nk k, xs, nd_key I ka, dd, h _ _ (I.tok _) ?_⟩
  rw [l]
  exact (rel.val (nk k)).getD rd
/-- d.pop(k), d.pop(k, x): the key there -/
theorem n_pop {more : List Value} {Q : Value → Shared → Prop} {es : List (NestedKey × Addr × V)} {k : NK} {b : Addr} (hu : A.units + 64 < cLine) (I : Inv X pins σ H s) (e : H a = some (NdO X.w a es)) (ke : EsOk H es) (ka : KeyAt H k y b) (ry : RelV y u) (l : valN es (nk k) = some v) (hm : more = [] ∨ ∃ x, more = [x])
    (h : ∀ w' s', Inv X pins σ (upd H a (NdO X.w a (dropN es (nk k)))) s' → RelV v w' → Q w' s') : wpAny (model X.prog X.w) A (call (.builtin "dict.pop") (.ref a :: u :: more)) Q E s := by
  obtain rfl := ka.y
  cases (show u = Value.ref b from ry)
  obtain ⟨z, hd, xs, rel, dd⟩ := nd_rd I.hok (.inl e) ke
  have hz : xs.length ≤ sizeLine := by rw [← Paired.length rel]; exact z
  obtain ⟨w', hw, rw'⟩ := RelO.some_of (v := v) (o := (atKey xs (nk k)).map (·.2)) (by rw [← l]; exact rel.val (nk k))
  obtain ⟨p, hp, hp2⟩ := Option.map_eq_some_iff.mp hw
  have ha : argsOk "dict.pop" ⟨.ref a :: .ref b :: more, []⟩ := by
    rcases hm with rfl | ⟨x, rfl⟩
    · exact PySem.F.args_dict_pop_2 _ _
    · exact PySem.F.args_dict_pop_3 _ _ _
  refine call_pop_heap (hsz := hz) hm ha (nroom hu) (nd_key I ka) hd dd hp fun h' dd' hs => ?_
  rw [hp2]
  have he : ∃ q, h'.get? a = some q := let ⟨q, _, _, hq, _⟩ := dd'; ⟨q, hq⟩
  refine h _ _ (d_write I (by rw [e]; exact True.intro) hs he (nd_ok (Nat.le_trans (List.length_filter_le _ _) z) hd (rel.drop (nk k)) dd')) rw'
theorem n_popD {Q : Value → Shared → Prop} {es : List (NestedKey × Addr × V)} {k : NK} {b : Addr} (hu : A.units + 64 < cLine) (I : Inv X pins σ H s) (e : H a = some (NdO X.w a es)) (ke : EsOk H es) (ka : KeyAt H k y b) (ry : RelV y u) (l : valN es (nk k) = none) 
    (h : ∀ s', Inv X pins σ H s' → Q r s') : wpAny (model X.prog X.w) A (call (.builtin "dict.pop") [.ref a, u, r]) Q E s := by
  obtain rfl := ka.y
  cases (show u = Value.ref b from ry)
  obtain ⟨z, hd, xs, rel, dd⟩ := nd_rd I.hok (.inl e) ke
  have hz : xs.length ≤ sizeLine := by rw [← Paired.length rel]; exact z
  have hn : atKey xs (nk k) = none := by
    have q := (rel.val (nk k)).isSome_eq
    rw [l, Option.isSome_map] at q
    cases e : atKey xs (nk k) with
    | none => rfl
    | some p => rw [e] at q; cases q
  exact call_pop_default_heap (hsz := hz) (nroom hu) (nd_key I ka) hd dd hn fun tk => h _ (I.tok _)
end
end Fn
set_option Elab.async false
set_option linter.all false
set_option maxRecDepth 100000
set_option maxHeartbeats 1000000
namespace Fn
open PySem PySem.Spec PyProof.Rows L2
section
variable {κ : Type} [DecidableEq κ]
def gA (kvs : List (κ × D)) (k : κ) : Option D := (kvs.find? fun kv => decide (kv.1 = k)).map (·.2)
def pA (kvs : List (κ × D)) (k : κ) (v : D) : List (κ × D) := if (kvs.any fun kv => decide (kv.1 = k)) = true then kvs.map (fun kv => if kv.1 = k then (kv.1, v) else kv) else kvs ++ [(k, v)]
def dA (kvs : List (κ × D)) (k : κ) : List (κ × D) := kvs.filter fun kv => decide (kv.1 ≠ k)
end
section
variable {κ κ' : Type} [DecidableEq κ] [DecidableEq κ'] {f : κ → κ'} {G : Gx} {W W' : Wd} {H H' : Hp}
theorem rpA_len : ∀ {kvs : List (κ × D)} {vs : List (κ' × V)}, RpK G W H f kvs vs → vs.length = kvs.length
  | _, _, .nil => rfl
  | _, _, .cons _ t => by simp only [List.length_cons, rpA_len t]
theorem rpA_get (hf : ∀ a b, f a = f b → a = b) (k : κ) : ∀ {kvs : List (κ × D)} {vs : List (κ' × V)}, RpK G W H f kvs vs → (∀ d, gA kvs k = some d → ∃ v, valV vs (f k) = some v ∧ Rp G W H d v) ∧ (gA kvs k = none → valV vs (f k) = none)
  | _, _, .nil => ⟨fun _ e => (by cases e), fun _ => rfl⟩
  | (a, d) :: r, (a', v) :: r', .cons h t => by
    obtain ⟨h1, h2⟩ := h
    have h1 : f a = a' := h1
    subst h1
    obtain ⟨i1, i2⟩ := rpA_get hf k t
    unfold gA valV at i1 i2 ⊢
    by_cases e : a = k
    · subst e
      simp only [List.find?_cons, decide_true, Option.map_some, Option.some.injEq]
      exact ⟨fun d' e => ⟨v, rfl, by subst e; exact h2⟩, fun e => by cases e⟩
    · have e' : ¬ f a = f k := fun z => e (hf _ _ z)
      simp only [List.find?_cons, e, e', decide_false]
      exact ⟨i1, i2⟩
theorem rpA_any (hf : ∀ a b, f a = f b → a = b) (k : κ) : ∀ {kvs : List (κ × D)} {vs : List (κ' × V)}, RpK G W H f kvs vs → (vs.any fun kv => decide (kv.1 = f k)) = kvs.any fun kv => decide (kv.1 = k)
  | _, _, .nil => rfl
  | (a, d) :: r, (a', v) :: r', .cons h t => by
    have h1 : f a = a' := h.1
    subst h1
    simp only [List.any_cons, rpA_any hf k t]
    congr 1
    rw [decide_eq_decide]
    exact ⟨fun z => hf _ _ z, fun z => by rw [z]⟩
theorem rpA_snoc {kvs : List (κ × D)} {vs : List (κ' × V)} {k : κ} {d : D} {v : V} (rv : Rp G W H d v) : RpK G W H f kvs vs → RpK G W H f (kvs ++ [(k, d)]) (vs ++ [(f k, v)]) := fun h => by
  unfold RpK at h ⊢
  induction h with
  | nil => exact .cons ⟨rfl, rv⟩ .nil
  | cons h t ih => exact .cons h ih
theorem rpA_put (hf : ∀ a b, f a = f b → a = b) {k : κ} {d : D} {v : V} (rv : Rp G W H d v) {kvs : List (κ × D)} {vs : List (κ' × V)} (h : RpK G W H f kvs vs) : RpK G W H f (pA kvs k d) (putK vs (f k) v) := by
  unfold pA putK
  rw [rpA_any hf k h]
  split
  · rename_i hc
    clear hc
    unfold RpK at h ⊢
    induction h with
    | nil => exact .nil
    | @cons p q ps qs h t ih =>
      refine .cons ?_ ih
      have h1 : f p.1 = q.1 := h.1
      dsimp only
      by_cases e : p.1 = k
      · rw [if_pos e, if_pos (by rw [← h1, e])]; exact ⟨h1, rv⟩
      · rw [if_neg e, if_neg (fun z => e (hf _ _ (h1.trans z)))]; exact h
  · exact rpA_snoc rv h
theorem rpA_drop (hf : ∀ a b, f a = f b → a = b) {k : κ} {kvs : List (κ × D)} {vs : List (κ' × V)} (h : RpK G W H f kvs vs) : RpK G W H f (dA kvs k) (dropK vs (f k)) := by
  unfold dA dropK
  unfold RpK at h ⊢
  induction h with
  | nil => exact .nil
  | @cons p q ps qs h t ih =>
    have h1 : f p.1 = q.1 := h.1
    by_cases e : p.1 = k
    · rw [List.filter_cons_of_neg (by simpa using e), List.filter_cons_of_neg (by simp [← h1, e])]; exact ih
    · rw [List.filter_cons_of_pos (by simpa using e), List.filter_cons_of_pos (by
        have : ¬ q.1 = f k := fun z => e (hf _ _ (h1.trans z))
        simpa using this)]
      exact .cons h ih
end
theorem kkL_inj : ∀ {a b : List KK}, a.map kk = b.map kk → a = b
  | [], [], _ => rfl
  | [], _ :: _, h => by cases h
  | _ :: _, [], h => by cases h
  | x :: a, y :: b, h => by
    simp only [List.map_cons, List.cons.injEq] at h
    rw [kk_inj h.1, kkL_inj h.2]
def keyK : D → Option KK
  | .int i => some (.inl i)
  | .str x => some (.inr x)
  | _ => none
def keysL : List D → Option (List KK)
  | [] => some []
  | d :: r => match keyK d, keysL r with
    | some a, some b => some (a :: b)
    | _, _ => none
def keyT : D → Option (List KK)
  | .tup (d :: r) => keysL (d :: r)
  | _ => none
mutual
def keyN : D → Option NK
  | .int i => some (.int i)
  | .str x => some (.str x)
  | .non => some .non
  | .tup l => if l.isEmpty = true then none else (keyNL l).map .tup
  | _ => none
def keyNL : List D → Option (List NK)
  | [] => some []
  | d :: r => match keyN d, keyNL r with
    | some a, some b => some (a :: b)
    | _, _ => none
end
/-- a key of a dict whose keys are nested tuples -/
def keyNT : D → Option NK
  | .tup l => match keyN (.tup l) with
    | some k => if nkDep k ≤ 8 then some k else none
    | none => none
  | _ => none
section
variable {G : Gx} {W : Wd} {H : Hp} {M : Mem}
mutual
theorem keyN_ok : ∀ (d : D) (k : NK) (u : V), keyN d = some k → Rp G W H d u → NkAt H k u
  | .int i, k, u, e, r => by cases e; exact r
  | .str x, k, u, e, r => by cases e; exact r
  | .non, k, u, e, r => by cases e; exact r
  | .tup l, k, u, e, r => by
    simp only [keyN] at e
    split at e
    · cases e
    · rename_i hl
      obtain ⟨ks, hk, rfl⟩ := Option.map_eq_some_iff.mp e
      obtain ⟨a, us, e1, s, r1⟩ := r
      rcases s with s | ⟨h, _⟩
      · exact ⟨a, us, e1, s, keyNL_ok l ks us hk r1⟩
      · rw [h] at hl; exact absurd rfl hl
  | .bl _, k, u, e, r => by simp only [keyN, reduceCtorEq] at e
  | .lst _, k, u, e, r => by simp only [keyN, reduceCtorEq] at e
  | .fz _, k, u, e, r => by simp only [keyN, reduceCtorEq] at e
  | .ref _, k, u, e, r => by simp only [keyN, reduceCtorEq] at e
  | .ct _, k, u, e, r => by simp only [keyN, reduceCtorEq] at e
theorem keyNL_ok : ∀ (l : List D) (ks : List NK) (us : List V), keyNL l = some ks → RpL G W H l us → NkAtL H ks us
  | [], ks, us, e, r => by simp only [keyNL, Option.some.injEq] at e; subst e; exact r
  | d :: l, ks, us, e, r => by
    simp only [keyNL] at e
    split at e
    · rename_i a b h1 h2
      cases e
      obtain ⟨u, us', e1, r1, r2⟩ := r
      exact ⟨u, us', e1, keyN_ok d a u h1 r1, keyNL_ok l b us' h2 r2⟩
    · cases e
end
theorem keyNT_ok {d : D} {k : NK} {u : V} (e : keyNT d = some k) (r : Rp G W H d u) : ∃ b, KeyAt H k u b := by
  cases d with
  | tup l =>
    simp only [keyNT] at e
    split at e
    · rename_i k' hk
      split at e
      · rename_i hd
        cases e
        have h := keyN_ok _ _ _ hk r
        obtain ⟨b, us, e1, _⟩ := r
        subst e1
        exact ⟨b, rfl, hd, h⟩
      · cases e
    · cases e
  | _ => cases e
theorem rpN_es : ∀ {kvs : List (NK × D)} {es : List (NestedKey × Addr × V)}, RpN G W H kvs es → EsOk H es
  | _, _, .nil => fun e h => by cases h
  | (k, d) :: r, e' :: t, .cons h q => fun e he => by
    rcases List.mem_cons.mp he with rfl | he
    · exact ⟨k, h.1, h.2.1, h.2.2.1⟩
    · exact rpN_es q e he
theorem rpN_len : ∀ {kvs : List (NK × D)} {vs : List (NestedKey × Addr × V)}, RpN G W H kvs vs → vs.length = kvs.length
  | _, _, .nil => rfl
  | _, _, .cons _ t => by simp only [List.length_cons, rpN_len t]
theorem rpN_get (k : NK) : ∀ {kvs : List (NK × D)} {vs : List (NestedKey × Addr × V)}, RpN G W H kvs vs → (∀ d, gA kvs k = some d → ∃ v, valN vs (nk k) = some v ∧ Rp G W H d v) ∧ (gA kvs k = none → valN vs (nk k) = none)
  | _, _, .nil => ⟨fun _ e => (by cases e), fun _ => rfl⟩
  | (a, d) :: r, (a', b, v) :: r', .cons h t => by
    obtain ⟨h1, _, _, h2⟩ := h
    have h1 : nk a = a' := h1
    subst h1
    obtain ⟨i1, i2⟩ := rpN_get k t
    unfold gA valN at i1 i2 ⊢
    by_cases e : a = k
    · subst e
      simp only [List.find?_cons, decide_true, Option.map_some, Option.some.injEq]
      exact ⟨fun d' e => ⟨v, rfl, by subst e; exact h2⟩, fun e => by cases e⟩
    · have e' : ¬ nk a = nk k := fun z => e (nk_inj _ _ z)
      simp only [List.find?_cons, e, e', decide_false]
      exact ⟨i1, i2⟩
theorem rpN_any {kvs : List (NK × D)} {vs : List (NestedKey × Addr × V)} (h : RpN G W H kvs vs) (k : NK) : (valN vs (nk k)).isSome = kvs.any fun kv => decide (kv.1 = k) := by
  obtain ⟨g1, g2⟩ := rpN_get k h
  have e : (gA kvs k).isSome = kvs.any fun kv => decide (kv.1 = k) := by
    unfold gA
    rw [Option.isSome_map, Bool.eq_iff_iff, List.find?_isSome, List.any_eq_true]
  rw [← e]
  cases q : gA kvs k with
  | none => rw [g2 q]; rfl
  | some d => obtain ⟨v, hv, _⟩ := g1 d q; rw [hv]; rfl
theorem rpN_put {k : NK} {b : Addr} {d : D} {v : V} (hd : nkDep k ≤ 8) (ka : NkAt H k (.ref b)) (rv : Rp G W H d v) {kvs : List (NK × D)} {vs : List (NestedKey × Addr × V)} (h : RpN G W H kvs vs) : RpN G W H (pA kvs k d) (putN vs (nk k) b v) := by
  unfold pA putN
  rw [rpN_any h k]
  split
  · rename_i hc
    clear hc
    unfold RpN at h ⊢
    induction h with
    | nil => exact .nil
    | @cons p q ps qs h t ih =>
      refine .cons ?_ ih
      obtain ⟨h1, h2, h3, h4⟩ := h
      dsimp only
      by_cases e : p.1 = k
      · rw [if_pos e, if_pos (by rw [← h1, e])]; exact ⟨h1, h2, h3, rv⟩
      · rw [if_neg e, if_neg (fun z => e (nk_inj _ _ (h1.trans z)))]; exact ⟨h1, h2, h3, h4⟩
  · rename_i hc
    clear hc
    unfold RpN at h ⊢
    induction h with
    | nil => exact .cons ⟨rfl, hd, ka, rv⟩ .nil
    | cons h t ih => exact .cons h ih
theorem rpN_drop {k : NK} {kvs : List (NK × D)} {vs : List (NestedKey × Addr × V)} (h : RpN G W H kvs vs) : RpN G W H (dA kvs k) (dropN vs (nk k)) := by
  unfold dA dropN
  unfold RpN at h ⊢
  induction h with
  | nil => exact .nil
  | @cons p q ps qs h t ih =>
    have h1 : nk p.1 = q.1 := h.1
    by_cases e : p.1 = k
    · rw [List.filter_cons_of_neg (by simpa using e), List.filter_cons_of_neg (by simp [← h1, e])]; exact ih
    · rw [List.filter_cons_of_pos (by simpa using e), List.filter_cons_of_pos (by
        have : ¬ q.1 = nk k := fun z => e (nk_inj _ _ (h1.trans z))
        simpa using this)]
      exact .cons h ih
theorem RpN.fut (m : MemOk G W H M) {W' : Wd} {H' : Hp} (f : Fut W H W' H') {kvs : List (NK × D)} {es : List (NestedKey × Addr × V)} (h : RpN G W H kvs es) : RpN G W' H' kvs es := h.kp (f.kp m)
theorem dn_at {i : Nat} {a : Addr} {lk : Bool} {kvs : List (NK × D)} (h : CellOk G W H a (.dn lk kvs)) : ∃ es, Rd H a (NdO G.w a es) ∧ RpN G W H kvs es := by
  obtain ⟨vs, h1, h2⟩ := h
  refine ⟨vs, ?_, h2⟩
  cases lk
  · exact .inl h1
  · exact .inr h1
/-- a dict of any kind is read -/
def GetD (w : World) (H : Hp) (a : Addr) (y : V) (r : Option V) : Prop := DGet H a y r ∨ NGet w H a y r
def PutD (w : World) (H : Hp) (a : Addr) (y v : V) (H' : Hp) : Prop := DPut H a y v H' ∨ NPut w H a y v H'
theorem keyK_ok {d : D} {k : KK} {u : V} (e : keyK d = some k) (r : Rp G W H d u) : u = kV (kk k) := by
  cases d <;> cases e <;> exact r
theorem keysL_ok : ∀ {l : List D} {ks : List KK} {us : List V}, keysL l = some ks → RpL G W H l us → us = (ks.map kk).map kV
  | [], ks, us, e, r => by cases e; exact r
  | d :: l, ks, us, e, r => by
    simp only [keysL] at e
    split at e
    · rename_i a b h1 h2
      cases e
      obtain ⟨u, us', e1, r1, r2⟩ := r
      rw [e1, keyK_ok h1 r1, keysL_ok h2 r2]
      rfl
    · cases e
theorem keyT_ok {d : D} {ks : List KK} {u : V} (e : keyT d = some ks) (r : Rp G W H d u) : ∃ b, u = .ref b ∧ H b = some (.tup ((ks.map kk).map kV)) := by
  cases d with
  | tup l =>
    cases l with
    | nil => cases e
    | cons d l =>
      obtain ⟨a, us, e1, s, r1⟩ := r
      have := keysL_ok (show keysL (d :: l) = some ks from e) r1
      subst this
      rcases s with s | ⟨h, _⟩
      · exact ⟨a, e1, s⟩
      · cases h
  | _ => cases e
/-- what the dict holds there; none outside: no dict, no key -/
def dFind (M : Mem) (d k : D) : Option (Option D) := match d with
  | .ref i => match M[i]? with
    | some (.dk _ kvs) => (keyK k).map (gA kvs)
    | some (.dt _ kvs) => (keyT k).map (gA kvs)
    | some (.dn _ kvs) => (keyNT k).map (gA kvs)
    | _ => none
  | _ => none
theorem dk_at {i : Nat} {a : Addr} {lk : Bool} {kvs : List (KK × D)} (h : CellOk G W H a (.dk lk kvs)) : ∃ vs, Rd H a (.dK vs) ∧ RpK G W H kk kvs vs := by
  obtain ⟨vs, h1, h2⟩ := h
  refine ⟨vs, ?_, h2⟩
  cases lk
  · exact .inl h1
  · exact .inr h1
theorem dt_at {i : Nat} {a : Addr} {lk : Bool} {kvs : List (List KK × D)} (h : CellOk G W H a (.dt lk kvs)) : ∃ vs, Rd H a (.dT vs) ∧ RpK G W H (List.map kk) kvs vs := by
  obtain ⟨vs, h1, h2⟩ := h
  refine ⟨vs, ?_, h2⟩
  cases lk
  · exact .inl h1
  · exact .inr h1
theorem dFind_ok (m : MemOk G W H M) {d k : D} {x y : V} (rd : Rp G W H d x) (rk : Rp G W H k y) {o : Option D} (e : dFind M d k = some o) :
    ∃ a ov, x = .ref a ∧ GetD G.w H a y ov ∧ ov.isSome = o.isSome ∧ ∀ v, o = some v → ∃ w, ov = some w ∧ Rp G W H v w := by
  cases d with
  | ref i =>
    obtain ⟨a, ha, hx⟩ := rd
    simp only [dFind] at e
    split at e
    · rename_i lk kvs hc
      obtain ⟨k', hk, rfl⟩ := Option.map_eq_some_iff.mp e
      obtain ⟨vs, h1, h2⟩ := dk_at (i := i) (m.cell _ _ a hc ha)
      have hy := keyK_ok hk rk
      obtain ⟨g1, g2⟩ := rpA_get (fun _ _ => kk_inj) k' h2
      refine ⟨a, valV vs (kk k'), hx, .inl (.inl ⟨vs, kk k', h1, hy, rfl⟩), ?_, fun v hv => g1 v hv⟩
      cases hq : gA kvs k' with
      | none => rw [g2 hq]; rfl
      | some d => obtain ⟨w, hw, _⟩ := g1 d hq; rw [hw]; rfl
    · rename_i lk kvs hc
      obtain ⟨k', hk, rfl⟩ := Option.map_eq_some_iff.mp e
      obtain ⟨vs, h1, h2⟩ := dt_at (i := i) (m.cell _ _ a hc ha)
      obtain ⟨b, hy, hb⟩ := keyT_ok hk rk
      obtain ⟨g1, g2⟩ := rpA_get (fun _ _ => kkL_inj) k' h2
      refine ⟨a, valV vs (k'.map kk), hx, .inl (.inr ⟨vs, k'.map kk, b, h1, hy, hb, rfl⟩), ?_, fun v hv => g1 v hv⟩
      cases hq : gA kvs k' with
      | none => rw [g2 hq]; rfl
      | some d => obtain ⟨w, hw, _⟩ := g1 d hq; rw [hw]; rfl
    · rename_i lk kvs hc
      obtain ⟨k', hk, rfl⟩ := Option.map_eq_some_iff.mp e
      obtain ⟨vs, h1, h2⟩ := dn_at (i := i) (m.cell _ _ a hc ha)
      obtain ⟨b, ka⟩ := keyNT_ok hk rk
      obtain ⟨g1, g2⟩ := rpN_get k' h2
      refine ⟨a, valN vs (nk k'), hx, .inr ⟨vs, k', b, h1, rpN_es h2, ka, rfl⟩, ?_, fun v hv => g1 v hv⟩
      cases hq : gA kvs k' with
      | none => rw [g2 hq]; rfl
      | some d => obtain ⟨w, hw, _⟩ := g1 d hq; rw [hw]; rfl
    · cases e
  | _ => cases e
/-- the memory behind d[k] = v -/
def dPut (M : Mem) (d k v : D) : Option Mem := match d with
  | .ref i => match M[i]? with
    | some (.dk false kvs) => match keyK k with
      | some k' => if kvs.length < 16777216 then some (M.set i (.dk false (pA kvs k' v))) else none
      | none => none
    | some (.dt false kvs) => match keyT k with
      | some k' => if kvs.length < 16777216 then some (M.set i (.dt false (pA kvs k' v))) else none
      | none => none
    | some (.dn false kvs) => match keyNT k with
      | some k' => if kvs.length < 16777216 then some (M.set i (.dn false (pA kvs k' v))) else none
      | none => none
    | _ => none
  | _ => none
theorem dPut_ok (m : MemOk G W H M) {d k v : D} {x y u : V} (rd : Rp G W H d x) (rk : Rp G W H k y) (rv : Rp G W H v u) {M' : Mem} (e : dPut M d k v = some M') :
    ∃ a H', x = .ref a ∧ PutD G.w H a y u H' ∧ Fut W H W H' ∧ MemOk G W H' M' := by
  cases d with
  | ref i =>
    obtain ⟨a, ha, hx⟩ := rd
    simp only [dPut] at e
    split at e
    · rename_i kvs hc
      split at e
      · rename_i k' hk
        split at e
        · rename_i hl
          cases e
          obtain ⟨vs, h1, h2⟩ := m.cell _ _ a hc ha
          have h1 : H a = some (.dK vs) := h1
          have f := Fut.wrote (W := W) (H := H) (o := .dK (putK vs (kk k') u)) ha h1 trivial
          refine ⟨a, _, hx, .inl (.inl ⟨vs, kk k', h1, keyK_ok hk rk, by rw [rpA_len h2, line_eq]; exact hl, rfl⟩), f, m.wrote ha ⟨_, upd_same, rpA_put (fun _ _ => kk_inj) (m.rp f rv) (h2.fut m f)⟩⟩
        · cases e
      · cases e
    · rename_i kvs hc
      split at e
      · rename_i k' hk
        split at e
        · rename_i hl
          cases e
          obtain ⟨vs, h1, h2⟩ := m.cell _ _ a hc ha
          have h1 : H a = some (.dT vs) := h1
          obtain ⟨b, hy, hb⟩ := keyT_ok hk rk
          have f := Fut.wrote (W := W) (H := H) (o := .dT (putK vs (k'.map kk) u)) ha h1 trivial
          refine ⟨a, _, hx, .inl (.inr ⟨vs, k'.map kk, b, h1, hy, hb, by rw [rpA_len h2, line_eq]; exact hl, rfl⟩), f, m.wrote ha ⟨_, upd_same, rpA_put (fun _ _ => kkL_inj) (m.rp f rv) (h2.fut m f)⟩⟩
        · cases e
      · cases e
    · rename_i kvs hc
      split at e
      · rename_i k' hk
        split at e
        · rename_i hl
          cases e
          obtain ⟨vs, h1, h2⟩ := m.cell _ _ a hc ha
          have h1 : H a = some (NdO G.w a vs) := h1
          obtain ⟨b, ka⟩ := keyNT_ok hk rk
          have f := Fut.wrote (W := W) (H := H) (o := NdO G.w a (putN vs (nk k') b u)) ha h1 trivial
          refine ⟨a, _, hx, .inr ⟨vs, k', b, h1, rpN_es h2, ka, by rw [rpN_len h2, line_eq]; exact hl, rfl⟩, f, m.wrote ha ⟨_, upd_same, ?_⟩⟩
          have q := h2.fut m f
          exact rpN_put ka.dep (NkAt.kp (f.kp m) _ _ ka.at_) (m.rp f rv) q
        · cases e
      · cases e
    · cases e
  | _ => cases e
end
end Fn
set_option Elab.async false
set_option linter.all false
set_option maxRecDepth 100000
set_option maxHeartbeats 1000000
namespace Fn
open PySem PySem.Spec PyProof.Rows L2
section
variable {X : Cx} {G : Gx} {cl : Nat → Addr} {E : XK} {W : Wd} {H : Hp} {M : Mem} {a b c : Expr} {fa fb fc : FE} {pos : Pos}
def rGetD (w : World) : R2 := fun x y H Q => ∃ a v, x = .ref a ∧ GetD w H a y (some v) ∧ Q v H
theorem nd_typeIs {pins : List (Addr × Obj)} {σ : L2.St} {H : Hp} {s : Shared} {a : Addr} {es : List (NestedKey × Addr × V)} (I : Inv X pins σ H s) (g : Rd H a (NdO X.w a es)) : s.TypeIs (.ref a) "dict" := by
  obtain ⟨⟨z, hd, xs, pr, o, arr, ep, h1, h2, _⟩, _, _⟩ := (show ObjOk X.prog X.w H s.heap a (NdO X.w a es) from g.ok I.hok)
  exact ⟨o, h1, h2.1⟩
theorem getD_typeIs {pins : List (Addr × Obj)} {σ : L2.St} {H : Hp} {s : Shared} {a : Addr} {y : V} {o : Option V} (I : Inv X pins σ H s) (g : GetD X.w H a y o) : s.TypeIs (.ref a) "dict" := by
  rcases g with g | ⟨es, k, b, g, _⟩
  · exact dict_typeIs I g
  · exact nd_typeIs I g
theorem ix_dict (hu : X.A.units + 64 < cLine) : IxR X (rGetD X.w) := by
  intro value slice pins s σ H x y v u Q I rx ry h hs
  obtain ⟨a, w, ex, g, q⟩ := h
  subst ex
  obtain rfl : v = Value.ref a := rx
  refine tail_any (getD_typeIs I g) PySem.F.slot_dict_getitem.lookup ?_ hs
  rcases g with g | g
  · exact d_getItem (by omega) I g ry fun w' s3 I3 rw' => ⟨w, H, I3, rw', q⟩
  · exact n_getItem (by omega) I g ry fun w' s3 I3 rw' => ⟨w, H, I3, rw', q⟩
def oIxA (a b : D) (M : Mem) : R D := match dFind M a b with
  | some (some v) => .ok v M
  | some none => .no
  | none => oIx a b M
theorem op2_ixA : Op2 G E (fun x y H Q => rIx G.K x y H Q ∨ rGetD G.w x y H Q) oIxA := fun W H M a b u v Q m ra rb p => by
  unfold oIxA at p
  split at p
  · rename_i w e
    obtain ⟨a1, ov, ex, g, _, k⟩ := dFind_ok m ra rb e
    obtain ⟨z, hz, rz⟩ := k w rfl
    subst hz
    exact .inr ⟨a1, z, ex, g, p.here m _ rz⟩
  · exact p.elim
  · exact .inl (op2_ix W H M a b u v Q m ra rb p)
theorem sn_ixA (hu : X.A.units + 64 < cLine) (ha : PE X a (tE ⟨X.K, cl, X.w⟩ E fa)) (hb : PE X b (tE ⟨X.K, cl, X.w⟩ E fb)) (hs : PlainIx b := by intro _ _; rfl) : PE X (.Subscript a b pos) (tE ⟨X.K, cl, X.w⟩ E (mOp oIxA fa fb)) :=
  pe_imp (pe_ix (ix_seq.or (ix_dict hu)) ha hb hs) (tE_op op2_ixA)
def rInK (w : World) (neg : Bool) : R2 := fun y x H Q => ∃ a o, x = .ref a ∧ GetD w H a y o ∧ Q (.bl (neg != o.isSome)) H
theorem op_inK (hu : X.A.units + 64 < cLine) : OpR X (compareOp .In) (rInK X.w false) := by
  intro pins s σ H y x u v Q I ry rx h
  obtain ⟨a, o, ex, g, q⟩ := h
  subst ex
  obtain rfl : v = Value.ref a := rx
  rcases g with g | g
  · exact d_in (by omega) I g ry fun s' I' => ⟨.bl o.isSome, H, I', rfl, by simpa using q⟩
  · exact n_in (by omega) I g ry fun s' I' => ⟨.bl o.isSome, H, I', rfl, by simpa using q⟩
theorem op_notInK (hu : X.A.units + 64 < cLine) : OpR X (compareOp .NotIn) (rInK X.w true) := by
  intro pins s σ H y x u v Q I ry rx h
  obtain ⟨a, o, ex, g, q⟩ := h
  subst ex
  obtain rfl : v = Value.ref a := rx
  rcases g with g | g
  · exact d_notIn (by omega) I g ry fun s' I' => ⟨.bl (!o.isSome), H, I', rfl, by simpa using q⟩
  · exact n_notIn (by omega) I g ry fun s' I' => ⟨.bl (!o.isSome), H, I', rfl, by simpa using q⟩
def oInA (neg : Bool) (k d : D) (M : Mem) : R D := match dFind M d k with
  | some o => .ok (.bl (neg != o.isSome)) M
  | none => match d with
    | .str _ => oInS neg k d M
    | _ => oInD neg k d M
theorem op2_inA0 {neg : Bool} {r : R2} (hs : Op2 G E r (oInS neg)) : Op2 G E (fun x y H Q => (r x y H Q ∨ rInP G.K neg x y H Q) ∨ rInK G.w neg x y H Q) (oInA neg) := fun W H M a b u v Q m ra rb p => by
  unfold oInA at p
  split at p
  · rename_i o e
    obtain ⟨a1, ov, ex, g, hi, _⟩ := dFind_ok m rb ra e
    exact .inr ⟨a1, ov, ex, g, by rw [hi]; exact p.here m _ rfl⟩
  · split at p
    · exact .inl (.inl (hs W H M _ _ u v Q m ra rb p))
    · exact .inl (.inr (op2_inD W H M a b u v Q m ra rb p))
theorem op_inA (hu : X.A.units + 64 < cLine) : OpR X (compareOp .In) (fun x y H Q => ((∃ (c : Nat) (z : Str), x = .str ⟨#[c]⟩ ∧ y = .str z ∧ Q (.bl (decide (c ∈ z.cps.toList))) H) ∨ rInP X.K false x y H Q) ∨ rInK X.w false x y H Q) := (op_in_sign.or (op_inP hu)).or (op_inK hu)
theorem op_notInA (hu : X.A.units + 64 < cLine) : OpR X (compareOp .NotIn) (fun x y H Q => ((∃ (c : Nat) (z : Str), x = .str ⟨#[c]⟩ ∧ y = .str z ∧ Q (.bl (!decide (c ∈ z.cps.toList))) H) ∨ rInP X.K true x y H Q) ∨ rInK X.w true x y H Q) := (op_notIn_sign.or (op_notInP hu)).or (op_notInK hu)
theorem op2_inA : Op2 G E (fun x y H Q => ((∃ (c : Nat) (z : Str), x = .str ⟨#[c]⟩ ∧ y = .str z ∧ Q (.bl (decide (c ∈ z.cps.toList))) H) ∨ rInP G.K false x y H Q) ∨ rInK G.w false x y H Q) (oInA false) := op2_inA0 op2_inS
theorem op2_notInA : Op2 G E (fun x y H Q => ((∃ (c : Nat) (z : Str), x = .str ⟨#[c]⟩ ∧ y = .str z ∧ Q (.bl (!decide (c ∈ z.cps.toList))) H) ∨ rInP G.K true x y H Q) ∨ rInK G.w true x y H Q) (oInA true) := op2_inA0 op2_notInS
theorem sn_inA (hu : X.A.units + 64 < cLine) (ha : PE X a (tE ⟨X.K, cl, X.w⟩ E fa)) (hb : PE X b (tE ⟨X.K, cl, X.w⟩ E fb)) (hm : behindInMarks .In b = false := by rfl) : PE X (.Compare a [.In] [b] pos) (tE ⟨X.K, cl, X.w⟩ E (mOp (oInA false) fa fb)) := sn_cmp (op_inA hu) op2_inA hm ha hb
def rSetD (w : World) : V → V → V → Hp → (Hp → Prop) → Prop := fun o i v H Q => ∃ a H', o = .ref a ∧ PutD w H a i v H' ∧ Q H'
theorem set_dict (hu : X.A.units + 64 < cLine) : PSet X (rSetD X.w) := fun pins s σ H o i v ov iv u Q I ro ri rv h => by
  obtain ⟨a, H', eo, g, q⟩ := h
  subst eo
  obtain rfl : ov = Value.ref a := ro
  rcases g with g | g
  · exact d_setItem (by omega) I g ri rv fun s' I' => ⟨H', I', q⟩
  · exact n_setItem (by omega) I g ri rv fun s' I' => ⟨H', I', q⟩
theorem set_any (hu : X.A.units + 64 < cLine) : PSet X (fun o i v H Q => rSetL o i v H Q ∨ rSetD X.w o i v H Q) := fun pins s σ H o i v ov iv u Q I ro ri rv h => by
  rcases h with h | h
  · exact set_list pins s σ H o i v ov iv u Q I ro ri rv h
  · exact set_dict hu pins s σ H o i v ov iv u Q I ro ri rv h
/-- the memory behind x[i] = v of a list -/
def lPut (M : Mem) (o i d : D) : Option Mem := match o, i with
  | .ref j, .int k => match M[j]? with
    | some (.lst l) => match ixN l.length k with
      | some n => some (M.set j (.lst (l.set n d)))
      | none => none
    | _ => none
  | _, _ => none
def sPut (M : Mem) (o i d : D) : Option Mem := match dPut M o i d with
  | some m => some m
  | none => lPut M o i d
theorem sPut_ok (m : MemOk G W H M) {d k v : D} {x y u : V} (rd : Rp G W H d x) (rk : Rp G W H k y) (rv : Rp G W H v u) {M' : Mem} (e : sPut M d k v = some M') :
    ∃ H', Fut W H W H' ∧ MemOk G W H' M' ∧ ∀ Q : Hp → Prop, Q H' → rSetL x y u H Q ∨ rSetD G.w x y u H Q := by
  unfold sPut at e
  split at e
  · rename_i m' e'
    cases e
    obtain ⟨a, H', e1, e2, f, k⟩ := dPut_ok m rd rk rv e'
    exact ⟨H', f, k, fun Q q => .inr ⟨a, H', e1, e2, q⟩⟩
  · unfold lPut at e
    split at e
    · rename_i j n
      split at e
      · rename_i l hc
        split at e
        · rename_i p hn
          cases e
          obtain ⟨a1, e1, e2⟩ := rd
          subst e2; cases rk
          obtain ⟨us, h1, h2⟩ := m.cell _ _ a1 hc e1
          have f := Fut.wrote (W := W) (H := H) (o := .lst (us.set p u)) e1 h1 trivial
          exact ⟨_, f, m.wrote e1 ⟨_, upd_same, m.rpL f (h2.set p rv)⟩, fun Q q => .inl ⟨a1, us, _, p, rfl, rfl, h1, by rw [h2.len]; exact hn, q⟩⟩
        · cases e
      · cases e
    · cases e
def gIxA (fo fi : FE) : FG := fun d env M => (fo env M).bind fun o m => (fi env m).bind fun i m' => match sPut m' o i d with
  | some m2 => .ok env m2
  | none => .no
theorem sg_ixA {sl : List Nat} (hu : X.A.units + 64 < cLine) (ha : PE X a (tE ⟨X.K, cl, X.w⟩ E fa)) (hb : PE X b (tE ⟨X.K, cl, X.w⟩ E fb)) (hs : ∀ v, assign (.Subscript a b pos) X.env v = (do
      let ov ← holding [v] (eval a X.env)
      let iv ← holding [v, ov] (eval b X.env)
      standAt pos
      holding [v, ov, iv] (setItem ov iv v)
      release [v, ov, iv] []) := by intro _; rfl) : PG X (.Subscript a b pos) (tGt ⟨X.K, cl, X.w⟩ E sl (gIxA fa fb)) := pg_imp (pg_sub ha hb (set_any hu) hs) fun v σ H Q ⟨W, env, M, d, s, r, p⟩ => by
  refine tE.bind s p fun o m W1 H1 u1 f1 s1 r1 p1 => ?_
  refine tE.bind s1 p1 fun i m2 W2 H2 u2 f2 s2 r2 p2 => ?_
  split at p2
  · rename_i m3 e
    obtain ⟨H', f, k, q⟩ := sPut_ok s2.mem (s1.mem.rp f2 r1) r2 (s1.mem.rp f2 (s.mem.rp f1 r)) e
    exact q _ (p2 W2 H' f k _ (s2.env.fut s2.mem f) rfl)
  · exact p2.elim
def rGetL (K : PySem.W.Frag) : R2 := fun x y H Q => ∃ p xs i v, x = .ref p ∧ y = .int i ∧ SqL K H p xs ∧ L2.atI xs i = some v ∧ Q v H
theorem get_any (hu : X.A.units + 64 < cLine) : PGet X (fun x y H Q => rGetL X.K x y H Q ∨ rGetD X.w x y H Q) := fun pins s σ H x y v u Q I rx ry h => by
  rcases h with h | h
  · obtain ⟨p, xs, i, z, rfl, rfl, hq, he, q⟩ := h
    cases rx
    obtain ⟨t, rfl⟩ := ry
    obtain ⟨its, r, pl, hz⟩ := I.list hq
    obtain ⟨j, h1, h2, h3, h4, h5⟩ := atI_get he
    obtain ⟨w, ew, rw'⟩ := r.get h2
    have hl := r.length
    have hn := line63
    by_cases h0 : 0 ≤ i
    · have hj : i.toNat = j := by
        rw [seqIndex_of h0 h5] at h1
        exact Option.some.inj h1
      exact wpAny_getItem_list pl.isList h0 (by omega) (by rw [hj]; simpa using ew) ⟨z, H, I, rw', q⟩
    · have hj : (i + (its.toArray.size : Int)).toNat = j := by
        rw [seqIndex_neg (by omega) h4] at h1
        rw [List.size_toArray, ← hl]
        exact Option.some.inj h1
      exact wpAny_getItem_list_neg pl.isList (by omega) (by rw [List.size_toArray] <;> omega) (by omega) (by rw [hj]; simpa using ew) ⟨z, H, I, rw', q⟩
  · obtain ⟨a, w, ex, g, q⟩ := h
    subst ex
    obtain rfl : v = Value.ref a := rx
    rcases g with g | g
    · exact d_getItem (by omega) I g ry fun w' s3 I3 rw' => ⟨w, H, I3, rw', q⟩
    · exact n_getItem (by omega) I g ry fun w' s3 I3 rw' => ⟨w, H, I3, rw', q⟩
def lGet (M : Mem) (o i : D) : Option D := match dFind M o i with
  | some (some v) => some v
  | some none => none
  | none => match o, i with
    | .ref j, .int k => match M[j]? with
      | some (.lst l) => L2.atI l k
      | _ => none
    | _, _ => none
theorem lGet_ok (m : MemOk G W H M) {d k : D} {x y : V} (rd : Rp G W H d x) (rk : Rp G W H k y) {v : D} (e : lGet M d k = some v) : ∃ w, Rp G W H v w ∧ ∀ Q : VK, Q w H → rGetL G.K x y H Q ∨ rGetD G.w x y H Q := by
  unfold lGet at e
  split at e
  · rename_i w e'
    cases e
    obtain ⟨a1, ov, ex, g, _, k⟩ := dFind_ok m rd rk e'
    obtain ⟨z, hz, rz⟩ := k v rfl
    subst hz
    exact ⟨z, rz, fun Q q => .inr ⟨a1, z, ex, g, q⟩⟩
  · cases e
  · split at e
    · rename_i j n
      split at e
      · rename_i l hc
        obtain ⟨a1, e1, e2⟩ := rd
        subst e2; cases rk
        obtain ⟨us, h1, h2⟩ := m.cell _ _ a1 hc e1
        obtain ⟨w, h4, h5⟩ := h2.atI e
        exact ⟨w, h5, fun Q q => .inl ⟨a1, us, _, w, rfl, rfl, .inl (.inl h1), h4, q⟩⟩
      · cases e
    · cases e
def mAugIx (o : D → D → Mem → R D) (fo fi fe : FE) : FS := fun env M => (fo env M).bind fun a m => (fi env m).bind fun i m1 => match lGet m1 a i with
  | some x => (fe env m1).bind fun y m2 => (o x y m2).bind fun z m3 => match sPut m3 a i z with
    | some m4 => .ok (.nx env) m4
    | none => .no
  | none => .no
theorem ss_augIx {op : Operator} {ti : TIp} {o : D → D → Mem → R D} {tpos : Pos} (hi2 : Ip2 ⟨X.K, cl, X.w⟩ E ti o) (hop : PIp X op ti) (hu : X.A.units + 64 < cLine) (ha : PE X a (tE ⟨X.K, cl, X.w⟩ E fa)) (hb : PE X b (tE ⟨X.K, cl, X.w⟩ E fb)) (he : PE X c (tE ⟨X.K, cl, X.w⟩ E fc))
    (hst : ∀ ov iv new, augStore b ov iv new = (do holding [new, ov, iv] (setItem ov iv new); release [new, ov, iv] []; pure .next) := by intros; rfl) : PS X (.AugAssign (.Subscript a b tpos) op c pos) (tS ⟨X.K, cl, X.w⟩ E (mAugIx o fa fb fc)) :=
  ps_imp (ps_augS ha hb (get_any hu) he hop (set_any hu) hst) fun D σ H ⟨W, env, M, s, p⟩ => by
  refine tE.bind s p fun d m W1 H1 u1 f1 s1 r1 p1 => ?_
  refine tE.bind s1 p1 fun i m2 W2 H2 u2 f2 s2 r2 p2 => ?_
  split at p2
  · rename_i x e
    have r1' := s1.mem.rp f2 r1
    obtain ⟨w, rw_, k⟩ := lGet_ok s2.mem r1' r2 e
    refine k _ ?_
    refine tE.bind s2 p2 fun y m3 W3 H3 u3 f3 s3 r3 p3 => ?_
    refine hi2 W3 H3 m3 x y w u3 _ s3.mem (s2.mem.rp f3 rw_) r3 (PR.bind p3 fun z m4 W4 H4 f4 k4 p4 => fun v rv => ?_)
    split at p4
    · rename_i m5 e5
      obtain ⟨H', f, k5, q⟩ := sPut_ok k4 (s3.mem.rp f4 (s2.mem.rp f3 r1')) (s3.mem.rp f4 (s2.mem.rp f3 r2)) rv e5
      exact q _ (p4 W4 H' f k5 _ (( s3.env.fut s3.mem f4).fut k4 f))
    · exact p4.elim
  · exact p2.elim
end
end Fn
set_option Elab.async false
set_option linter.all false
set_option maxRecDepth 100000
set_option maxHeartbeats 1000000
namespace Fn
open PySem PySem.Spec PyProof.Rows L2 L2.DX
section
variable {X : Cx} {G : Gx} {cl : Nat → Addr} {E : XK} {W : Wd} {H : Hp} {M : Mem} {a b c : Expr} {fa fb fc : FE} {pos : Pos}
def mDNewK : FE := fun _ M => .ok (.ref M.length) (M ++ [.dk false []])
def mDNewT : FE := fun _ M => .ok (.ref M.length) (M ++ [.dt false []])
theorem sn_dnewK : PE X (.Dict [] [] pos) (tE G E mDNewK) := pe_imp pe_dnewK fun σ H Q ⟨W, env, M, s, p⟩ q hq =>
  p ⟨W.as ++ [q], W.hd⟩ _ (Fut.added s.mem hq) (s.mem.added hq ⟨[], upd_same, .nil⟩) _ ⟨q, by rw [← s.mem.len]; simp, rfl⟩
theorem sn_dnewT : PE X (.Dict [] [] pos) (tE G E mDNewT) := pe_imp pe_dnewT fun σ H Q ⟨W, env, M, s, p⟩ q hq =>
  p ⟨W.as ++ [q], W.hd⟩ _ (Fut.added s.mem hq) (s.mem.added hq ⟨[], upd_same, .nil⟩) _ ⟨q, by rw [← s.mem.len]; simp, rfl⟩
def dLen (M : Mem) : D → Option Nat
  | .ref i => match M[i]? with
    | some (.dk false kvs) => some kvs.length
    | some (.dt false kvs) => some kvs.length
    | some (.dn false kvs) => some kvs.length
    | _ => none
  | _ => none
def rLenN (w : World) : List V → Hp → VK → Prop := fun xs H Q => ∃ a es, xs = [V.ref a] ∧ H a = some (NdO w a es) ∧ EsOk H es ∧ Q (.int es.length) H
theorem call_lenN : CallR X (.builtin "len") (rLenN X.w) := by
  intro pins s σ H vs us Q I r h
  obtain ⟨a, es, rfl, e, ke, q⟩ := h
  obtain ⟨u, rfl, rx⟩ := vals1 r
  obtain rfl : u = .ref a := rx
  obtain ⟨z, hd, xs, pr, dd⟩ := nd_rd I.hok (.inl e) ke
  have hl : es.length = xs.length := Paired.length pr
  refine call_len_dictH hd dd (by rw [← hl]; rw [sizeLine_eq] at z; omega) ?_
  rw [← hl]
  exact ⟨.int ((es.length : Nat) : Int), H, I.tok _, ⟨_, rfl⟩, q⟩
def rLenD (w : World) : List V → Hp → VK → Prop := fun xs H Q => ((∃ a kvs, xs = [V.ref a] ∧ H a = some (.dK kvs) ∧ Q (.int kvs.length) H) ∨ rLenT xs H Q) ∨ rLenN w xs H Q
theorem call_lenDD : CallR X (.builtin "len") (rLenD X.w) := (call_lenD.or call_len_dT).or call_lenN
theorem dLen_ok (m : MemOk G W H M) {d : D} {x : V} (rd : Rp G W H d x) {n : Nat} (e : dLen M d = some n) (Q : VK) (q : Q (.int n) H) : rLenD G.w [x] H Q := by
  cases d with
  | ref i =>
    obtain ⟨a, ha, hx⟩ := rd
    subst hx
    simp only [dLen] at e
    split at e
    · rename_i kvs hc
      cases e
      obtain ⟨vs, h1, h2⟩ := m.cell _ _ a hc ha
      exact .inl (.inl ⟨a, vs, rfl, h1, by rw [rpA_len h2]; exact q⟩)
    · rename_i kvs hc
      cases e
      obtain ⟨vs, h1, h2⟩ := m.cell _ _ a hc ha
      exact .inl (.inr ⟨a, vs, rfl, h1, by rw [rpA_len h2]; exact q⟩)
    · rename_i kvs hc
      cases e
      obtain ⟨vs, h1, h2⟩ := m.cell _ _ a hc ha
      exact .inr ⟨a, vs, rfl, h1, rpN_es h2, by rw [rpN_len h2]; exact q⟩
    · cases e
  | _ => cases e
def oLenA (ds : List D) (M : Mem) : R D := match ds with
  | [d] => match dLen M d with
    | some n => .ok (.int n) M
    | none => oLen [d] M
  | _ => .no
theorem fn_lenA : Fn1 G E (fun xs H Q => ((∃ p ys, xs = [.ref p] ∧ (SqL G.K H p ys ∨ SqT G.K H p ys) ∧ Q (.int ys.length) H) ∨ ∃ z : Str, xs = [.str z] ∧ z.length ≤ sizeLine ∧ Q (.int z.length) H) ∨ rLenD G.w xs H Q) oLenA := fun W H M ds us Q m r p => by
  match ds, r, p with
  | [d], r, p =>
    simp only [oLenA] at p
    split at p
    · rename_i n e
      obtain ⟨u, us', e1, r1, r2⟩ := r
      have : us' = [] := r2
      subst this e1
      exact .inr (dLen_ok m r1 e Q (p.here m _ rfl))
    · exact .inl (fn_len W H M [d] us Q m r p)
  | [], r, p => exact p.elim
  | _ :: _ :: _, r, p => exact p.elim
theorem call_lenAA : CallR X (.builtin "len") (fun xs H Q => ((∃ p ys, xs = [.ref p] ∧ (SqL X.K H p ys ∨ SqT X.K H p ys) ∧ Q (.int ys.length) H) ∨ ∃ z : Str, xs = [.str z] ∧ z.length ≤ sizeLine ∧ Q (.int z.length) H) ∨ rLenD X.w xs H Q) := call_lenA.or call_lenDD
def rGetM (w : World) : V → List V → Hp → VK → Prop := fun x vs H Q => (∃ a y o, x = .ref a ∧ vs = [y] ∧ GetD w H a y o ∧ Q (o.getD .non) H) ∨ ∃ a y d o, x = .ref a ∧ vs = [y, d] ∧ GetD w H a y o ∧ Q (o.getD d) H
theorem mt_dget (hu : X.A.units + 64 < cLine) : MtR X "dict.get" (rGetM X.w) := by
  intro pins s σ H x xs v us Q I rx rxs h
  rcases h with ⟨a, y, o, rfl, rfl, g, q⟩ | ⟨a, y, d, o, rfl, rfl, g, q⟩
  · obtain ⟨u, rfl, ru⟩ := vals1 rxs
    obtain rfl : v = Value.ref a := rx
    rcases g with g | g
    · exact d_get1 (by omega) I g ru fun w' s' I' rw' => ⟨_, H, I', rw', q⟩
    · exact n_get1 (by omega) I g ru fun w' s' I' rw' => ⟨_, H, I', rw', q⟩
  · obtain ⟨u1, u2, rfl, r1, r2⟩ := vals2 rxs
    obtain rfl : v = Value.ref a := rx
    rcases g with g | g
    · exact d_get2 (by omega) I g r1 r2 fun w' s' I' rw' => ⟨_, H, I', rw', q⟩
    · exact n_get2 (by omega) I g r1 r2 fun w' s' I' rw' => ⟨_, H, I', rw', q⟩
def oGetM (d : D) (ks : List D) (M : Mem) : R D := match ks with
  | [k] => match dFind M d k with
    | some (some v) => .ok v M
    | some none => .ok .non M
    | none => .no
  | [k, z] => match dFind M d k with
    | some (some v) => .ok v M
    | some none => .ok z M
    | none => .no
  | _ => .no
theorem mt1_dget : Mt1 G E (rGetM G.w) oGetM := fun W H M a u ds us Q m ra r p => by
  unfold oGetM at p
  split at p
  · rename_i k
    obtain ⟨v, us', e1, r1, r2⟩ := r
    have : us' = [] := r2
    subst this e1
    split at p
    · rename_i w e
      obtain ⟨a1, ov, ex, g, _, kk⟩ := dFind_ok m ra r1 e
      obtain ⟨z, hz, rz⟩ := kk w rfl
      subst hz
      exact .inl ⟨a1, v, _, ex, rfl, g, p.here m _ rz⟩
    · rename_i e
      obtain ⟨a1, ov, ex, g, hi, _⟩ := dFind_ok m ra r1 e
      cases ov with
      | none => exact .inl ⟨a1, v, _, ex, rfl, g, p.here m _ rfl⟩
      | some z => cases hi
    · exact p.elim
  · rename_i k z
    obtain ⟨v, us', e1, r1, v2, us2, e2, r2, r3⟩ := r
    have : us2 = [] := r3
    subst this e2 e1
    split at p
    · rename_i w e
      obtain ⟨a1, ov, ex, g, _, kk⟩ := dFind_ok m ra r1 e
      obtain ⟨z, hz, rz⟩ := kk w rfl
      subst hz
      exact .inr ⟨a1, v, v2, _, ex, rfl, g, p.here m _ rz⟩
    · rename_i e
      obtain ⟨a1, ov, ex, g, hi, _⟩ := dFind_ok m ra r1 e
      cases ov with
      | none => exact .inr ⟨a1, v, v2, _, ex, rfl, g, p.here m _ r2⟩
      | some z => cases hi
    · exact p.elim
  · exact p.elim
def rPopK : V → List V → Hp → VK → Prop := fun x vs H Q => ∃ a kvs k more, x = .ref a ∧ vs = kV k :: more ∧ H a = some (.dK kvs) ∧ ((∃ v, (more = [] ∨ ∃ z, more = [z]) ∧ valV kvs k = some v ∧ Q v (upd H a (.dK (dropK kvs k)))) ∨ ∃ z, more = [z] ∧ valV kvs k = none ∧ Q z H)
theorem mt_popK : MtR X "dict.pop" rPopK := by
  intro pins s σ H x xs v us Q I rx rxs h
  obtain ⟨a, kvs, k, more, rfl, rfl, ha, h⟩ := h
  obtain rfl : v = Value.ref a := rx
  cases rxs with
  | cons ru rm =>
    rcases h with ⟨w, hm, hv, q⟩ | ⟨z, rfl, hv, q⟩
    · refine d_pop I ha ru hv ?_ fun w' s' I' rw' => ⟨w, _, I', rw', q⟩
      rcases hm with rfl | ⟨z, rfl⟩
      · cases rm; exact .inl rfl
      · obtain ⟨u2, rfl, _⟩ := vals1 rm; exact .inr ⟨u2, rfl⟩
    · obtain ⟨u2, rfl, r2⟩ := vals1 rm
      exact d_popD I ha ru hv fun s' I' => ⟨z, H, I', r2, q⟩
theorem mt_popD (hu : X.A.units + 64 < cLine) : MtR X "dict.pop" (fun x xs H Q => rPopK x xs H Q ∨ rPopT x xs H Q) := mt_popK.or (mt_popT (by omega))
def oPopD (d : D) (ks : List D) (M : Mem) : R D := match d, ks with
  | .ref i, k :: more => match M[i]? with
    | some (.dk false kvs) => match keyK k with
      | some k' => match gA kvs k', more with
        | some v, [] => .ok v (M.set i (.dk false (dA kvs k')))
        | some v, [_] => .ok v (M.set i (.dk false (dA kvs k')))
        | none, [z] => .ok z M
        | _, _ => .no
      | none => .no
    | some (.dt false kvs) => match keyT k, more with
      | some k', [z] => match gA kvs k' with
        | some v => .ok v (M.set i (.dt false (dA kvs k')))
        | none => .ok z M
      | _, _ => .no
    | _ => .no
  | _, _ => .no
theorem mt1_popD : Mt1 G E (fun x xs H Q => rPopK x xs H Q ∨ rPopT x xs H Q) oPopD := fun W H M a u ds us Q m ra r p => by
  unfold oPopD at p
  split at p
  · rename_i i k more
    obtain ⟨a1, ha, hx⟩ := ra
    subst hx
    obtain ⟨v, us', e1, r1, r2⟩ := r
    subst e1
    split at p
    · rename_i kvs hc
      obtain ⟨vs, h1, h2⟩ := m.cell _ _ a1 hc ha
      have h1 : H a1 = some (.dK vs) := h1
      split at p
      · rename_i k' hk
        obtain ⟨g1, g2⟩ := rpA_get (fun _ _ => kk_inj) k' h2
        have hv := keyK_ok hk r1
        subst hv
        have f := Fut.wrote (W := W) (H := H) (o := .dK (dropK vs (kk k'))) ha h1 trivial
        have mk := m.wrote ha (o := .dK (dropK vs (kk k'))) (c := .dk false (dA kvs k')) ⟨_, upd_same, rpA_drop (fun _ _ => kk_inj) (h2.fut m f)⟩
        split at p
        · rename_i w hw
          obtain ⟨z, hz, rz⟩ := g1 w hw
          have : us' = [] := r2
          subst this
          exact .inl ⟨a1, vs, kk k', [], rfl, rfl, h1, .inl ⟨z, .inl rfl, hz, p W _ f mk _ (m.rp f rz)⟩⟩
        · rename_i w y hw
          obtain ⟨z, hz, rz⟩ := g1 w hw
          obtain ⟨v2, us2, e2, r3, r4⟩ := r2
          have : us2 = [] := r4
          subst this e2
          exact .inl ⟨a1, vs, kk k', [v2], rfl, rfl, h1, .inl ⟨z, .inr ⟨v2, rfl⟩, hz, p W _ f mk _ (m.rp f rz)⟩⟩
        · rename_i y hw
          obtain ⟨v2, us2, e2, r3, r4⟩ := r2
          have : us2 = [] := r4
          subst this e2
          exact .inl ⟨a1, vs, kk k', [v2], rfl, rfl, h1, .inr ⟨v2, rfl, g2 hw, p.here m _ r3⟩⟩
        · exact p.elim
      · exact p.elim
    · rename_i kvs hc
      obtain ⟨vs, h1, h2⟩ := m.cell _ _ a1 hc ha
      have h1 : H a1 = some (.dT vs) := h1
      split at p
      · rename_i k' y hk
        obtain ⟨g1, g2⟩ := rpA_get (fun _ _ => kkL_inj) k' h2
        obtain ⟨b, hv, hb⟩ := keyT_ok hk r1
        subst hv
        obtain ⟨v2, us2, e2, r3, r4⟩ := r2
        have : us2 = [] := r4
        subst this e2
        have f := Fut.wrote (W := W) (H := H) (o := .dT (dropK vs (k'.map kk))) ha h1 trivial
        have mk := m.wrote ha (o := .dT (dropK vs (k'.map kk))) (c := .dt false (dA kvs k')) ⟨_, upd_same, rpA_drop (fun _ _ => kkL_inj) (h2.fut m f)⟩
        refine .inr ⟨a1, vs, k'.map kk, b, v2, rfl, rfl, h1, hb, fun w hw => ?_, fun hw => ?_⟩
        · split at p
          · rename_i w' hw'
            obtain ⟨z, hz, rz⟩ := g1 w' hw'
            rw [hz] at hw; cases hw
            exact p W _ f mk _ (m.rp f rz)
          · rename_i hn
            rw [g2 hn] at hw; cases hw
        · split at p
          · rename_i w' hw'
            obtain ⟨z, hz, rz⟩ := g1 w' hw'
            rw [hz] at hw; cases hw
          · exact p.here m _ r3
      · exact p.elim
    · exact p.elim
  · exact p.elim
end
end Fn
set_option Elab.async false
set_option linter.all false
set_option maxRecDepth 100000
set_option maxHeartbeats 1000000
namespace Fn
open PySem PySem.Spec PyProof.Rows L2
section
variable {X : Cx} {G : Gx} {cl : Nat → Addr} {E : XK} {W : Wd} {H : Hp} {M : Mem} {a b c : Expr} {fa fb fc : FE} {pos : Pos}
def unlk {α : Type} (i : Nat) (r : R α) : R α := match r with
  | .ok x m => match m[i]? with
    | some (.dk true kvs) => .ok x (m.set i (.dk false kvs))
    | some (.dt true kvs) => .ok x (m.set i (.dt false kvs))
    | some (.dn true kvs) => .ok x (m.set i (.dn false kvs))
    | _ => .no
  | _ => .no
def lockIn {α : Type} (fd : FE) (f : Env → Mem → R α) : Env → Mem → R α := fun env M => match fd env M with
  | .ok (.ref i) _ => match M[i]? with
    | some (.dk false kvs) => unlk i (f env (M.set i (.dk true kvs)))
    | some (.dt false kvs) => unlk i (f env (M.set i (.dt true kvs)))
    | some (.dn false kvs) => unlk i (f env (M.set i (.dn true kvs)))
    | _ => f env M
  | _ => f env M
def mLockE (fd : FE) (f : FE) : FE := lockIn fd f
theorem rpK_kp {W' : Wd} {H' : Hp} (k : Kp W H W' H') {κ κ' : Type} {f : κ → κ'} {kvs : List (κ × D)} {vs : List (κ' × V)} (r : RpK G W H f kvs vs) : RpK G W' H' f kvs vs := Paired.mapP r fun _ _ z => ⟨z.1, Rp.kp k _ _ z.2⟩
theorem unlk_run {α : Type} {K K' : α → Mem → Wd → Hp → Prop} {i : Nat} {a1 : Addr} {u : HO} {od : Obj} {c1 : Cell} {r : R α} (m : MemOk G W H M) (ha : W.as[i]? = some a1) (h1 : H a1 = some u) (hn : Nf u)
    (hK : ∀ x m' W' H', Kp W' H' W' (upd H' a1 u) → H' a1 = some (.frz od u) → K x m' W' (upd H' a1 u) → ∀ m0, K' x m0 W' H')
    (hc : (∃ vs, u = .dK vs) ∨ (∃ vs, u = .dT vs) ∨ ∃ vs, u = NdO G.w a1 vs) (p : PR G W H K E (unlk i r)) : PR G W (upd H a1 (.frz od u)) K' E r := by
  cases r with
  | ex c fs m' => exact p.elim
  | no => exact p.elim
  | ok x m' =>
    intro W' H' f2 k
    have hl : H' a1 = some (.frz od u) := f2.lk a1 od u upd_same
    have ha' : W'.as[i]? = some a1 := f2.get ha
    have f1 : Fut W H W (upd H a1 (.frz od u)) := Fut.wrote ha h1 hn
    have ff := f1.trans f2
    have hk : Kp W' H' W' (upd H' a1 u) := Kp.wrote k ha'
    have fut : Fut W H W' (upd H' a1 u) := ⟨ff.ext, ff.hd, fun b o e hb => by rw [upd_ne (fun z => hb (by rw [z]; exact List.mem_of_getElem? ha))]; exact ff.keep b o e hb, fun b o w e => by
      rw [upd_ne (fun z => by rw [z, h1] at e; cases e; exact hn)]; exact ff.lk b o w e⟩
    simp only [unlk] at p
    split at p
    · rename_i kvs' hc'
      obtain ⟨vs', ⟨o', q1⟩, q2⟩ := k.cell _ _ a1 hc' ha'
      rw [hl] at q1
      cases q1
      exact hK x _ W' H' hk hl (p W' _ fut (k.wrote ha' ⟨vs', upd_same, rpK_kp hk q2⟩)) m'
    · rename_i kvs' hc'
      obtain ⟨vs', ⟨o', q1⟩, q2⟩ := k.cell _ _ a1 hc' ha'
      rw [hl] at q1
      cases q1
      exact hK x _ W' H' hk hl (p W' _ fut (k.wrote ha' ⟨vs', upd_same, rpK_kp hk q2⟩)) m'
    · rename_i kvs' hc'
      obtain ⟨vs', ⟨o', q1⟩, q2⟩ := k.cell _ _ a1 hc' ha'
      rw [hl] at q1
      cases q1
      exact hK x _ W' H' hk hl (p W' _ fut (k.wrote ha' ⟨vs', upd_same, q2.kp hk⟩)) m'
    · exact p.elim
theorem sn_lock {e : Expr} {f : FE} (fd : FE) (h : PE X e (tE G E f)) : PE X e (tE G E (mLockE fd f)) := by
  have h2 : PE X e (fun σ H Q => tE G E f σ H Q ∨ tLockE (tE G E f) σ H Q) := ⟨fun pins s' σ H D I q => q.elim (h.run pins s' σ H D I) ((pe_lock h).run pins s' σ H D I)⟩
  refine pe_imp h2 fun σ H Q ⟨W, env, M, s1, p⟩ => ?_
  unfold mLockE lockIn at p
  have hi : ∀ {i : Nat} {c : Cell}, M[i]? = some c → ∃ a1, W.as[i]? = some a1 := fun {i c} hc => by
    have : i < W.as.length := by rw [s1.mem.len]; exact (List.getElem?_eq_some_iff.mp hc).1
    exact ⟨_, List.getElem?_eq_getElem this⟩
  have hK : ∀ {a1 : Addr} {u : HO} {od : Obj} (x : D) (m' : Mem) (W' : Wd) (H' : Hp), Kp W' H' W' (upd H' a1 u) → H' a1 = some (.frz od u) → PV G Q x m' W' (upd H' a1 u) → ∀ m0, PV G (fun v H' => H' a1 = some (.frz od u) ∧ Q v (upd H' a1 u)) x m0 W' H' :=
    fun x m' W' H' hk hl q m0 => fun v rv => ⟨hl, q v (Rp.kp hk _ _ rv)⟩
  split at p
  · rename_i i m0 hfd
    split at p
    · rename_i kvs hc
      obtain ⟨a1, ha⟩ := hi hc
      obtain ⟨vs, q1, q2⟩ := s1.mem.cell _ _ a1 hc ha
      have q1 : H a1 = some (.dK vs) := q1
      refine .inr ⟨a1, .dK vs, q1, True.intro, fun od => ?_⟩
      have f1 : Fut W H W (upd H a1 (.frz od (.dK vs))) := Fut.wrote ha q1 trivial
      exact ⟨W, env, M.set i (.dk true kvs), s1.fut f1 (s1.mem.wrote ha ⟨vs, ⟨od, upd_same⟩, q2.fut s1.mem f1⟩), unlk_run (c1 := .dk true kvs) s1.mem ha q1 trivial hK (.inl ⟨vs, rfl⟩) p⟩
    · rename_i kvs hc
      obtain ⟨a1, ha⟩ := hi hc
      obtain ⟨vs, q1, q2⟩ := s1.mem.cell _ _ a1 hc ha
      have q1 : H a1 = some (.dT vs) := q1
      refine .inr ⟨a1, .dT vs, q1, True.intro, fun od => ?_⟩
      have f1 : Fut W H W (upd H a1 (.frz od (.dT vs))) := Fut.wrote ha q1 trivial
      exact ⟨W, env, M.set i (.dt true kvs), s1.fut f1 (s1.mem.wrote ha ⟨vs, ⟨od, upd_same⟩, q2.fut s1.mem f1⟩), unlk_run (c1 := .dt true kvs) s1.mem ha q1 trivial hK (.inr (.inl ⟨vs, rfl⟩)) p⟩
    · rename_i kvs hc
      obtain ⟨a1, ha⟩ := hi hc
      obtain ⟨vs, q1, q2⟩ := s1.mem.cell _ _ a1 hc ha
      have q1 : H a1 = some (NdO G.w a1 vs) := q1
      refine .inr ⟨a1, NdO G.w a1 vs, q1, True.intro, fun od => ?_⟩
      have f1 : Fut W H W (upd H a1 (.frz od (NdO G.w a1 vs))) := Fut.wrote ha q1 trivial
      exact ⟨W, env, M.set i (.dn true kvs), s1.fut f1 (s1.mem.wrote ha ⟨vs, ⟨od, upd_same⟩, q2.fut s1.mem f1⟩), unlk_run (c1 := .dn true kvs) s1.mem ha q1 trivial hK (.inr (.inr ⟨vs, rfl⟩)) p⟩
    · exact .inl ⟨W, env, M, s1, p⟩
  · exact .inl ⟨W, env, M, s1, p⟩
def keyD : KK → D
  | .inl i => .int i
  | .inr x => .str x
theorem keyD_rp (k : KK) : Rp G W H (keyD k) (kV (kk k)) := by cases k <;> rfl
theorem keysD_rp : ∀ (ks : List KK), RpL G W H (ks.map keyD) ((ks.map kk).map kV)
  | [] => rfl
  | k :: r => ⟨_, _, rfl, keyD_rp k, keysD_rp r⟩
theorem rpA_at {κ κ' : Type} {f : κ → κ'} : ∀ {kvs : List (κ × D)} {vs : List (κ' × V)} {i : Nat} {k : κ} {d : D}, RpK G W H f kvs vs → kvs[i]? = some (k, d) → ∃ v, vs[i]? = some (f k, v) ∧ Rp G W H d v
  | _, _, i, k, d, .nil, e => by simp at e
  | _, _, 0, k, d, .cons (a := p) (b := q) h t, e => by
    simp only [List.getElem?_cons_zero, Option.some.injEq] at e
    subst e
    refine ⟨q.2, ?_, h.2⟩
    have h1 : f k = q.1 := h.1
    simp [h1]
  | _, _, i + 1, k, d, .cons h t, e => by
    simp only [List.getElem?_cons_succ] at e ⊢
    exact rpA_at t e
theorem map_at {α : Type} {F : α → D} {l : List α} {i : Nat} {d : D} (e : (l.map F)[i]? = some d) : ∃ x, l[i]? = some x ∧ d = F x := by
  rw [List.getElem?_map] at e
  cases q : l[i]? with
  | none => rw [q] at e; cases e
  | some x => rw [q] at e; cases e; exact ⟨x, rfl, rfl⟩
theorem src_items {a1 : Addr} {o : Obj} {kvs : List (KK × D)} {vs : List (Key × V)} (h : H a1 = some (.frz o (.dK vs))) (r : RpK G W H kk kvs vs) : SrcOk G W H ⟨kvs.map fun kv => .tup [keyD kv.1, kv.2], fun _ => True⟩ (Iti a1 o vs) where
  item := fun W2 H2 M2 f lk m _ i d e => by
    obtain ⟨kv, hk, rfl⟩ := map_at e
    obtain ⟨v, hv, rv⟩ := rpA_at r hk
    refine ⟨⟨lk _ _ _ h, (List.getElem?_eq_some_iff.mp hv).1⟩, fun x H' y => ?_⟩
    obtain ⟨T, k', v', e1, rfl, hT, rfl⟩ := y
    rw [hv] at e1; cases e1
    have ft : Fut W2 H2 W2 (upd H2 T (.tup [kV (kk kv.1), v])) := Fut.laid hT
    exact ⟨ft, m.laid hT, T, _, rfl, .inl upd_same, _, _, rfl, keyD_rp _, _, _, rfl, m.rp ft (Rp.kp f _ _ rv), rfl⟩
  stop := fun W2 H2 M2 f lk m _ => ⟨lk _ _ _ h, by rw [List.length_map, rpA_len r]; exact Nat.le_refl _⟩
end
end Fn
set_option Elab.async false
set_option linter.all false
set_option maxRecDepth 100000
set_option maxHeartbeats 1000000
namespace Fn
open PySem PySem.Spec PyProof.Rows L2
end Fn
set_option Elab.async false
set_option linter.all false
set_option maxRecDepth 100000
set_option maxHeartbeats 1000000
namespace Fn
open PySem PySem.Spec PyProof.Rows L2
end Fn
set_option Elab.async false
set_option linter.all false
set_option maxRecDepth 100000
set_option maxHeartbeats 1000000
namespace Fn
open PySem PySem.Spec PyProof.Rows L2 L2.DX
section
variable {X : Cx} {G : Gx} {cl : Nat → Addr} {E : XK} {W : Wd} {H : Hp} {M : Mem} {a b c : Expr} {fa fb fc : FE} {pos : Pos}
theorem pop1_meets {prog : Program} {w : World} {κ : Type} [DecidableEq κ] {knd : HeapKind prog w κ} {d b : Addr} {k : κ} (hd : (d == sysModules) = false) :
    MeetsIn prog w (Builtin.«dict.pop» ⟨[.ref d, .ref b], []⟩) (fun A R s => ∃ xs p, knd.room A.in1 ∧ knd.is s.heap k b ∧ s.heap.DictOfH knd d xs ∧ xs.length ≤ sizeLine ∧ atKey xs k = some p ∧
      ∀ h' tk, h'.DictOfH knd d (DT.dropH xs k) → Heap.SameBut d s.heap h' → R (.ok (.ret p.2)) { s with heap := h', toks := tk }) :=
  .of_wp fun A R s ⟨xs, p, hu, hkey, hm, hsz, hat, hsome⟩ => by
    obtain ⟨o, es, ep, ho, hc, hdat, he, his, hn⟩ := id hm
    have hes : es.size = xs.length := size_of_entries he
    have hp0 : (keyPart (Value.ref b)).isSome = false := rfl
    unfold Builtin.«dict.pop»; refine wpAny_bind ?_; unfold Builtin.Dict.keyAndDefault
    refine wpAny_bind (wpAny_notOrdered_dict hm.typeIs ?_); show wpAny _ _ (pure (d, Value.ref b, none)) _ _ s
    refine wpAny_pure ?_; simp only [hp0, Bool.false_eq_true, if_false]
    refine wpAny_bind (wpAny_dictEntries ho hdat (wpAny_bind (wpAny_pure ?_)))
    cases hem : es.isEmpty with
    | true =>
      have z : es.size = 0 := by simpa using hem
      have h0 : xs = [] := List.length_eq_zero_iff.mp (by omega)
      rw [h0] at hat; cases hat
    | false =>
      simp only [Bool.false_eq_true, if_false]
      refine wpAny_bind (DT.takeH hu hkey hm hsz (fun hno => ?_) fun p' e hp hev h' hm' hs' => ?_)
      · rw [hno] at hat; cases hat
      · rw [hp] at hat; cases hat
        simp only [Option.isNone_some, Bool.false_eq_true, if_false]; exact wpAny_bind (wpAny_letGo (wpAny_pure ⟨e.val, rfl, by rw [hev]; exact hsome h' _ hm' hs'⟩))
def rPopT1 : V → List V → Hp → VK → Prop := fun x xs H Q => ∃ (a : Addr) (kvs : List (List L2.Key × V)) (k : List L2.Key) (b : Addr) (v : V), x = .ref a ∧ xs = [.ref b] ∧ H a = some (.dT kvs) ∧ H b = some (.tup (k.map kV)) ∧ valV kvs k = some v ∧ Q v (upd H a (.dT (dropK kvs k)))
theorem mt_popT1 (hu : X.A.units + 64 < cLine) : MtR X "dict.pop" rPopT1 := by
  intro pins s σ H x xs v us Q I rx rxs h
  obtain ⟨a, kvs, k, b, v0, rfl, rfl, ha, hb, hv, q1⟩ := h
  cases rx
  obtain ⟨u1, rfl, r1⟩ := vals1 rxs
  cases r1
  obtain ⟨z, hd, xs', rel, dd⟩ := dt_of I.hok ha
  have r := rel.val k
  rw [hv] at r
  obtain ⟨p, hp⟩ : ∃ p, atKey xs' k = some p := by
    cases e : atKey xs' k with
    | some p => exact ⟨p, rfl⟩
    | none => rw [e] at r; exact (show False from r).elim
  rw [hp] at r
  refine call_meetsIn PySem.F.slot_dict_pop dd.typeIs PySem.F.entry_dict_pop (PySem.F.args_dict_pop_2 _ _) (pop1_meets (knd := tupleKind (mixKind X.prog X.w)) (k := k) hd)
    ⟨xs', p, tupleKind_room_in1 (by omega), key_of I.hok hb, dd, by rw [← Paired.length rel]; exact z, hp, fun h' tk dd' hs => ?_⟩
  obtain ⟨o, es, ep, hq, h2, h3, h4, _, h5⟩ := dd'
  have I2 : Inv X pins σ (upd H a (.dT (dropK kvs k))) { s with heap := h', toks := tk } := d_write I (by rw [ha]; exact True.intro) hs ⟨o, hq⟩
    ⟨Nat.le_trans (dropK_le kvs k) z, hd, _, (KT_drop k rel).keeps (fun c ys ec => (by rw [upd_ne (ne_of ec ha (fun z => nomatch z))]; exact ec)), o, es, ep, hq, h2, h3, h4, h5⟩
  exact ⟨v0, _, I2, r, q1⟩
def popT (d : D) (ks : List D) (M : Mem) : Option (D × Mem) := match d, ks with
  | .ref i, [k] => match M[i]? with
    | some (.dt false kvs) => match keyT k with
      | some k' => match gA kvs k' with
        | some v => some (v, M.set i (.dt false (dA kvs k')))
        | none => none
      | none => none
    | _ => none
  | _, _ => none
def rPopN (w : World) : V → List V → Hp → VK → Prop := fun x vs H Q => ∃ a es k b y more, x = .ref a ∧ vs = y :: more ∧ H a = some (NdO w a es) ∧ EsOk H es ∧ KeyAt H k y b ∧ ((∃ v, (more = [] ∨ ∃ z, more = [z]) ∧ valN es (nk k) = some v ∧ Q v (upd H a (NdO w a (dropN es (nk k))))) ∨ ∃ z, more = [z] ∧ valN es (nk k) = none ∧ Q z H)
theorem mt_popN (hu : X.A.units + 64 < cLine) : MtR X "dict.pop" (rPopN X.w) := by
  intro pins s σ H x xs v us Q I rx rxs h
  obtain ⟨a, es, k, b, y, more, rfl, rfl, ha, ke, ka, h⟩ := h
  obtain rfl : v = Value.ref a := rx
  cases rxs with
  | cons ru rm =>
    rcases h with ⟨w, hm, hv, q⟩ | ⟨z, rfl, hv, q⟩
    · refine n_pop hu I ha ke ka ru hv ?_ fun w' s' I' rw' => ⟨w, _, I', rw', q⟩
      rcases hm with rfl | ⟨z, rfl⟩
      · cases rm; exact .inl rfl
      · obtain ⟨u2, rfl, _⟩ := vals1 rm; exact .inr ⟨u2, rfl⟩
    · obtain ⟨u2, rfl, r2⟩ := vals1 rm
      exact n_popD hu I ha ke ka ru hv fun s' I' => ⟨z, H, I', r2, q⟩
def popN (d : D) (ks : List D) (M : Mem) : Option (D × Mem) := match d, ks with
  | .ref i, k :: more => match M[i]? with
    | some (.dn false kvs) => match keyNT k with
      | some k' => match gA kvs k', more with
        | some v, [] => some (v, M.set i (.dn false (dA kvs k')))
        | some v, [_] => some (v, M.set i (.dn false (dA kvs k')))
        | none, [z] => some (z, M)
        | _, _ => none
      | none => none
    | _ => none
  | _, _ => none
def oPopE (d : D) (ks : List D) (M : Mem) : R D := match popT d ks M with
  | some (v, m) => .ok v m
  | none => match popN d ks M with
    | some (v, m) => .ok v m
    | none => oPopD d ks M
def rPopE (w : World) : V → List V → Hp → VK → Prop := fun x xs H Q => ((rPopK x xs H Q ∨ rPopT x xs H Q) ∨ rPopT1 x xs H Q) ∨ rPopN w x xs H Q
theorem mt_popE (hu : X.A.units + 64 < cLine) : MtR X "dict.pop" (rPopE X.w) := ((mt_popD hu).or (mt_popT1 hu)).or (mt_popN hu)
theorem mt1_popE : Mt1 G E (rPopE G.w) oPopE := fun W H M a u ds us Q m ra r p => by
  unfold oPopE at p
  split at p
  · rename_i v0 m0 e
    unfold popT at e
    split at e
    · rename_i i k
      obtain ⟨a1, ha, hx⟩ := ra
      subst hx
      obtain ⟨v, us', e1, r1, r2⟩ := r
      have : us' = [] := r2
      subst this e1
      split at e
      · rename_i kvs hc
        obtain ⟨vs, h1, h2⟩ := m.cell _ _ a1 hc ha
        have h1 : H a1 = some (.dT vs) := h1
        split at e
        · rename_i k' hk
          split at e
          · rename_i w hw
            cases e
            obtain ⟨b, hv, hb⟩ := keyT_ok hk r1
            subst hv
            obtain ⟨z, hz, rz⟩ := (rpA_get (fun _ _ => kkL_inj) k' h2).1 _ hw
            have f := Fut.wrote (W := W) (H := H) (o := .dT (dropK vs (k'.map kk))) ha h1 trivial
            have mk := m.wrote ha (o := .dT (dropK vs (k'.map kk))) (c := .dt false (dA kvs k')) ⟨_, upd_same, rpA_drop (fun _ _ => kkL_inj) (h2.fut m f)⟩
            exact .inl (.inr ⟨a1, vs, k'.map kk, b, z, rfl, rfl, h1, hb, hz, p W _ f mk _ (m.rp f rz)⟩)
          · cases e
        · cases e
      · cases e
    · cases e
  · split at p
    · rename_i v0 m0 e
      unfold popN at e
      split at e
      · rename_i i k more
        obtain ⟨a1, ha, hx⟩ := ra
        subst hx
        obtain ⟨v, us', e1, r1, r2⟩ := r
        subst e1
        split at e
        · rename_i kvs hc
          obtain ⟨vs, h1, h2⟩ := m.cell _ _ a1 hc ha
          have h1 : H a1 = some (NdO G.w a1 vs) := h1
          split at e
          · rename_i k' hk
            obtain ⟨b, ka⟩ := keyNT_ok hk r1
            obtain ⟨g1, g2⟩ := rpN_get k' h2
            have f := Fut.wrote (W := W) (H := H) (o := NdO G.w a1 (dropN vs (nk k'))) ha h1 trivial
            have mk := m.wrote ha (o := NdO G.w a1 (dropN vs (nk k'))) (c := .dn false (dA kvs k')) ⟨_, upd_same, rpN_drop (h2.fut m f)⟩
            split at e
            · rename_i w hw
              cases e
              obtain ⟨z, hz, rz⟩ := g1 _ hw
              have : us' = [] := r2
              subst this
              exact .inr ⟨a1, vs, k', b, v, [], rfl, rfl, h1, rpN_es h2, ka, .inl ⟨z, .inl rfl, hz, p W _ f mk _ (m.rp f rz)⟩⟩
            · rename_i w y hw
              cases e
              obtain ⟨z, hz, rz⟩ := g1 _ hw
              obtain ⟨v2, us2, e2, r3, r4⟩ := r2
              have : us2 = [] := r4
              subst this e2
              exact .inr ⟨a1, vs, k', b, v, [v2], rfl, rfl, h1, rpN_es h2, ka, .inl ⟨z, .inr ⟨v2, rfl⟩, hz, p W _ f mk _ (m.rp f rz)⟩⟩
            · rename_i y hw
              cases e
              obtain ⟨v2, us2, e2, r3, r4⟩ := r2
              have : us2 = [] := r4
              subst this e2
              exact .inr ⟨a1, vs, k', b, v, [v2], rfl, rfl, h1, rpN_es h2, ka, .inr ⟨v2, rfl, g2 hw, p.here m _ r3⟩⟩
            · cases e
          · cases e
        · cases e
      · cases e
    · exact .inl (.inl (mt1_popD W H M a u ds us Q m ra r p))
end
end Fn
set_option Elab.async false
set_option linter.all false
set_option maxRecDepth 100000
set_option maxHeartbeats 1000000
namespace Fn
open PySem PySem.Spec PyProof.Rows L2 L2.DX
section
variable {X : Cx} {pins : List (Addr × Obj)} {σ : L2.St} {H : Hp} {s : Shared} {d : Addr} {o : Obj}
/-- an entry of a locked dict with tuple keys: its key, its value -/
theorem frzT_at {kvs : List (List Key × V)} (I : Inv X pins σ H s) (h : H d = some (.frz o (.dT kvs))) {es : Array DictEntry} {ep : Nat} (hdt : o.data = .dict es ep) {i : Nat} {k : List Key} {v : V} (e : kvs[i]? = some (k, v)) :
    ∃ (en : DictEntry) (q : Addr), es[i]? = some en ∧ en.key = .ref q ∧ H q = some (.tup (k.map kV)) ∧ RelV v en.val := by
  obtain ⟨hd, z, hs, xs, pr, o', es', ep', ho, hx, hdt', he, _⟩ := I.hok d _ h
  rw [hd] at ho
  cases ho
  obtain ⟨rfl, rfl⟩ := dict_ep hdt hdt'
  obtain ⟨b, hb, e1, e2, e3⟩ := paired_get pr e
  have q := entry_at he i
  rw [hb] at q
  exact ⟨_, b.2.1, q, rfl, e2, e3⟩
end
/-- the pairs, each a new tuple with the key's own tuple -/
def Itit (d : Addr) (o : Obj) (kvs : List (List Key × V)) : It :=
  ⟨fun i H => H d = some (.frz o (.dT kvs)) ∧ i < kvs.length, fun i H x H' => ∃ T k v q, kvs[i]? = some (k, v) ∧ x = .ref T ∧ H T = none ∧ H q = some (.tup (k.map kV)) ∧ H' = upd H T (.tup [.ref q, v]), fun i H => H d = some (.frz o (.dT kvs)) ∧ kvs.length ≤ i⟩
section
variable {P : Program} {w : World} {K : PySem.W.Frag} {d : Addr} {o : Obj} {es : Array DictEntry} {ep : Nat}
theorem turn_itemsT {kvs : List (List Key × V)} {elts : List Expr} {k0 : Nat} {tpos : Pos} (it : Addr) (hod : o.data = .dict es ep) :
    Turn P w K (.Tuple elts k0 tpos) (Itit d o kvs) [it] it (fun i h => ∃ ok ov, IsItemIter h it d i kvs.length ep ok ov) where
  mem := by simp
  obj := fun i h st b hb => by
    have e : b = it := by simpa using hb
    subst e; obtain ⟨ok, ov, e⟩ := st; exact ⟨_, e, fun v z => nomatch z⟩
  keep := fun i h h' st k => let ⟨ok, ov, e⟩ := st; ⟨ok, ov, k it (by simp) _ e⟩
  item := by
    intro X hP hw hK hc i pins s σ H E I hf st hg
    subst hP hw hK; obtain ⟨hd, hi⟩ := hg
    obtain ⟨hs, hgd, hx, es', ep', hdt, hsz, _⟩ := I.frzT hd
    obtain ⟨rfl, rfl⟩ := dict_ep hod hdt
    obtain ⟨⟨k, v⟩, hkv⟩ : ∃ p, kvs[i]? = some p := ⟨kvs[i], List.getElem?_eq_getElem hi⟩
    obtain ⟨en, q, hen, hkey, hq, rv⟩ := frzT_at I hd hod hkv
    obtain ⟨ok, ov, he⟩ := st
    rw [← hsz] at he
    have hil : i < es'.size := by omega
    have hen2 : es'[i] = en := by rw [Array.getElem?_eq_getElem hil] at hen; exact Option.some.inj hen
    have hlt : it < s.heap.objs.size := Heap.lt_size he
    refine DT.nextI he (⟨o, hgd, hx, hdt⟩ : DT.Raw s.heap d es' ep') hil fun h' ho hT hz hk => ?_
    rw [hen2] at ho hT
    refine ⟨_, rfl, wpAny_letOwnedTupleGo_items (s := { s with heap := h' }) ho fun h'' he' sb => ?_⟩
    have hT2 : h''.get? s.heap.objs.size = some { cls := .type "tuple", data := .seq #[en.key, en.val] } := (sb.2 _ (Nat.ne_of_gt hlt)).trans hT
    have new : ObjOk X.prog X.w (upd H s.heap.objs.size (.tup [.ref q, v])) h'' s.heap.objs.size (.tup [.ref q, v]) :=
      ⟨by show 2 ≤ sizeLine; decide, [en.key, en.val], .cons hkey (.cons rv .nil), ⟨_, hT2, rfl, _, rfl⟩⟩
    have I1 : Inv X pins σ (upd H s.heap.objs.size (.tup [.ref q, v])) { s with heap := h'' } :=
      I.turnedNew (t' := s.toks) (ch := [it]) (fun b ob hb e => (sb.2 b (by simpa using hb)).trans (hk b ob (by simpa using hb) e)) hf (Nat.le_refl _) new
    refine ⟨.ref s.heap.objs.size, _, I1, rfl, ⟨_, k, v, q, hkv, rfl, I.hok.fresh (Nat.le_refl _), hq, rfl⟩, ⟨en.key, en.val, ?_⟩, fun b hb => ?_⟩
    · rw [← hsz]; exact he'
    · have e : b = it := by simpa using hb
      rw [e, upd_ne (Nat.ne_of_lt hlt)]; exact (hf it (by simp)).1
  done := by
    intro X hP hw hK hc i pins s σ H E I hf st hg
    subst hP hw hK; obtain ⟨hd, hi⟩ := hg
    obtain ⟨f0, f1, f2, f3, f4, f5⟩ := hf it (by simp)
    obtain ⟨hs, hgd, hx, es', ep', hdt, hsz, _⟩ := I.frzT hd
    obtain ⟨rfl, rfl⟩ := dict_ep hod hdt
    obtain ⟨ok, ov, he⟩ := st
    rw [← hsz] at he
    exact DT.endI (I.ok.hd hc) he (⟨o, hgd, hx, hdt⟩ : DT.Raw s.heap d es' ep') (by omega) fun h' eb => ⟨rfl, I.turned (t' := s.toks) (fun b ob hb e => eb b ob hb e) f0 f1 f3 f4 f5⟩
  self := fun A i s Q E st h => let ⟨_, _, e⟩ := st; PySem.W.kcp_self e h
end
def iItemsT (td : TE) : TI := fun σ H R => td σ H fun x H1 => ∃ d o, x = .ref d ∧ ((∃ kvs, H1 d = some (.frz o (.dK kvs)) ∧ R (Iti d o kvs) H1) ∨ ∃ kvs, H1 d = some (.frz o (.dT kvs)) ∧ R (Itit d o kvs) H1)
section
variable {X : Cx} {e : Expr} {td : TE} {apos cpos : Pos} {elts : List Expr} {k0 : Nat} {tpos : Pos}
theorem pi_itemsA (he : PE X e td) (hbase : attributeBase e "items" X.env (eval e X.env) = eval e X.env) (hline : (apos.endLine == cpos.line) = true) : PI X (.Tuple elts k0 tpos) (.Call (.Attribute e "items" apos) [] [] cpos) (iItemsT td) := by
  refine ⟨fun pins s σ H R I h => ?_⟩
  refine wpAny_Call_method (T := "dict") (id := "dict.items") hbase rfl hline F.plainAttrs_dict F.slot_dict_items F.type_dict_items (thn (he.run pins s σ H _ I h) fun u s1 ⟨x, H1, I1, rx, d, o, ex, q⟩ => ?_)
  subst ex
  obtain rfl : u = Value.ref d := rx
  have I2 : Inv X pins σ H1 { s1 with heap := s1.heap.push { cls := .type "dict_items", data := .fields #[.ref d] } } := I1.kept (t' := s1.toks) fun b ob q => Heap.get?_push_of_some _ q
  have vw : (s1.heap.push { cls := .type "dict_items", data := .fields #[.ref d] }).IsItemsView s1.heap.objs.size d := ⟨_, Heap.get?_push_size _ rfl, rfl, rfl⟩
  rcases q with ⟨kvs, hd, q⟩ | ⟨kvs, hd, q⟩
  · obtain ⟨hs, hgd, hx, es, ep, vs, hdt, hsz, kv, hm⟩ := I1.frzK hd
    have raw : DT.Raw s1.heap d es ep := ⟨o, hgd, hx, hdt⟩
    refine ⟨raw.typeIs, hm.dictOf.mapOf.noDict, ?_⟩
    show wpAny _ _ (callWith cpos (.builtin "dict.items") [.ref d] [] []) _ X.xe s1
    refine method_meetsIn F.slot_dict_items F.entry_dict_items rfl (PySem.evalArgs_none ⟨rfl, raw.typeIs, F.args_dict_items_1 _, _, DT.meetsItems (es := es) (ep := ep) hs, raw, ?_⟩)
    exact DT.iterI vw (raw.push _) (pi_one (tk := s1.toks) I2 _ (turn_items _ hdt) ⟨.none, .none, by rw [← hsz]; exact Heap.get?_push_size _ rfl⟩ q)
  · obtain ⟨hs, hgd, hx, es, ep, hdt, hsz, _⟩ := I1.frzT hd
    have raw : DT.Raw s1.heap d es ep := ⟨o, hgd, hx, hdt⟩
    refine ⟨raw.typeIs, fun b qq => ?_, ?_⟩
    · cases qq; exact ⟨o, hgd, hx.2.1⟩
    show wpAny _ _ (callWith cpos (.builtin "dict.items") [.ref d] [] []) _ X.xe s1
    refine method_meetsIn F.slot_dict_items F.entry_dict_items rfl (PySem.evalArgs_none ⟨rfl, raw.typeIs, F.args_dict_items_1 _, _, DT.meetsItems (es := es) (ep := ep) hs, raw, ?_⟩)
    exact DT.iterI vw (raw.push _) (pi_one (tk := s1.toks) I2 _ (turn_itemsT _ hdt) ⟨.none, .none, by rw [← hsz]; exact Heap.get?_push_size _ rfl⟩ q)
end
section
variable {X : Cx} {G : Gx} {cl : Nat → Addr} {E : XK} {W : Wd} {H : Hp} {M : Mem} {a b c : Expr} {fa fb fc : FE} {pos : Pos}
theorem src_itemsT {a1 : Addr} {o : Obj} {kvs : List (List KK × D)} {vs : List (List Key × V)} (h : H a1 = some (.frz o (.dT vs))) (r : RpK G W H (List.map kk) kvs vs) : SrcOk G W H ⟨kvs.map fun kv => .tup [.tup (kv.1.map keyD), kv.2], fun _ => True⟩ (Itit a1 o vs) where
  item := fun W2 H2 M2 f lk m _ i d e => by
    obtain ⟨kv, hk, rfl⟩ := map_at e
    obtain ⟨v, hv, rv⟩ := rpA_at r hk
    refine ⟨⟨lk _ _ _ h, (List.getElem?_eq_some_iff.mp hv).1⟩, fun x H' y => ?_⟩
    obtain ⟨T, k', v', q, e1, rfl, hT, hq, rfl⟩ := y
    rw [hv] at e1; cases e1
    have ft : Fut W2 H2 W2 (upd H2 T (.tup [.ref q, v])) := Fut.laid hT
    refine ⟨ft, m.laid hT, T, _, rfl, .inl upd_same, _, _, rfl, ⟨q, _, rfl, .inl ?_, keysD_rp _⟩, _, _, rfl, m.rp ft (Rp.kp f _ _ rv), rfl⟩
    rw [upd_ne (ne_of_none hq hT)]; exact hq
  stop := fun W2 H2 M2 f lk m _ => ⟨lk _ _ _ h, by rw [List.length_map, rpA_len r]; exact Nat.le_refl _⟩
def iItemsA (fd : FE) : FI := fun env M => (fd env M).bind fun d m => match d with
  | .ref i => match m[i]? with
    | some (.dk true kvs) => .ok ⟨kvs.map fun kv => .tup [keyD kv.1, kv.2], fun _ => True⟩ m
    | some (.dt true kvs) => .ok ⟨kvs.map fun kv => .tup [.tup (kv.1.map keyD), kv.2], fun _ => True⟩ m
    | _ => .no
  | _ => .no
theorem si_itemsA {elts : List Expr} {k0 : Nat} {tpos apos cpos : Pos} (ha : PE X a (tE G E fa)) (hbase : attributeBase a "items" X.env (eval a X.env) = eval a X.env := by rfl) (hline : (apos.endLine == cpos.line) = true := by rfl) : PI X (.Tuple elts k0 tpos) (.Call (.Attribute a "items" apos) [] [] cpos) (tI G E (iItemsA fa)) := pi_imp (pi_itemsA ha hbase hline) fun σ H Rr ⟨W, env, M, s, p⟩ => by
  refine tE.bind s p fun d m W1 H1 u f1 s1 r1 p1 => ?_
  split at p1
  · rename_i i
    obtain ⟨a1, h1, rfl⟩ := r1
    split at p1
    · rename_i kvs hc
      obtain ⟨vs, ⟨o, q1⟩, q2⟩ := s1.mem.cell _ _ a1 hc h1
      exact ⟨a1, o, rfl, .inl ⟨vs, q1, p1.here s1.mem _ (src_items q1 q2) trivial⟩⟩
    · rename_i kvs hc
      obtain ⟨vs, ⟨o, q1⟩, q2⟩ := s1.mem.cell _ _ a1 hc h1
      exact ⟨a1, o, rfl, .inr ⟨vs, q1, p1.here s1.mem _ (src_itemsT q1 q2) trivial⟩⟩
    · exact p1.elim
  · exact p1.elim
end
end Fn
set_option Elab.async false
set_option linter.all false
set_option maxRecDepth 100000
set_option maxHeartbeats 1000000
namespace Fn
open PySem PySem.Spec PyProof.Rows L2 L2.DX
def atomP : PyData → Bool
  | .int _ => true
  | .str _ => true
  | _ => false
theorem reads_atom {h : Heap} {v : Value} {p : PyData} {as : List Addr} (r : Reads h v p as) (hp : atomP p = true) : as = [] := by
  cases r <;> first | rfl | cases hp
end Fn
set_option Elab.async false
set_option linter.all false
set_option maxRecDepth 100000
set_option maxHeartbeats 1000000
namespace Fn
open PySem PySem.Spec PyProof.Rows L2
section
variable {M : Mem} {i : Nat} {lk : Bool} {kvs : List (KK × D)} {tvs : List (List KK × D)} {l : List D} {k v : D} {ks : List KK} {neg : Bool}
theorem dFind_dk (h : M[i]? = some (.dk lk kvs)) : dFind M (.ref i) k = (keyK k).map (gA kvs) := by simp only [dFind, h]
theorem dFind_dt (h : M[i]? = some (.dt lk tvs)) : dFind M (.ref i) k = (keyT k).map (gA tvs) := by simp only [dFind, h]
theorem dFind_lst (h : M[i]? = some (.lst l)) : dFind M (.ref i) k = none := by simp only [dFind, h]
theorem oIxA_ref (h : M[i]? = some (.lst l)) : oIxA (.ref i) k M = oIx (.ref i) k M := by simp only [oIxA, dFind_lst h]
theorem oIxA_dk {j : Int} (h : M[i]? = some (.dk lk kvs)) (hv : gA kvs (.inl j) = some v) : oIxA (.ref i) (.int j) M = .ok v M := by simp only [oIxA, dFind_dk h, keyK, Option.map_some, hv]
theorem oIxA_dt (h : M[i]? = some (.dt lk tvs)) (hk : keyT k = some ks) (hv : gA tvs ks = some v) : oIxA (.ref i) k M = .ok v M := by simp only [oIxA, dFind_dt h, hk, Option.map_some, hv]
theorem oInA_dk {j : Int} (h : M[i]? = some (.dk lk kvs)) : oInA neg (.int j) (.ref i) M = .ok (.bl (neg != (gA kvs (.inl j)).isSome)) M := by simp only [oInA, dFind_dk h, keyK, Option.map_some]
theorem oInA_dt (h : M[i]? = some (.dt lk tvs)) (hk : keyT k = some ks) : oInA neg k (.ref i) M = .ok (.bl (neg != (gA tvs ks).isSome)) M := by simp only [oInA, dFind_dt h, hk, Option.map_some]
theorem sPut_dk {j : Int} (h : M[i]? = some (.dk false kvs)) (hl : kvs.length < 16777216) : sPut M (.ref i) (.int j) v = some (M.set i (.dk false (pA kvs (.inl j) v))) := by simp only [sPut, dPut, h, keyK, if_pos hl]
theorem sPut_dkS {x : List Nat} (h : M[i]? = some (.dk false kvs)) (hl : kvs.length < 16777216) : sPut M (.ref i) (.str x) v = some (M.set i (.dk false (pA kvs (.inr x) v))) := by simp only [sPut, dPut, h, keyK, if_pos hl]
theorem sPut_dt (h : M[i]? = some (.dt false tvs)) (hk : keyT k = some ks) (hl : tvs.length < 16777216) : sPut M (.ref i) k v = some (M.set i (.dt false (pA tvs ks v))) := by simp only [sPut, dPut, h, hk, if_pos hl]
theorem sPut_lst {j : Int} {n : Nat} (h : M[i]? = some (.lst l)) (hn : ixN l.length j = some n) : sPut M (.ref i) (.int j) v = some (M.set i (.lst (l.set n v))) := by simp only [sPut, dPut, lPut, h, hn]
theorem lGet_lst {j : Int} (h : M[i]? = some (.lst l)) (hv : L2.atI l j = some v) : lGet M (.ref i) (.int j) = some v := by simp only [lGet, dFind_lst h, h, hv]
theorem oLenA_ref (h : M[i]? = some (.lst l)) : oLenA [.ref i] M = oLen [.ref i] M := by simp only [oLenA, dLen, h]
theorem oGetM_dk1 {j : Int} (h : M[i]? = some (.dk lk kvs)) : oGetM (.ref i) [.int j] M = .ok ((gA kvs (.inl j)).getD .non) M := by
  simp only [oGetM, dFind_dk h, keyK, Option.map_some]
  cases gA kvs (.inl j) <;> rfl
theorem oGetM_dk2 {j : Int} {z : D} (h : M[i]? = some (.dk lk kvs)) : oGetM (.ref i) [.int j, z] M = .ok ((gA kvs (.inl j)).getD z) M := by
  simp only [oGetM, dFind_dk h, keyK, Option.map_some]
  cases gA kvs (.inl j) <;> rfl
theorem tyOk_dk (h : M[i]? = some (.dk false kvs)) : tyOk "dict" M (.ref i) = true := by simp only [tyOk, h]; decide
theorem mDNewK_eq {env : Fn.Env} : mDNewK env M = .ok (.ref M.length) (M ++ [.dk false []]) := rfl
theorem mDNewT_eq {env : Fn.Env} : mDNewT env M = .ok (.ref M.length) (M ++ [.dt false []]) := rfl
theorem gIxA_eq (fo fi : FE) (d : D) {env : Fn.Env} : gIxA fo fi d env M = (fo env M).bind fun o m => (fi env m).bind fun i m' => match sPut m' o i d with
  | some m2 => .ok env m2
  | none => .no := rfl
theorem mAugIx_eq (o : D → D → Mem → R D) (fo fi fe : FE) {env : Fn.Env} : mAugIx o fo fi fe env M = (fo env M).bind fun a m => (fi env m).bind fun i m1 => match lGet m1 a i with
  | some x => (fe env m1).bind fun y m2 => (o x y m2).bind fun z m3 => match sPut m3 a i z with
    | some m4 => .ok (.nx env) m4
    | none => .no
  | none => .no := rfl
/-- a dict is walked in an expression: what comes is told of the memory without the lock -/
theorem lock_dk {α : Type} {fd : FE} {f : Env → Mem → R α} {env : Fn.Env} {m0 m : Mem} {kvs' : List (KK × D)} {x : α} (hd : fd env M = .ok (.ref i) m0) (h : M[i]? = some (.dk false kvs)) (hf : f env (M.set i (.dk true kvs)) = .ok x m) (hm : m[i]? = some (.dk true kvs')) : lockIn fd f env M = .ok x (m.set i (.dk false kvs')) := by
  simp only [lockIn, hd, h, hf, unlk, hm]
end
end Fn
set_option Elab.async false
set_option linter.all false
set_option maxRecDepth 100000
set_option maxHeartbeats 1000000
namespace Fn
open PySem PySem.Spec PyProof.Rows L2 L2.DX
end Fn
set_option Elab.async false
set_option linter.all false
set_option maxRecDepth 100000
set_option maxHeartbeats 1000000
namespace Fn
open PySem PySem.Spec PyProof.Rows L2 L2.DX
end Fn
set_option Elab.async false
set_option linter.all false
set_option maxRecDepth 100000
set_option maxHeartbeats 2000000
namespace Fn
open PySem PySem.Spec PyProof.Rows L2
/-- what a def promises there -/
structure FnG (P : Program) (w : World) (K : PySem.W.Frag) (mg : Str → Option Value) (base : Heap) (CX : CXT) (k : Nat) (f : Addr) (fd : FuncData) (ps : List Str) (sp : Sp) : Prop where
  len : ∀ vs H Q E, sp vs H Q E → vs.length = ps.length
  run : ∀ (A : Around) (outer : List PySem.Env) (s : Shared) (H : Hp) (args : Args) (us : List Value) (vs : List V) (Q : VK) (E : XK), A.guards = some [] → Room k A → Env0 P w K mg base A outer s H → BindsTo s fd args (ps.zip us) → Vals vs us → sp vs H Q E →
    codeAny (model P w) A (.call (.ref f) args) (CR CX outer P w H s Q E) s
section
variable {P : Program} {w : World} {K : PySem.W.Frag} {mg : Str → Option Value} {base : Heap} {CX : CXT} {j k : Nat} {f : Addr} {fd : FuncData} {ps : List Str} {sp sp' : Sp}
theorem FnG.of (F : FnOk P w K mg base CX k f fd ps sp) : FnG P w K mg base CX k f fd ps sp := ⟨F.len, fun A outer s H args us vs Q E _ hr => F.run A outer s H args us vs Q E hr⟩
theorem FnG.imp (F : FnG P w K mg base CX k f fd ps sp) (h : ∀ vs H Q E, sp' vs H Q E → sp vs H Q E) : FnG P w K mg base CX k f fd ps sp' :=
  ⟨fun vs H Q E q => F.len vs H Q E (h _ _ _ _ q), fun A outer s H args us vs Q E hg hr he hb hv hs => F.run A outer s H args us vs Q E hg hr he hb hv (h _ _ _ _ hs)⟩
/-- a def by its body -/
theorem fn_ofG {name qual : Str} {params : Arguments} {body : List Stmt} {scope : Scope} {dV kV doc pm cdv ct oc : Value} {an od : Option Addr} {osl : Array (Option Value)} {N : List Str}
    (lk : K.lookup f = some ⟨oc, od, .func (PySem.W.fnOf name qual params body scope dV kV doc pm an cdv ct), osl⟩) (hcd : PySem.W.codeIn K cdv qual = true) (S : FnScope N ps scope)
    (len : ∀ vs H Q E, sp vs H Q E → vs.length = ps.length)
    (hbody : ∀ (A : Around) (outer : List PySem.Env) (s : Shared) (H : Hp) (vs : List V) (Q : VK) (E : XK), A.guards = some [] → Room k (A.deeper (envOfC qual scope s.heap.objs.size f cdv)) → sp vs H Q E →
      ∃ t, PSs (cxOf CX P w K mg base N qual scope f cdv A outer s H E) body t ∧ t { nx := fun _ H' => Q .non H', rt := Q } (L2.start N vs) H) :
    FnG P w K mg base CX (k + 1) f (PySem.W.fnOf name qual params body scope dV kV doc pm an cdv ct) ps sp := by
  refine ⟨len, fun A outer s H args us vs Q E hgd hr e0 hb r hsp => ?_⟩
  have sees : ∀ {b : Addr} {o : Obj}, base.get? b = some o → s.heap.get? b = some o := fun {b o} e => (e0.bs b o e).1
  have KX : K.In s.heap := e0.mod.kin.keeps fun b o e => sees e
  have lim : s.heap.NoLimit := e0.mod.nolimit.keeps fun b o e => sees e
  have place : ∀ y ∈ ps.zip us, scope.names.lookup y.1 = some .local ∨ (scope.names.lookup y.1 = some .cell ∧ ((cellsFrom (s.heap.objs.size + 1) scope.names []).lookup y.1).isSome = true) := fun y hy => by
    obtain ⟨n, v⟩ := y
    exact (S.par n (List.of_mem_zip hy).1).imp id fun q => ⟨q, PySem.W.cellsFrom_some _ _ _ (.inl q)⟩
  refine codeAny_call_function hr.depth (KX _ _ lk) rfl S.co S.gen rfl (PySem.W.codeRec_of KX hcd) (hb _ _ _ _ (wpAny_newFunctionEnv_cells S.kind place fun env he s1 x => ?_))
  subst he
  refine ⟨lim.keeps x.toInCall.keep, codeAny_func ?_⟩
  obtain ⟨t, ht, hq⟩ := hbody A outer s H vs Q E hgd (hr.deeper _) hsp
  refine wpAny_mono (ht.run [] s1 (L2.start N vs) H _ (inv_start S hr.hd e0 (len _ _ _ _ hsp) r x) hq) (fun fl s' hs => ?_) fun _ _ hs => hs
  cases fl with
  | ret u => obtain ⟨v, σ', H', J, rv, q⟩ := hs; exact ⟨v, H', J.os, J.bare, J.base, J.hok, rv, q⟩
  | next => obtain ⟨σ', H', J, q⟩ := hs; exact ⟨.non, H', J.os, J.bare, J.base, J.hok, rfl, q⟩
  | brk => obtain ⟨_, _, _, q⟩ := hs; exact q.elim
  | cont => obtain ⟨_, _, _, q⟩ := hs; exact q.elim
theorem fn_defG {x qual : Str} {st : Stmt} {N : List Str} {g : FD} {B : FS} {cl : Nat → Addr} (F : Fun K x qual st f fd) (S : FnScope N ps (defScope st))
    (hbody : ∀ (cdv : Value) (A : Around) (outer : List PySem.Env) (s : Shared) (H : Hp) (E : XK), A.guards = some [] → Room k (A.deeper (envOfC qual (defScope st) s.heap.objs.size f cdv)) →
      PSs (cxOf CX0 P w K mg base N qual (defScope st) f cdv A outer s H E).nox (defBody st) (tS ⟨K, cl, w⟩ E B))
    (href : ∀ ds M, ds.length = ps.length → Ref M (g ds M) (B (envStart N.length ds) M)) : FnG P w K mg base CX0 (k + 1) f fd ps (spOf ⟨K, cl, w⟩ ps.length g) := by
  obtain ⟨oc, od, kV, doc, pm, an, cdv, ct, osl, rfl, lk, hcd⟩ := F.ex
  refine fn_ofG lk hcd S (fun vs H Q E ⟨W, M, ds, m, r, hl, _⟩ => by rw [r.len, hl]) fun A outer s H vs Q E hgd hr ⟨W, M, ds, m, r, hl, p⟩ => ?_
  exact ⟨_, (hbody cdv A outer s H E hgd hr).nox, W, envStart N.length ds, M, ⟨m, envStart_ok r⟩, href ds M hl _ W H Q E m p⟩
end
end Fn
set_option Elab.async false
set_option linter.all false
set_option maxRecDepth 100000
set_option maxHeartbeats 2000000
namespace Fn
open PySem PySem.Spec PyProof.Rows L2
/-- the law's call at the top: no guards there -/
theorem law_callG {P : Program} {w : World} {K : PySem.W.Frag} {mg mb : Str → Option Value} {CX : CXT} {k : Nat} {fa a : Addr} {fd : FuncData} {x : Str} {sp : Sp} {s₁ : Shared} {vs : List Value} {ns : List Int}
    (KX : K.In s₁.heap) (hns : s₁.heap.Ns mainGlobals mg) (hb : s₁.heap.Ns builtinsNs mb) (hbb : ∀ x : Str, x ≠ "__name__" → mb x = bootBuiltins x) (hlim : s₁.heap.NoLimit) (hg : s₁.gens = #[])
    (ha : s₁.heap.get? a = some { cls := .type "list", data := .seq vs.toArray }) (hi : IntsAre vs ns) (hl : ns.length ≤ sizeLine) (hr : Room k callerA)
    (F : ∀ base : Heap, K.In base → base.Ns mainGlobals mg → FnG P w K mg base CX k fa fd [x] sp) (hbind : ∀ (s : Shared) (u : Value), BindsTo s fd ⟨[u], []⟩ [(x, u)])
    (hsp : ∀ H : Hp, Only H → SqL K H a (ns.map V.int) → sp [.ref a] H (fun v _ => v = .bl true) fun _ _ _ => False)
    (hCX : ∀ H e s', CX [] H s₁ (fun _ _ _ => False) e s' → False) :
    codeAny (model P w) callerA (.call (.ref fa) ⟨[.ref a], []⟩) (fun r s' => r = .ok (.ret (.bool true)) ∧ OldK s₁.heap s'.heap ∧ s'.os = s₁.os ∧ AllBare s'.gens) s₁ := by
  -- what is tracked: the script alone, if it is none of the module's own
  obtain ⟨H, hO, hS, hok, hA, hK⟩ : ∃ H : Hp, Only H ∧ SqL K H a (ns.map V.int) ∧ HOk P w H s₁.heap ∧ (∀ b, H b ≠ none → b = a) ∧ (H a ≠ none → K.lookup a = none) := by
    cases hk : K.lookup a with
    | some o =>
      have e := KX a o hk
      rw [ha] at e
      cases e
      exact ⟨fun _ => none, fun _ => .inl rfl, .inr ⟨_, vs.toArray, _, hk, rfl, rfl, rfl, by rw [List.size_toArray, hi.length]; exact hl, by simpa using vals_ints hi⟩, fun b u z => (by cases z), fun b z => absurd rfl z, fun z => absurd rfl z⟩
    | none =>
      refine ⟨fun b => if b = a then some (.frz { cls := .type "list", data := .seq vs.toArray } (.lst (ns.map V.int))) else none, fun b => ?_, .inl (.inr ⟨_, if_pos rfl⟩), fun b u z => ?_, fun b z => ?_, fun _ => rfl⟩
      · by_cases h : b = a
        · exact .inr ⟨_, _, if_pos h⟩
        · exact .inl (if_neg h)
      · by_cases h : b = a
        · have z' := (if_pos h).symm.trans z
          cases z'
          subst h
          exact ⟨ha, by rw [List.length_map]; exact hl, vs, _, vals_ints hi, ha⟩
        · cases (if_neg h).symm.trans z
      · exact Classical.byContradiction fun h => z (if_neg h)
  have dictNone : ∀ {b : Addr} {o : Obj} {es : Array DictEntry} {ep : Nat}, s₁.heap.get? b = some o → o.data = .dict es ep → H b = none := fun {b o es ep} e d => Classical.byContradiction fun q => by
    rw [hA b q, ha] at e
    cases e
    cases d
  have ns' : ∀ {b : Addr} {m : Str → Option Value}, s₁.heap.Ns b m → (hidT s₁.heap H).Ns b m := fun {b m} ⟨o, es, ep, e, d, r⟩ => ⟨o, es, ep, hidT_get e (dictNone e d), d, r⟩
  have kin : K.In (hidT s₁.heap H) := fun b o e => hidT_get (KX b o e) (Classical.byContradiction fun q => by
    have h := hA b q
    subst h
    rw [hK q] at e
    cases e)
  obtain ⟨mc, m1, m2⟩ := hlim
  have e0 : Env0 P w K mg (hidT s₁.heap H) callerA [] s₁ H :=
    ⟨rfl, ⟨kin, ns' hns, ⟨mb, ns' hb, hbb⟩, mc, ns' m1, m2⟩, fun b o e => of_hidT e, Nat.le_of_eq (hidT_size _ _), trivial, fun b hb => absurd (show b ∈ ([] : List Addr) from hb) (by simp), hok, .of_eq hg⟩
  refine codeAny_mono ((F _ kin (ns' hns)).run callerA [] s₁ H ⟨[.ref a], []⟩ [.ref a] [.ref a] _ _ rfl hr e0 (hbind s₁ (.ref a)) (.cons rfl .nil) (hsp H hO hS)) fun r s' h => ?_
  cases r with
  | error e => exact (hCX H e s' h).elim
  | ok fl =>
    cases fl with
    | next => exact h.elim
    | brk => exact h.elim
    | cont => exact h.elim
    | ret u =>
      obtain ⟨v, H', os, bare, un, hok', r', q⟩ := h
      have q' : v = .bl true := q
      subst q'
      obtain rfl : u = Value.bool true := r'
      refine ⟨rfl, OldK.of_keep fun b o e => ?_, os, bare⟩
      rcases hO b with z | ⟨ob, xs, z⟩
      · exact un.keep b o e z (by intro y; exact absurd (show b ∈ ([] : List Addr) from y) (by simp)) (by simp)
      · have e1 := (hok b _ z).1
        rw [e] at e1
        cases e1
        exact (hok' b _ (un.frzs b _ _ z)).1
theorem walk_ofG {l : PySem.W.OpenLaw} {n k : Nat} {q : Program} {loose : List Str} {XP : (Str → Option Value) → Heap → Prop} {YP : World → Heap → Prop} {d : DefRec} {K : Params → PySem.W.Frag} {CX : World → CXT} {sp : World → Sp} {x : Str}
    (hn : l.most = some n) (hn2 : n ≤ sizeLine) (hdf : d.params.defaults = []) (hr : Room k callerA)
    (hY : ∀ (w : World) (h : Heap), YP w h → (K w.params).In h)
    (F : ∀ (w : World) (mg : Str → Option Value) (fa : Addr) (h : Heap), (K w.params).In h → h.Ns mainGlobals mg → mg d.name = some (.ref fa) →
      ∃ fd : FuncData, (∀ (s : Shared) (u : Value), BindsTo s fd ⟨[u], []⟩ [(x, u)]) ∧
        ∀ base : Heap, (K w.params).In base → base.Ns mainGlobals mg → FnG l.prog w (K w.params) mg base (CX w) k fa fd [x] (sp w))
    (hsp : ∀ (w : World) (H : Hp) (a : Addr) (ns : List Int), ns.length ≤ n → Only H → SqL (K w.params) H a (ns.map V.int) → sp w [.ref a] H (fun v _ => v = .bl true) fun _ _ _ => False)
    (hCX : ∀ (w : World) (H : Hp) (s : Shared) (e : Value) (s' : Shared), CX w [] H s (fun _ _ _ => False) e s' → False) :
    PySem.W.WalkO q loose XP YP l.row.toRowW d [] (fun f vs => PySem.call f vs) := by
  refine Att.attach_call hn hdf fun w s₀ s₁ mg mb fa o pm cd doc a vs ns G Y ho hd hcd hmg hobj hints hlen hg => ?_
  have KX := hY w _ Y
  obtain ⟨fd, hb, hF⟩ := F w mg fa _ KX G.T.g hmg
  exact law_callG KX G.T.g G.T.b G.T.builtins G.T.nolimit hg hobj hints (Nat.le_trans hlen hn2) hr hF hb (fun H hO hS => hsp w H a ns hlen hO hS) fun H e s' => hCX w H s₁ e s'
end Fn
set_option Elab.async false
set_option linter.all false
set_option maxRecDepth 100000
set_option maxHeartbeats 1000000
namespace Fn
open PySem PySem.Spec PyProof.Rows L2
def keyP : Key → PyData
  | .inl i => .int i
  | .inr x => .str x
mutual
inductive Dq (K : PySem.W.Frag) (H : Hp) : V → PyData → Prop
  | non : Dq K H .non .none
  | bl (b : Bool) : Dq K H (.bl b) (.bool b)
  | int (i : Int) : Dq K H (.int i) (.int i)
  | str (x : Str) : Dq K H (.str x) (.str x)
  | lst {a : Addr} {xs : List V} {ds : List PyData} : SqL K H a xs → DqAll K H xs ds → Dq K H (.ref a) (.list ds)
  | tup {a : Addr} {xs : List V} {ds : List PyData} : SqT K H a xs → DqAll K H xs ds → Dq K H (.ref a) (.tuple ds)
  | dct {a : Addr} {kvs : List (Key × V)} {ds : List (PyData × PyData)} : H a = some (.dK kvs) → DqKv K H kvs ds → Dq K H (.ref a) (.dict ds)
inductive DqAll (K : PySem.W.Frag) (H : Hp) : List V → List PyData → Prop
  | nil : DqAll K H [] []
  | cons {v : V} {vs : List V} {d : PyData} {ds : List PyData} : Dq K H v d → DqAll K H vs ds → DqAll K H (v :: vs) (d :: ds)
inductive DqKv (K : PySem.W.Frag) (H : Hp) : List (Key × V) → List (PyData × PyData) → Prop
  | nil : DqKv K H [] []
  | cons {k : Key} {v : V} {vs : List (Key × V)} {d : PyData} {ds : List (PyData × PyData)} : Dq K H v d → DqKv K H vs ds → DqKv K H ((k, v) :: vs) ((keyP k, d) :: ds)
end
mutual
/-- no list in it -/
def noL : PyData → Bool
  | .list _ => false
  | .tuple xs => noLAll xs
  | .dict kvs => noLKv kvs
  | _ => true
def noLAll : List PyData → Bool
  | [] => true
  | x :: xs => noL x && noLAll xs
def noLKv : List (PyData × PyData) → Bool
  | [] => true
  | (_, v) :: r => noL v && noLKv r
end
section
variable {X : Cx} {pins : List (Addr × Obj)} {σ : L2.St} {H : Hp} {s : Shared}
theorem pairs_reads {P : Program} {w : World} {h : Heap} : ∀ {es : List DictEntry} {ws : List (Key × Value)}, Pairs (mixKind P w) es ws → ReadsAll h (es.map (·.key)) (ws.map fun kv => keyP kv.1) [] ∧ es.map (·.val) = ws.map (·.2)
  | [], _, .nil => ⟨.nil, rfl⟩
  | e :: es, (k, v) :: ws, .cons h1 h2 h3 => by
    obtain ⟨i1, i2⟩ := pairs_reads h3
    have h1 : keyIs k e.key = true := h1
    refine ⟨?_, by rw [List.map_cons, List.map_cons, i2, h2]⟩
    rcases keyIs_shape h1 with ⟨i, t, e1, e2⟩ | ⟨x, t, e1, e2⟩
    · subst e1
      rw [List.map_cons, e2]
      exact ReadsAll.cons (as := []) (bs := []) (.int i t) i1
    · subst e1
      rw [List.map_cons, e2]
      exact ReadsAll.cons (as := []) (bs := []) (.str x t) i1
mutual
theorem Dq.reads (I : Inv X pins σ H s) : ∀ (d : PyData) (v : V) (u : Value), Dq X.K H v d → RelV v u → ∃ as, Reads s.heap u d as ∧ (noL d = true → sysModules ∉ as)
  | .none, _, _, h, r => by cases h; cases r; exact ⟨_, .none, fun _ => by simp⟩
  | .bool b, _, _, h, r => by cases h; cases r; exact ⟨_, .bool b, fun _ => by simp⟩
  | .int i, _, _, h, r => by cases h; obtain ⟨t, rfl⟩ := r; exact ⟨_, .int i t, fun _ => by simp⟩
  | .str x, _, _, h, r => by cases h; obtain ⟨t, rfl⟩ := r; exact ⟨_, .str x t, fun _ => by simp⟩
  | .list ds, _, _, h, r => by
    cases h with
    | lst hs ha =>
      cases r
      obtain ⟨its, rv, ⟨o, n, ho, hc, _, hd⟩, _⟩ := I.list hs
      obtain ⟨as, hr, _⟩ := Dq.readsAll I ds _ its ha rv
      exact ⟨_, .list ho hc hd hr, fun z => by simp [noL] at z⟩
  | .tuple ds, _, _, h, r => by
    cases h with
    | tup hs ha =>
      cases r
      obtain ⟨its, rv, ⟨o, ho, hc, n, hd⟩, _⟩ := I.tuple hs
      obtain ⟨as, hr, hm⟩ := Dq.readsAll I ds _ its ha rv
      exact ⟨_, .tuple ho hc hd hr, fun z => hm (by simpa only [noL] using z)⟩
  | .dict ds, _, _, h, r => by
    cases h with
    | dct hs ha =>
      cases r
      obtain ⟨_, hsys, ws, kv, o, es, ep, ho, hx, hdt, _, hp, _⟩ := I.hok _ _ hs
      obtain ⟨p1, p2⟩ := pairs_reads (h := s.heap) hp
      obtain ⟨as, hr, hm, hk⟩ := Dq.readsKv I ds _ ws ha kv
      rw [hk] at p1
      rw [← p2] at hr
      refine ⟨_, .dict ho hx.1 hdt p1 hr, fun z => ?_⟩
      have hm := hm (by simpa only [noL] using z)
      simp only [List.append_nil, List.cons_append, List.nil_append, List.mem_cons, not_or]
      exact ⟨fun e => by rw [← e] at hsys; simp at hsys, hm⟩
theorem Dq.readsAll (I : Inv X pins σ H s) : ∀ (ds : List PyData) (vs : List V) (us : List Value), DqAll X.K H vs ds → Vals vs us → ∃ as, ReadsAll s.heap us ds as ∧ (noLAll ds = true → sysModules ∉ as)
  | [], _, _, h, r => by cases h; cases r; exact ⟨_, .nil, fun _ => by simp⟩
  | d :: ds, _, _, h, r => by
    cases h with
    | cons h1 h2 =>
      cases r with
      | cons r1 r2 =>
        obtain ⟨as, q1, m1⟩ := Dq.reads I d _ _ h1 r1
        obtain ⟨bs, q2, m2⟩ := Dq.readsAll I ds _ _ h2 r2
        refine ⟨_, .cons q1 q2, fun z => ?_⟩
        simp only [noLAll, Bool.and_eq_true] at z
        rw [List.mem_append, not_or]
        exact ⟨m1 z.1, m2 z.2⟩
theorem Dq.readsKv (I : Inv X pins σ H s) : ∀ (ds : List (PyData × PyData)) (vs : List (Key × V)) (us : List (Key × Value)), DqKv X.K H vs ds → KV vs us → ∃ as, ReadsAll s.heap (us.map (·.2)) (ds.map (·.2)) as ∧ (noLKv ds = true → sysModules ∉ as) ∧ (us.map fun kv => keyP kv.1) = ds.map (·.1)
  | [], _, _, h, r => by cases h; cases r; exact ⟨_, .nil, fun _ => by simp, rfl⟩
  | (_, d) :: ds, _, _, h, r => by
    cases h with
    | cons h1 h2 =>
      cases r with
      | cons r1 r2 =>
        obtain ⟨as, q1, m1⟩ := Dq.reads I d _ _ h1 r1.2
        obtain ⟨bs, q2, m2, k2⟩ := Dq.readsKv I ds _ _ h2 r2
        refine ⟨_, .cons q1 q2, fun z => ?_, by rw [List.map_cons, List.map_cons, k2, ← r1.1]⟩
        simp only [noLKv, Bool.and_eq_true] at z
        rw [List.mem_append, not_or]
        exact ⟨m1 z.1, m2 z.2⟩
end
end
/-- what may be shown -/
def showOk (p : PyData) : Prop := p.showable = true ∧ p.leavesShort 13 = true ∧ p.weight ≤ 2 ^ 20 ∧ p.depth ≤ 60 ∧ (p.hasDict = true → noL p = true)
instance (p : PyData) : Decidable (showOk p) := by unfold showOk; infer_instance
def rRepr (K : PySem.W.Frag) : List V → Hp → VK → Prop := fun xs H Q => ∃ x d, xs = [x] ∧ Dq K H x d ∧ showOk d ∧ Q (.str d.shown) H
theorem cr_repr {X : Cx} (hgd : X.A.guards = some []) (hu : X.A.units + 64 < cLine) : CallR X (.builtin "repr") (rRepr X.K) := by
  intro pins s σ H xs us Q I r h
  obtain ⟨x, d, rfl, hd, ⟨hs, hl, hw, hdp, hn⟩, q⟩ := h
  obtain ⟨u, rfl, ru⟩ := vals1 r
  have hz := PyData.shown_fits (B := 13) (by omega) (by omega) hl hw
  cases hd with
  | non =>
    cases ru
    exact PySem.P.repr_of_none ⟨.str _, H, I.tok _, ⟨_, rfl⟩, q⟩
  | bl b =>
    cases ru
    exact PySem.P.repr_of_bool ⟨.str _, H, I.tok _, ⟨_, rfl⟩, q⟩
  | int i =>
    obtain ⟨t, rfl⟩ := ru
    exact PySem.P.repr_of_int (by simpa [PyData.showable] using hs) ⟨.str _, H, I.tok _, ⟨_, rfl⟩, q⟩
  | str y =>
    obtain ⟨t, rfl⟩ := ru
    exact PySem.P.repr_of_str ⟨.str _, H, I.tok _, ⟨_, rfl⟩, q⟩ hz
  | lst h1 h2 =>
    cases ru
    obtain ⟨as, hr, hm⟩ := Dq.reads I _ _ _ (.lst h1 h2) rfl
    exact repr_of_reads' hr hs (fun z => hm (hn z)) hgd (by omega) (fun _ _ e => e) (fun h' t tk k => ⟨.str _, H, I.kept (t' := tk) k, ⟨t, rfl⟩, q⟩) hz
  | tup h1 h2 =>
    cases ru
    obtain ⟨as, hr, hm⟩ := Dq.reads I _ _ _ (.tup h1 h2) rfl
    exact repr_of_reads' hr hs (fun z => hm (hn z)) hgd (by omega) (fun _ _ e => e) (fun h' t tk k => ⟨.str _, H, I.kept (t' := tk) k, ⟨t, rfl⟩, q⟩) hz
  | dct h1 h2 =>
    cases ru
    obtain ⟨as, hr, hm⟩ := Dq.reads I _ _ _ (.dct h1 h2) rfl
    exact repr_of_reads' hr hs (fun z => hm (hn z)) hgd (by omega) (fun _ _ e => e) (fun h' t tk k => ⟨.str _, H, I.kept (t' := tk) k, ⟨t, rfl⟩, q⟩) hz
def keyPK : KK → PyData
  | .inl i => .int i
  | .inr x => .str (l2s x)
def kvGo (k : Nat → Option PyData) : List (KK × D) → Option (List (PyData × PyData))
  | [] => some []
  | (c, d) :: r => match pyGo k d, kvGo k r with
    | some a, some b => some ((keyPK c, a) :: b)
    | _, _ => none
/-- a cell that holds a list or a dict, to the depth n -/
def kR (M : Mem) : Nat → Nat → Option PyData
  | 0, _ => none
  | n + 1, i => match M[i]? with
    | some (.lst l) => (pyGoL (kR M n) l).map .list
    | some (.dk false kvs) => (kvGo (kR M n) kvs).map .dict
    | _ => none
def pyR (M : Mem) (d : D) : Option PyData := pyGo (kR M 4) d
section
variable {G : Gx} {W : Wd} {H : Hp} {M : Mem} {E : XK}
mutual
theorem pyGo_q {k : Nat → Option PyData} (hk : ∀ i a p, W.as[i]? = some a → k i = some p → Dq G.K H (.ref a) p) : ∀ {d : D} {u : V} {p : PyData}, Rp G W H d u → pyGo k d = some p → Dq G.K H u p
  | .non, u, p, r, e => by cases r; cases e; exact .non
  | .bl b, u, p, r, e => by cases r; cases e; exact .bl b
  | .int i, u, p, r, e => by cases r; cases e; exact .int i
  | .str x, u, p, r, e => by cases r; cases e; exact .str _
  | .tup l, u, p, r, e => by
    obtain ⟨a, us, e1, s1, r1⟩ := r
    subst e1
    simp only [pyGo] at e
    cases q : pyGoL k l with
    | none => rw [q] at e; cases e
    | some ps => rw [q] at e; cases e; exact .tup s1.sq (pyGoL_q hk r1 q)
  | .ct l, u, p, r, e => by
    obtain ⟨a, us, e1, s1, r1⟩ := r
    subst e1
    simp only [pyGo] at e
    cases q : pyGoL k l with
    | none => rw [q] at e; cases e
    | some ps => rw [q] at e; cases e; exact .tup s1.sq (pyGoL_q hk r1 q)
  | .lst l, u, p, r, e => by
    obtain ⟨a, us, e1, s1, r1⟩ := r
    subst e1
    simp only [pyGo] at e
    cases q : pyGoL k l with
    | none => rw [q] at e; cases e
    | some ps => rw [q] at e; cases e; exact .lst (.inl (.inl s1.1)) (pyGoL_q hk r1 q)
  | .fz l, u, p, r, e => by
    obtain ⟨a, us, e1, s1, r1⟩ := r
    subst e1
    simp only [pyGo] at e
    cases q : pyGoL k l with
    | none => rw [q] at e; cases e
    | some ps =>
      rw [q] at e; cases e
      exact .lst (s1.elim (fun z => .inl (.inr z)) .inr) (pyGoL_q hk r1 q)
  | .ref i, u, p, r, e => by
    obtain ⟨a, h1, rfl⟩ := r
    exact hk i a p h1 e
theorem pyGoL_q {k : Nat → Option PyData} (hk : ∀ i a p, W.as[i]? = some a → k i = some p → Dq G.K H (.ref a) p) : ∀ {l : List D} {us : List V} {ps : List PyData}, RpL G W H l us → pyGoL k l = some ps → DqAll G.K H us ps
  | [], us, ps, r, e => by have : us = [] := r; subst this; cases e; exact .nil
  | d :: l, us, ps, r, e => by
    obtain ⟨u, us', e1, r1, r2⟩ := r
    subst e1
    simp only [pyGoL] at e
    split at e
    · rename_i a b h1 h2
      cases e
      exact .cons (pyGo_q hk r1 h1) (pyGoL_q hk r2 h2)
    · cases e
end
theorem kvGo_q {k : Nat → Option PyData} (hk : ∀ i a p, W.as[i]? = some a → k i = some p → Dq G.K H (.ref a) p) : ∀ {kvs : List (KK × D)} {vs : List (Key × V)} {ps : List (PyData × PyData)}, RpK G W H kk kvs vs → kvGo k kvs = some ps → DqKv G.K H vs ps
  | [], _, ps, .nil, e => by cases e; exact .nil
  | (c, d) :: l, (c', v) :: vs, ps, .cons h t, e => by
    simp only [kvGo] at e
    split at e
    · rename_i a b h1 h2
      cases e
      have hc : kk c = c' := h.1
      have : keyPK c = keyP c' := by rw [← hc]; cases c <;> rfl
      rw [this]
      exact .cons (pyGo_q hk h.2 h1) (kvGo_q hk t h2)
    · cases e
theorem kR_q (m : MemOk G W H M) : ∀ (n i : Nat) (a : Addr) (p : PyData), W.as[i]? = some a → kR M n i = some p → Dq G.K H (.ref a) p
  | 0, i, a, p, e1, e => by cases e
  | n + 1, i, a, p, e1, e => by
    simp only [kR] at e
    split at e
    · rename_i l hc
      obtain ⟨us, h1, h2⟩ := m.cell i _ a hc e1
      cases q : pyGoL (kR M n) l with
      | none => rw [q] at e; cases e
      | some ps => rw [q] at e; cases e; exact .lst (.inl (.inl h1)) (pyGoL_q (kR_q m n) h2 q)
    · rename_i kvs hc
      obtain ⟨vs, h1, h2⟩ := m.cell i _ a hc e1
      have h1 : H a = some (.dK vs) := h1
      cases q : kvGo (kR M n) kvs with
      | none => rw [q] at e; cases e
      | some ps => rw [q] at e; cases e; exact .dct h1 (kvGo_q (kR_q m n) h2 q)
    · cases e
def oRepr : List D → Mem → R D
  | [d], M => match pyR M d with
    | some p => if showOk p then .ok (.str p.shown.cps.toList) M else .no
    | none => .no
  | _, _ => .no
theorem fn_repr : Fn1 G E (rRepr G.K) oRepr := fun W H M ds us Q m r p => by
  unfold oRepr at p
  split at p
  · rename_i d
    obtain ⟨u, e1, r1⟩ := rp_one r
    subst e1
    split at p
    · rename_i q e
      split at p
      · rename_i hs
        refine ⟨u, q, rfl, pyGo_q (kR_q m 4) r1 e, hs, p.here m _ ?_⟩
        show V.str q.shown = V.str (l2s q.shown.cps.toList)
        rfl
      · exact p.elim
    · exact p.elim
  · exact p.elim
end
end Fn
set_option Elab.async false
set_option linter.all false
set_option maxRecDepth 100000
set_option maxHeartbeats 1000000
namespace Fn
open PySem PySem.Spec PyProof.Rows L2 L2.DX
end Fn
set_option Elab.async false
set_option linter.all false
set_option maxRecDepth 100000
set_option maxHeartbeats 1000000
namespace Fn
open PySem PySem.Spec PyProof.Rows L2
end Fn
set_option Elab.async false
set_option linter.all false
set_option maxRecDepth 100000
set_option maxHeartbeats 2000000
namespace Fn
open PySem PySem.Spec PyProof.Rows L2 L2.DX
section
open Sem (wp)
theorem meets_enum1 {v : Value} {o : Obj} {H : Heap → Prop} (B : Begins v o H) :
    Meets (Builtin.«enumerate.__new__» ⟨[.type "enumerate", v], []⟩) (fun _ R s => H s.heap ∧
      R (.ok (.ret (.ref (s.heap.push o).objs.size))) { s with heap := (s.heap.push o).push { cls := .type "enumerate", data := .fields #[.none, .bool false, .ref s.heap.objs.size, rawInt 0, .none, .none] } }) :=
  .of_wp fun prog w A R s h => by
    obtain ⟨hp, g, d, tk, os⟩ := s
    obtain ⟨h1, h⟩ := h
    have hsub := sub_enumerate
    have q1 : ∀ {A' : Around} {E : Value → Shared → Prop} {Q : Value → Shared → Prop}, Q (.ref hp.objs.size) ⟨hp.push o, g, d, tk, os⟩ → wpAny (model prog w) A' (pyIter v) Q E ⟨hp, g, d, tk, os⟩ :=
      fun q => B.iter prog w _ _ ⟨hp, g, d, tk, os⟩ _ h1 q
    wp_walk using q1
    refine wpAny_stack_any fun st => wpAny_pure ?_
    split
    · rename_i c _ _ _ _ _
      cases (c == Value.type "enumerate")
      · wp_walk using q1
        exact ⟨_, rfl, h⟩
      · wp_walk using q1
        exact ⟨_, rfl, h⟩
    · wp_walk using q1
      exact ⟨_, rfl, h⟩
end
section
variable {prog : Program} {w : World} {A : Around} {E : Value → Shared → Prop} {s : Shared}
theorem enum_begin1 {v : Value} {o : Obj} {H : Heap → Prop} {Q : Value → Shared → Prop} (B : Begins v o H) (h1 : H s.heap)
    (h : ∀ h', IsEnum h' (s.heap.objs.size + 1) s.heap.objs.size 0 .none → h'.get? s.heap.objs.size = some o → (∀ b o, s.heap.get? b = some o → h'.get? b = some o) → Q (.ref (s.heap.objs.size + 1)) { s with heap := h' }) :
    wpAny (model prog w) A (call (.type "enumerate") [v]) Q E s := by
  refine callType_new F.called_enumerate (by decide) (F.typeCall_enumerate_1 _) (F.newCall_enumerate_1 _) (fun obj => F.args_object_init_2 obj _) F.entry_enumerate_new (meets_enum1 B) ⟨h1, ?_⟩
  have hz : (s.heap.push o).objs.size = s.heap.objs.size + 1 := Heap.size_push ..
  show _ ∧ _
  rw [hz]
  have he := Heap.get?_push_size (s.heap.push o) (o := { cls := .type "enumerate", data := .fields #[.none, .bool false, .ref s.heap.objs.size, rawInt 0, .none, .none] }) rfl
  rw [hz] at he
  exact ⟨⟨_, he, rfl⟩, h _ he (Heap.get?_push_of_some _ (Heap.get?_push_size _ B.free)) fun b o x => Heap.get?_push_of_some _ (Heap.get?_push_of_some _ x)⟩
end
/-- the tuple at a, each item in a new pair -/
def IteT (K : PySem.W.Frag) (a : Addr) : It :=
  ⟨fun i H => ∃ (xs : List V) (x : V), SqT K H a xs ∧ xs[i]? = some x, fun i H v H' => ∃ T x, v = .ref T ∧ H T = none ∧ H' = upd H T (.tup [.int (i : Nat), x]) ∧ ∀ xs, SqT K H a xs → xs[i]? = some x, fun i H => ∃ xs : List V, SqT K H a xs ∧ xs.length ≤ i⟩
theorem turn_enumT {P : Program} {w : World} {K : PySem.W.Frag} {elts : List Expr} {kk : Nat} {tpos : Pos} (a e it : Addr) (hai : a ≠ it) (hae : a ≠ e) :
    Turn P w K (.Tuple elts kk tpos) (IteT K a) [e, it] e (fun i h => (∃ old, IsEnum h e it ((i : Nat) : Int) old) ∧ h.IsTupleIter it a i ∧ e ≠ it) where
  mem := by simp
  obj := fun i h st b hb => by
    obtain ⟨⟨old, he⟩, ⟨o, ho, hc, hd⟩, _⟩ := st
    rcases (show b = e ∨ b = it by simpa using hb) with z | z
    · rw [z]; exact ⟨_, he, fun v q => nomatch q⟩
    · rw [z]; exact ⟨o, ho, fun v q => by rw [hd] at q; cases q⟩
  keep := fun i h h' st k => let ⟨⟨old, he⟩, hi, hne⟩ := st; ⟨⟨old, k e (by simp) _ he⟩, hi.at fun o q => k it (by simp) o q, hne⟩
  item := by
    intro X hP hw hK hc i pins s σ H E I hf st hg
    subst hP hw hK
    obtain ⟨⟨old, he⟩, hit, hne⟩ := st
    obtain ⟨xs, x, hq, hx⟩ := hg
    obtain ⟨its, rv, p, hz⟩ := I.tuple hq
    obtain ⟨u, hu, ru⟩ := rv.get hx
    have hel : e < s.heap.objs.size := Heap.lt_size he
    have hil : it < s.heap.objs.size := by obtain ⟨_, q, _⟩ := hit; exact Heap.lt_size q
    have hi : i < its.toArray.size := by
      rw [List.size_toArray]
      exact (List.getElem?_eq_some_iff.mp hu).1
    have D := Draws.tuple (prog := X.prog) (w := X.w) (A := X.A.in1) (I.ok.hd hc) it a hai its.toArray
    refine wpAny_pyNext_enum_itemD D he ⟨hit, p⟩ hi hne (by simp; exact ⟨hne, Ne.symm hae⟩) fun x' h' tk hP ho hst' hT hsz hk => ?_
    have hx' : x' = u := by
      have hP : its.toArray[i]? = some x' := hP
      rw [List.getElem?_toArray, hu] at hP
      cases hP; rfl
    subst hx'
    refine ⟨_, rfl, wpAny_letOwnedTupleGo_enum (s := { s with heap := h', toks := tk + 1 }) ho fun h'' he' sb => ?_⟩
    have hT2 : h''.get? s.heap.objs.size = some { cls := .type "tuple", data := .seq #[.int i tk, x'] } := (sb.2 _ (Nat.ne_of_gt hel)).trans hT
    have new : ObjOk X.prog X.w (upd H s.heap.objs.size (.tup [.int (i : Nat), x])) h'' s.heap.objs.size (.tup [.int (i : Nat), x]) :=
      ⟨by show 2 ≤ sizeLine; decide, [.int i tk, x'], .cons ⟨_, rfl⟩ (.cons ru .nil), ⟨_, hT2, rfl, _, rfl⟩⟩
    have I1 : Inv X pins σ (upd H s.heap.objs.size (.tup [.int (i : Nat), x])) { s with heap := h'', toks := tk + 1 } :=
      I.turnedNew (ch := [e, it]) (fun b ob hb q => (sb.2 b (fun z => hb (by simp [z]))).trans (hk b ob (fun z => hb (by simp [z])) (fun z => hb (by simp [z])) q)) hf (Nat.le_refl _) new
    refine ⟨.ref s.heap.objs.size, _, I1, rfl, ⟨_, x, rfl, I.hok.fresh (Nat.le_refl _), rfl, fun ys hy => by rw [I.tuple_inj hy hq]; exact hx⟩, ⟨⟨x', ?_⟩, hst'.1.at fun o q => (sb.2 it (Ne.symm hne)).trans q, hne⟩, fun b hb => ?_⟩
    · rw [show ((i + 1 : Nat) : Int) = (i : Int) + 1 by omega]; exact he'
    · have hb' : b < s.heap.objs.size := by
        rcases (show b = e ∨ b = it by simpa using hb) with z | z
        · rw [z]; exact hel
        · rw [z]; exact hil
      rw [upd_ne (Nat.ne_of_lt hb')]
      exact (hf b hb).1
  done := by
    intro X hP hw hK hc i pins s σ H E I hf st hg
    subst hP hw hK
    obtain ⟨⟨old, he⟩, hit, hne⟩ := st
    obtain ⟨xs, hq, hx⟩ := hg
    obtain ⟨its, rv, p, hz⟩ := I.tuple hq
    obtain ⟨f0, f1, f2, f3, f4, f5⟩ := hf it (by simp)
    have hl := rv.length
    have hd : (X.A.in1).handled = none := I.ok.hd hc
    unfold pyNext
    have hTT : s.TypeIs (.ref e) "enumerate" := ⟨_, he, rfl⟩
    refine wpAny_bind (wpAny_attempt (wpAny_callSpecial?_slot (name := Str.ofString "__next__") hTT F.slot_enumerate_next
      (wpAny_call_entry F.slot_enumerate_next hTT F.entry_enumerate_next ?_ (F.args_enumerate_next_1 _))))
    show wpAny _ _ (field (.ref e) 2 >>= _) _ _ _
    refine wpAny_bind (wpAny_field he rfl (x := .ref it) rfl ?_)
    refine wpAny_bind (RZ.nextOf_tuple_end hd hit (show s.heap.IsTuple a its.toArray from p) (by simp; omega) fun h' x he' hx' => ?_)
    obtain ⟨o, ho, hcl⟩ := hx'
    refine wpAny_bind (wpAny_isInstance (T := "StopIteration") (b := true) ⟨o, ho, hcl⟩ isSubtype_stop ?_)
    exact wpAny_pure ⟨rfl, I.turned (t' := s.toks) (fun b o hb q => he' b o hb q) f0 f1 f3 f4 f5⟩
  self := fun A i s Q E st h => let ⟨⟨_, he⟩, _⟩ := st; wpAny_pyIter_enum he h
def iEnumT (K : PySem.W.Frag) (ta : TA) : TI := fun σ H R => ta σ H fun vs H1 => ∃ a xs, vs = [.ref a] ∧ ((SqL K H1 a xs ∧ R (Ite K a) H1) ∨ (SqT K H1 a xs ∧ R (IteT K a) H1))
theorem pi_enumA {X : Cx} {e : Expr} {ta : TA} {p pos tpos : Pos} {elts : List Expr} {kk : Nat} (hg : Gl X "enumerate") (hm : X.mg "enumerate" = none) (ha : PA X [e] ta) (hs : starEach [e] X.env = [(false, eval e X.env)] := by rfl) :
    PI X (.Tuple elts kk tpos) (.Call (.Name "enumerate" p) [e] [] pos) (iEnumT X.K ta) := by
  refine ⟨fun pins s σ H R I h => ?_⟩
  refine Call_ (ld_blt I hg hm boot_enumerate (PyProof.Rows.callWith_type1 (thn (ha.run pos pins s σ H _ I h) fun us s1 ⟨vs, H1, I1, r1, q1⟩ => ?_) hs rfl))
  obtain ⟨a, xs, ex, q⟩ := q1
  subst ex
  cases r1 with
  | cons r rr =>
    cases rr
    cases r
    have hge : ∀ b, b ∈ [s1.heap.objs.size + 1, s1.heap.objs.size] → s1.heap.objs.size ≤ b := fun b hb => by
      rcases (show b = s1.heap.objs.size + 1 ∨ b = s1.heap.objs.size by simpa using hb) with z | z
      · rw [z]; exact Nat.le_add_right _ _
      · rw [z]; exact Nat.le_refl _
    rcases q with ⟨hq, q⟩ | ⟨hq, q⟩
    · obtain ⟨its, rv, p', hz⟩ := I1.list hq
      refine enum_begin1 (begins_list a its.toArray) p'.isList fun h' he hit hk => wpAny_pyIter_enum he ?_
      have I2 : Inv X pins σ H1 { s1 with heap := h' } := I1.kept (t' := s1.toks) hk
      exact ⟨s1.heap.objs.size + 1, [s1.heap.objs.size + 1, s1.heap.objs.size], _, _, H1, rfl, I2, turn_enum a (s1.heap.objs.size + 1) s1.heap.objs.size, ⟨⟨.none, he⟩, ⟨_, hit, rfl, rfl⟩, Nat.succ_ne_self _⟩, fun b hb => I1.fpOk (hge b hb) (I1.hok.fresh (hge b hb)), q⟩
    · obtain ⟨its, rv, p', hz⟩ := I1.tuple hq
      have hal : a < s1.heap.objs.size := by obtain ⟨_, e0, _⟩ := p'; exact Heap.lt_size e0
      refine enum_begin1 (begins_tuple a its.toArray) p' fun h' he hit hk => wpAny_pyIter_enum he ?_
      have I2 : Inv X pins σ H1 { s1 with heap := h' } := I1.kept (t' := s1.toks) hk
      exact ⟨s1.heap.objs.size + 1, [s1.heap.objs.size + 1, s1.heap.objs.size], _, _, H1, rfl, I2, turn_enumT a (s1.heap.objs.size + 1) s1.heap.objs.size (Nat.ne_of_lt hal) (Nat.ne_of_lt (Nat.lt_succ_of_lt hal)), ⟨⟨.none, he⟩, ⟨_, hit, rfl, rfl⟩, Nat.succ_ne_self _⟩, fun b hb => I1.fpOk (hge b hb) (I1.hok.fresh (hge b hb)), q⟩
section
variable {X : Cx} {G : Gx} {cl : Nat → Addr} {E : XK} {W : Wd} {H : Hp} {M : Mem} {a b c : Expr} {fa fb fc : FE} {pos : Pos}
theorem src_enumT {W0 : Wd} {H0 : Hp} {l : List D} {a : Addr} (h : ∀ W H M, Kp W0 H0 W H → MemOk G W H M → ∃ us, SqT G.K H a us ∧ RpL G W H l us) : SrcOk G W0 H0 ⟨numb l, fun _ => True⟩ (IteT G.K a) where
  item := fun W H M f _ m st i d e => by
    obtain ⟨us, h1, h2⟩ := h W H M f m
    obtain ⟨y, e1, rfl⟩ := numb_get e
    obtain ⟨u, e2, r2⟩ := h2.get e1
    refine ⟨⟨us, u, h1, e2⟩, fun x H' z => ?_⟩
    obtain ⟨T, x', rfl, hT, rfl, hx⟩ := z
    have := hx us h1
    rw [e2] at this; cases this
    exact ⟨Fut.laid hT, m.laid hT, T, _, rfl, .inl upd_same, _, _, rfl, rfl, _, _, rfl, m.rp (Fut.laid hT) r2, rfl⟩
  stop := fun W H M f _ m st => by
    obtain ⟨us, h1, h2⟩ := h W H M f m
    exact ⟨us, h1, by rw [numb_len, h2.len]; exact Nat.le_refl _⟩
end
end Fn
set_option Elab.async false
set_option linter.all false
set_option maxRecDepth 100000
set_option maxHeartbeats 2000000
namespace Fn
open PySem PySem.Spec PyProof.Rows L2 L2.DX
end Fn
set_option Elab.async false
set_option linter.all false
set_option maxRecDepth 100000
set_option maxHeartbeats 2000000
namespace Fn
open PySem PySem.Spec PyProof.Rows L2 L2.DX
section
variable {X : Cx} {G : Gx} {cl : Nat → Addr} {E : XK} {W : Wd} {H : Hp} {M : Mem} {a b c : Expr} {fa fb fc : FE} {pos : Pos}
def rSortS (G : Gx) : List V → Hp → VK → Prop := fun vs H Q => ∃ (W : Wd) (a : Addr) (kvs : List (KK × D)) (ws : List (Key × V)), vs = [V.ref a] ∧ H a = some (.dK ws) ∧ RpK G W H kk kvs ws ∧ sortOk (kvs.map fun kv => keyD kv.1) ∧
  ∀ us' p, RpL G W H (sortD (kvs.map fun kv => keyD kv.1)) us' → H p = none → Q (.ref p) (upd H p (.lst us'))
theorem rpL_keysS : ∀ {kvs : List (KK × D)} {ws : List (Key × V)}, RpK G W H kk kvs ws → RpL G W H (kvs.map fun kv => keyD kv.1) (ws.map fun q => kV q.1)
  | _, _, .nil => rfl
  | (k, d) :: kvs, (k', v) :: ws, .cons h t => by
    have h1 : kk k = k' := h.1
    subst h1
    exact ⟨_, _, rfl, keyD_rp _, rpL_keysS t⟩
theorem pairs_keys {P : Program} {w : World} : ∀ {es : List DictEntry} {ws : List (Key × Value)} {vs : List (Key × V)}, Pairs (mixKind P w) es ws → KV vs ws → Vals (vs.map fun q => kV q.1) (es.map (·.key))
  | [], _, _, .nil, .nil => .nil
  | e :: es, (k, v) :: ws, _ :: vs, .cons h1 h2 h3, .cons r1 r2 => by
    have hk : keyIs k e.key = true := h1
    have e1 := r1.1
    refine .cons ?_ (pairs_keys h3 r2)
    show L2.RelV (kV _) e.key
    rw [e1]
    rcases keyIs_shape hk with ⟨i, t, q1, q2⟩ | ⟨x, t, q1, q2⟩
    · subst q1; rw [q2]; exact ⟨t, rfl⟩
    · subst q1; rw [q2]; exact ⟨t, rfl⟩
theorem cr_sortS (hc : X.calm = true) (hu : X.A.units + 64 < cLine) : CallR X (.builtin "sorted") (rSortS ⟨X.K, cl, X.w⟩) := by
  intro pins s σ H vs us Q I r h
  obtain ⟨W, d, kvs, ws, rfl, hd, hr, hk, q⟩ := h
  obtain ⟨u, rfl, rx⟩ := r.one
  cases rx
  obtain ⟨hz, hs, vs', kv, o, es, ep, ho, hx, hdt, hn, hp, hnd⟩ := I.hok _ _ hd
  have l1 : es.size = ws.length := by
    have := (pairs_keys hp kv).length
    rw [List.length_map, List.length_map, Array.length_toList] at this
    exact this.symm
  refine Calls.call_function_entry PyProof.Rows.kind_sorted PyProof.Rows.plain_sorted PyProof.Rows.entry_sorted (PyProof.Rows.args_sorted1 _) ?_
  unfold Builtin.«sorted»; refine wpAny_bind (m := checkCount "sorted" 1 1 _) (wpAny_pure ?_)
  refine wpAny_bind (PySem.W.kdu_collect (A := X.A.in1) (kdl_raw hs hx hdt) (I.ok.hd hc) ho (by omega) fun h' tk acc' kp it => ?_)
  have eb : acc'.toList = es.toList.map (·.key) := by
    have hl : acc'.toList.length = es.toList.length := by rw [Array.length_toList, Array.length_toList, it.1]
    apply List.ext_getElem?
    intro j; rw [List.getElem?_map]
    cases hj : acc'.toList[j]? with
    | none =>
      have h1 := List.getElem?_eq_none_iff.mp hj
      rw [List.getElem?_eq_none (by omega)]; rfl
    | some v =>
      obtain ⟨en, hen, hv⟩ := it.2 j v (by rw [← Array.getElem?_toList]; exact hj)
      rw [Array.getElem?_toList, hen, hv]; rfl
  have rv : Vals (ws.map fun q => kV q.1) acc'.toList := by rw [eb]; exact pairs_keys hp kv
  have rp := rpL_keysS hr
  have e := eachIs_rp (h := s.heap) rp rv
  have hlen : acc'.toList.length = (kvs.map fun kv => keyD kv.1).length := by rw [← rv.length, rp.len]
  have hL : (kvs.map fun kv => keyD kv.1).length ≤ sizeLine := by rw [← rp.len, List.length_map]; omega
  refine wpAny_bind (wpAny_newList ?_ (by rw [hlen]; exact hL))
  have hoL : (h'.push (seqObj "list" acc'.toList.toArray 0)).get? h'.objs.size = some (seqObj "list" acc'.toList.toArray 0) := Heap.get?_push_size _ rfl
  have I1 : Inv X pins σ H { s with heap := h', toks := tk } := I.kept kp
  have er : PySem.W.EachIs (fun v d => ∃ as, Reads (h'.push (seqObj "list" acc'.toList.toArray 0)) v (encD d) as ∧ h'.objs.size ∉ as) acc'.toList (kvs.map fun kv => keyD kv.1) := eachIs_mono e fun v d hd ⟨u, h1, h2⟩ => by
    obtain ⟨kv, _, rfl⟩ := List.mem_map.mp hd
    have hpy : pyD (keyD kv.1) = some (encD (keyD kv.1)) := by cases kv.1 <;> rfl
    have hat : atomP (encD (keyD kv.1)) = true := by cases kv.1 <;> rfl
    obtain ⟨as, ra⟩ := Dp.reads I _ u v (pyD_ok h1 hpy) h2
    have : as = [] := reads_atom ra hat
    subst this
    exact ⟨[], Reads.keeps (fun b o q => Heap.get?_push_of_some _ (kp b o q)) ra, by simp⟩
  refine wpAny_bind (wpAny_holding (wpAny_mono (PySem.W.list_sort_data (s := { s with heap := h'.push (seqObj "list" acc'.toList.toArray 0), toks := tk }) (vs := acc'.toList) (n := 0) hoL e er (fun p hp p' hp' => ?_) (.inr fun p hp => ?_) hL (fun d hd => ?_) (Q := fun _ s' => EP X pins σ Q (.ref h'.objs.size) s') fun out ho' eo => ?_) (fun _ s' x => wpAny_pure ⟨_, rfl, x⟩) fun _ _ e => e))
  · obtain ⟨d, hd, rfl⟩ := List.mem_map.mp hp
    obtain ⟨d', hd', rfl⟩ := List.mem_map.mp hp'
    exact hk.2.1 d hd d' hd'
  · obtain ⟨d, hd, rfl⟩ := List.mem_map.mp hp
    obtain ⟨kv, hkv, rfl⟩ := List.mem_map.mp hd
    cases kv.1 with
    | inl i => exact ⟨(by intro z; cases z), (by intro xs z; cases z)⟩
    | inr x => exact ⟨(by intro z; cases z), (by intro xs z; cases z)⟩
  · have := (hk.1 d hd).2
    have h5 : X.A.in1.units = X.A.units + 1 := rfl
    rw [h5]; omega
  · obtain ⟨us', h1, h2⟩ := eachIs_back eo
    obtain ⟨e', he'⟩ := PyProof.Rows.sortedHeap_at (vs := acc'.toList) (out := out.toArray) hoL
    have hlen' : us'.length ≤ sizeLine := by rw [h2.length, ho']; exact hL
    refine ⟨.ref h'.objs.size, upd H h'.objs.size (.lst us'), I1.laid (t' := tk) (fun b u e => ?_) (Nat.le_refl _) ⟨hlen', out, e', h2, he'⟩, rfl, q us' _ h1 (I1.hok.fresh (Nat.le_refl _))⟩
    have hb : b < h'.objs.size := Heap.lt_size e
    rw [PyProof.Rows.sortedHeap_old (Nat.ne_of_lt hb) (by rw [size_push']; exact Nat.lt_succ_of_lt hb)]
    exact Heap.get?_push_of_some _ e
open Classical in
noncomputable def oSortS (c : Bool) : List D → Mem → R D
  | [.ref i], M => match M[i]? with
    | some (.dk false kvs) => if sortOk (kvs.map fun kv => keyD kv.1) then mkL c (sortD (kvs.map fun kv => keyD kv.1)) M else .no
    | _ => .no
  | _, _ => .no
theorem fn_sortS {c : Bool} : Fn1 G E (rSortS G) (oSortS c) := fun W H M ds us Q m r p => by
  unfold oSortS at p
  split at p
  · rename_i i
    obtain ⟨u, e1, r1⟩ := rp_one r
    subst e1
    obtain ⟨a1, h1, rfl⟩ := r1
    split at p
    · rename_i kvs hc
      split at p
      · rename_i hs
        obtain ⟨vs, c1, c2⟩ := m.cell _ _ a1 hc h1
        have c1 : H a1 = some (.dK vs) := c1
        exact ⟨W, a1, kvs, vs, rfl, c1, c2, hs, fun us' p' r' hp => mkL_new m p r' p' hp⟩
      · exact p.elim
    · exact p.elim
  · exact p.elim
end
end Fn
set_option Elab.async false
set_option linter.all false
set_option maxRecDepth 100000
set_option maxHeartbeats 2000000
namespace Fn
open PySem PySem.Spec PyProof.Rows L2
/-- a def of the text, its defaults any -/
structure FunV (K : PySem.W.Frag) (x qual : Str) (st : Stmt) (f : Addr) (fd : FuncData) : Prop where
  ex : ∃ (oc : Value) (od : Option Addr) (dV kV doc pm : Value) (an : Option Addr) (cdv ct : Value) (osl : Array (Option Value)),
    fd = PySem.W.fnOf x qual (defArgs st) (defBody st) (defScope st) dV kV doc pm an cdv ct ∧ K.lookup f = some ⟨oc, od, .func fd, osl⟩ ∧ PySem.W.codeIn K cdv qual = true
  kp : PySem.W.keepIn K (.ref f) = true
section
variable {P : Program} {w : World} {K : PySem.W.Frag} {mg : Str → Option Value} {base : Heap} {x qual : Str} {st : Stmt} {f : Addr} {fd : FuncData} {N ps : List Str} {k : Nat} {g : FD} {B : FS} {cl : Nat → Addr}
theorem funV_mk {oc : Value} {od an : Option Addr} {osl : Array (Option Value)} {dV kV doc pm cdv ct : Value} (l : K.lookup f = some ⟨oc, od, .func (PySem.W.fnOf x qual (defArgs st) (defBody st) (defScope st) dV kV doc pm an cdv ct), osl⟩)
    (c : PySem.W.codeIn K cdv qual = true) (k : PySem.W.keepIn K (.ref f) = true) : FunV K x qual st f (PySem.W.fnOf x qual (defArgs st) (defBody st) (defScope st) dV kV doc pm an cdv ct) := ⟨⟨oc, od, dV, kV, doc, pm, an, cdv, ct, osl, rfl, l, c⟩, k⟩
theorem fn_defV (F : FunV K x qual st f fd) (S : FnScope N ps (defScope st))
    (hbody : ∀ (cdv : Value) (A : Around) (outer : List PySem.Env) (s : Shared) (H : Hp) (E : XK), Room k (A.deeper (envOfC qual (defScope st) s.heap.objs.size f cdv)) →
      PSs (cxOf CX0 P w K mg base N qual (defScope st) f cdv A outer s H E).nox (defBody st) (tS ⟨K, cl, w⟩ E B))
    (href : ∀ ds M, ds.length = ps.length → Ref M (g ds M) (B (envStart N.length ds) M)) : FnOk P w K mg base CX0 (k + 1) f fd ps (spOf ⟨K, cl, w⟩ ps.length g) := by
  obtain ⟨oc, od, dV, kV, doc, pm, an, cdv, ct, osl, rfl, lk, hcd⟩ := F.ex
  refine fn_of lk hcd S (fun vs H Q E ⟨W, M, ds, m, r, hl, _⟩ => by rw [r.len, hl]) fun A outer s H vs Q E hr ⟨W, M, ds, m, r, hl, p⟩ => ?_
  exact ⟨_, (hbody cdv A outer s H E hr).nox, W, envStart N.length ds, M, ⟨m, envStart_ok r⟩, href ds M hl _ W H Q E m p⟩
end
end Fn
set_option Elab.async false
set_option linter.all false
set_option maxRecDepth 100000
set_option maxHeartbeats 1000000
namespace LZ
open PySem PyProof.Rows
open PySem.Sem (wp)
section
variable {prog : Program} {w : World} {A : Around} {E : Value → Shared → Prop} {s : Shared}
/-- where a zip of tuples stands, its tuple out or not -/
def Zst (h : Heap) (z TI TO i1 i2 l1 l2 S : Addr) (xs ys : Array Value) (i : Nat) : Prop := IsPair h TI (.ref i1) (.ref i2) ∧ h.IsTupleIter i1 l1 i ∧ h.IsTupleIter i2 l2 i ∧ h.IsTuple l1 xs ∧ h.IsTuple l2 ys ∧
  ((IsZip h z TI TO .none ∧ ∃ a b, IsPair h TO a b) ∨ ∃ T f oT, IsZipHeld h z TI TO T f ∧ h.get? T = some oT ∧ T ≠ z ∧ T ≠ i1 ∧ T ≠ i2 ∧ T ≠ S)
structure Off (S z TI TO i1 i2 l1 l2 : Addr) : Prop where
  z : S ≠ z
  TI : S ≠ TI
  TO : S ≠ TO
  i1 : S ≠ i1
  i2 : S ≠ i2
  l1 : S ≠ l1
  l2 : S ≠ l2
theorem Zst.keep {h h' : Heap} {z TI TO i1 i2 l1 l2 S : Addr} {xs ys : Array Value} {i : Nat} (O : Off S z TI TO i1 i2 l1 l2) (st : Zst h z TI TO i1 i2 l1 l2 S xs ys i) (hk : ∀ b o, b ≠ S → h.get? b = some o → h'.get? b = some o) : Zst h' z TI TO i1 i2 l1 l2 S xs ys i := by
  obtain ⟨hTI, h1, h2, hl1, hl2, hz⟩ := st
  refine ⟨hk _ _ (Ne.symm O.TI) hTI, h1.at fun o e => hk _ o (Ne.symm O.i1) e, h2.at fun o e => hk _ o (Ne.symm O.i2) e, hl1.at fun o e => hk _ o (Ne.symm O.l1) e, hl2.at fun o e => hk _ o (Ne.symm O.l2) e, ?_⟩
  rcases hz with ⟨hz, a, b, hTO⟩ | ⟨T, f, oT, hz, hT, r1, r2, r3, r4⟩
  · exact .inl ⟨hk _ _ (Ne.symm O.z) hz, a, b, hk _ _ (Ne.symm O.TO) hTO⟩
  · exact .inr ⟨T, f, oT, hk _ _ (Ne.symm O.z) hz, hk _ _ r4 hT, r1, r2, r3, r4⟩
/-- the pairs that came -/
structure ZG (xs ys : Array Value) (lo : Addr) (h : Heap) (as : List Addr) : Prop where
  rise : as.Pairwise (· < ·)
  above : ∀ a ∈ as, lo < a
  pairs : ∀ (j : Nat) (a : Addr), as[j]? = some a → ∃ x y, xs[j]? = some x ∧ ys[j]? = some y ∧ IsPair h a x y
theorem ZG.there {xs ys : Array Value} {lo : Addr} {h : Heap} {as : List Addr} (g : ZG xs ys lo h as) {a : Addr} (ha : a ∈ as) : a < h.objs.size := by
  obtain ⟨j, hj⟩ := List.mem_iff_getElem?.mp ha
  obtain ⟨_, _, _, _, e⟩ := g.pairs j a hj
  exact Heap.lt_size e
end
end LZ
set_option Elab.async false
set_option linter.all false
set_option maxRecDepth 100000
set_option maxHeartbeats 1000000
namespace LZ
open PySem PyProof.Rows PySem.Calls
open PySem.Sem (wp)
section
variable {prog : Program} {w : World} {A : Around} {E : Value → Shared → Prop} {s : Shared} {z TI TO i1 i2 l1 l2 S : Addr} {xs ys : Array Value}
/-- a zip that has not begun -/
structure Z0 (h : Heap) (z TI TO i1 i2 l1 l2 : Addr) (xs ys : Array Value) : Prop where
  hz : IsZip h z TI TO .none
  hTI : IsPair h TI (.ref i1) (.ref i2)
  hTO : ∃ a b, IsPair h TO a b
  h1 : h.IsTupleIter i1 l1 0
  h2 : h.IsTupleIter i2 l2 0
  hl1 : h.IsTuple l1 xs
  hl2 : h.IsTuple l2 ys
theorem Z0.keep {h h' : Heap} (st : Z0 h z TI TO i1 i2 l1 l2 xs ys) (O : Off S z TI TO i1 i2 l1 l2) (hk : ∀ b o, b ≠ S → h.get? b = some o → h'.get? b = some o) : Z0 h' z TI TO i1 i2 l1 l2 xs ys := by
  obtain ⟨hz, hTI, ⟨a, b, hTO⟩, h1, h2, hl1, hl2⟩ := st
  exact ⟨hk _ _ (Ne.symm O.z) hz, hk _ _ (Ne.symm O.TI) hTI, ⟨a, b, hk _ _ (Ne.symm O.TO) hTO⟩, h1.at fun o e => hk _ o (Ne.symm O.i1) e, h2.at fun o e => hk _ o (Ne.symm O.i2) e, hl1.at fun o e => hk _ o (Ne.symm O.l1) e, hl2.at fun o e => hk _ o (Ne.symm O.l2) e⟩
theorem Z0.st {h : Heap} (st : Z0 h z TI TO i1 i2 l1 l2 xs ys) : Zst h z TI TO i1 i2 l1 l2 S xs ys 0 := ⟨st.hTI, st.h1, st.h2, st.hl1, st.hl2, .inl ⟨st.hz, st.hTO⟩⟩
end
end LZ
set_option Elab.async false
set_option linter.all false
set_option maxRecDepth 100000
set_option maxHeartbeats 2000000
set_option Elab.async false
set_option linter.all false
set_option maxRecDepth 100000
set_option maxHeartbeats 1000000
namespace Fn
open PySem PySem.Spec PyProof.Rows L2
end Fn
set_option Elab.async false
set_option linter.all false
set_option maxRecDepth 100000
set_option maxHeartbeats 1000000
namespace UnL
open PySem PyProof.Rows
open PySem.Sem (wp)
section
variable {prog : Program} {w : World} {A : Around} {E : Value → Shared → Prop} {s : Shared}
theorem draw_list {it t : Addr} {items : Array Value} (hne : t ≠ it) : ∀ (n i : Nat) (s : Shared) (Q : List Value → Shared → Prop), s.heap.IsListIter it t i → s.heap.IsList t items → i + n ≤ items.size →
    (∀ h', h'.IsListIter it t (i + n) → Heap.SameBut it s.heap h' → Q ((items.toList.drop i).take n) { s with heap := h' }) → wpAny (model prog w) A (draw (.ref it) n) Q E s
  | 0, i, s, Q, hit, _, _, hQ => by
    show wpAny _ _ (pure []) Q E s
    exact wpAny_pure (by simpa using hQ s.heap hit (Heap.SameBut.refl ..))
  | n + 1, i, s, Q, hit, ht, hle, hQ => by
    have hlt : i < items.size := by omega
    show wpAny _ _ (pyNext (.ref it) >>= _) Q E s
    refine wpAny_bind (wpAny_pyNext_list_item hit ht (x := items[i]) (by simp [hlt]) fun h₁ hit₁ hs₁ => ?_)
    refine wpAny_bind (wpAny_holding (draw_list hne n (i + 1) _ _ hit₁ (ht.extBut hs₁.extBut hne) (by omega) fun h₂ hit₂ hs₂ => wpAny_pure ?_))
    have hd : items.toList.drop i = items[i] :: items.toList.drop (i + 1) := by simp [List.drop_eq_getElem_cons, hlt]
    have := hQ h₂ (by rw [show i + (n + 1) = i + 1 + n by omega]; exact hit₂) (hs₁.trans hs₂)
    rw [hd, List.take_succ_cons] at this
    exact this
theorem unpackItems_list {t : Addr} {items : Array Value} {Q : List Value → Shared → Prop} (hh : A.handled = none) (ht : s.heap.IsList t items)
    (hQ : ∀ h', Heap.ExtBut s.heap.objs.size s.heap h' → Q items.toList { s with heap := h' }) : wpAny (model prog w) A (unpackItems (.ref t) items.size none) Q E s := by
  have hlt : t ≠ s.heap.objs.size := by obtain ⟨o, ho, _⟩ := ht; exact Nat.ne_of_lt (Heap.lt_size ho)
  unfold unpackItems
  refine wpAny_bind ?_
  · unfold notIterableAtAll
    refine wpAny_bind (wpAny_specialOf ht.typeIs slot_list_iter.lookup ?_)
    refine wpAny_pure ?_
    simp only [Bool.false_eq_true, if_false]
    refine wpAny_bind (wpAny_holding (wpAny_pyIter_list ht ?_))
    have hp : ∀ {o : Obj}, (s.heap.push o).IsList t items := fun {o} => ht.at fun o' e => Heap.get?_push_of_some _ e
    refine wpAny_bind (wpAny_holding (draw_list hlt items.size 0 _ _ ⟨_, Heap.get?_push_size _ rfl, rfl, rfl⟩ hp (by omega) fun h₁ hit₁ hs₁ => ?_))
    have hall : List.take items.size (List.drop 0 items.toList) = items.toList := by
      rw [List.drop_zero]; exact List.take_of_length_le (by simp)
    rw [hall]
    rw [if_neg (by simp)]
    have ht₁ : h₁.IsList t items := hp.extBut hs₁.extBut hlt
    refine wpAny_bind (wpAny_holding (wpAny_pyNext_list_end hh hit₁ ht₁ (by simp) fun h₂ he₂ => ?_))
    simp only [Option.isSome_none, Bool.false_eq_true, if_false]
    refine wpAny_pure (hQ h₂ fun b o hb e => he₂ b o hb (hs₁.extBut b o hb (Heap.get?_push_of_some _ e)))
theorem unpack_list {t : Addr} {items : Array Value} {targets : List (Bool × (Value → Sem Unit))} {Q : Unit → Shared → Prop} (hh : A.handled = none) (ht : s.heap.IsList t items)
    (hn : targets.length = items.size) (hstar : targets.findIdx? (·.1) = none)
    (h : ∀ h', Heap.ExtBut s.heap.objs.size s.heap h' → wpAny (model prog w) A (assignInOrder (targets.map (·.2)) items.toList) Q E { s with heap := h' }) :
    wpAny (model prog w) A (unpack (.ref t) targets) Q E s := by
  unfold unpack
  rw [hn, hstar]
  exact wpAny_bind (wpAny_holding (unpackItems_list hh ht h))
theorem assign_Tuple_list {env : Env} {elts : List Expr} {x1} {pos : Pos} {t : Addr} {items : Array Value} {Q : Unit → Shared → Prop} (hh : A.handled = none) (ht : s.heap.IsList t items)
    (hn : (assignEach elts env).length = items.size) (hstar : (assignEach elts env).findIdx? (·.1) = none)
    (h : ∀ h', Heap.ExtBut s.heap.objs.size s.heap h' → wpAny (model prog w) A (assignInOrder ((assignEach elts env).map (·.2)) items.toList) Q E { s with heap := h' }) :
    wpAny (model prog w) A (assign (.Tuple elts x1 pos) env (.ref t)) Q E s := by
  rw [assign_Tuple]
  exact wpAny_bind (wpAny_standAt (unpack_list hh ht hn hstar h))
end
end UnL
namespace Fn
open PySem PySem.Spec PyProof.Rows L2
section
variable {X : Cx} {G : Gx} {cl : Nat → Addr} {E : XK} {W : Wd} {H : Hp} {M : Mem}
def gTupA (K : PySem.W.Frag) (n : Nat) (t : TGs) : TG := fun v σ H Q => ∃ a xs, v = .ref a ∧ (SqT K H a xs ∨ SqL K H a xs) ∧ xs.length = n ∧ t xs σ H Q
theorem pg_tupA {es : List Expr} {k : Nat} {t : TGs} {n : Nat} {pos : Pos} (hc : X.calm = true) (h : PGs X es t)
    (hn : (assignEach es X.env).length = n := by rfl) (hst : (assignEach es X.env).findIdx? (·.1) = none := by rfl) : PG X (.Tuple es k pos) (gTupA X.K n t) := by
  refine ⟨fun pins s σ H v u Q I r hw => ?_⟩
  obtain ⟨a, xs, e1, hq, hl, hw⟩ := hw
  rcases hq with hq | hq
  · exact (pg_tup hc h hn hst).run pins s σ H v u Q I r ⟨a, xs, e1, hq, hl, hw⟩
  · subst e1
    cases r
    obtain ⟨its, rv, ht, hz⟩ := I.list hq
    refine UnL.assign_Tuple_list (I.ok.hd hc) ht.isList (by simp [hn, ← hl, rv.length]) hst fun h' hx => ?_
    have I1 : Inv X pins σ H { s with heap := h' } := I.kept (t' := s.toks) fun b o e => hx b o (Nat.ne_of_lt (Heap.lt_size e)) e
    exact h.run pins _ σ H xs _ Q I1 (by simpa using rv) hw
end
end Fn
set_option Elab.async false
set_option linter.all false
set_option maxRecDepth 100000
set_option maxHeartbeats 1000000
namespace Fn
open PySem PySem.Spec PyProof.Rows L2 L2.DX
section
variable {X : Cx} {G : Gx} {cl : Nat → Addr} {E : XK} {W : Wd} {H : Hp} {M : Mem} {a b c : Expr} {fa fb fc : FE} {pos : Pos}
def mOrT (f g : FE) : FE := fun env M => (f env M).bind fun d m => match truD m d with
  | some true => .ok d m
  | some false => g env m
  | none => .no
theorem sn_orT {rest : List Expr} (ha : PE X a (tE ⟨X.K, cl, X.w⟩ E fa)) (hb : PE X (.BoolOp .Or (b :: rest) pos) (tE ⟨X.K, cl, X.w⟩ E fb)) : PE X (.BoolOp .Or (a :: b :: rest) pos) (tE ⟨X.K, cl, X.w⟩ E (mOrT fa fb)) := pe_imp (pe_orT ha hb) fun σ H Q ⟨W, env, M, s, p⟩ => by
  refine tE.bind s p fun d m W1 H1 u f1 s1 r1 p1 => ?_
  split at p1
  · rename_i e
    exact ⟨true, truD_ok s1.mem r1 e, by rw [if_pos rfl]; exact p1.here s1.mem _ r1⟩
  · rename_i e
    exact ⟨false, truD_ok s1.mem r1 e, by rw [if_neg Bool.false_ne_true]; exact ⟨W1, env, m, s1, p1⟩⟩
  · exact p1.elim
def most (a : Int) : List Int → Int
  | [] => a
  | b :: r => most (if b > a then b else a) r
end
end Fn
set_option Elab.async false
set_option linter.all false
set_option maxRecDepth 100000
set_option maxHeartbeats 1000000
set_option Elab.async false
set_option linter.all false
set_option maxRecDepth 100000
set_option maxHeartbeats 1000000
namespace Fn
open PySem PySem.Spec PyProof.Rows L2 L2.DX
end Fn
set_option Elab.async false
set_option linter.all false
set_option maxRecDepth 100000
set_option maxHeartbeats 1000000
namespace Fn
open PySem PySem.Spec PyProof.Rows L2
section
variable {X : Cx} {G : Gx} {cl : Nat → Addr} {E : XK} {W : Wd} {H : Hp} {M : Mem} {a b c : Expr} {fa fb fc : FE} {pos : Pos}
def enX (d : D) (m : Mem) : R Src := match d with
  | .tup l => .ok ⟨numb l, fun _ => True⟩ m
  | d => match lstOf m d, srcOf m d with
    | some l, some s => .ok ⟨numb l, s.still⟩ m
    | _, _ => .no
def iEnumX (f : FE) : FI := fun env M => (f env M).bind enX
theorem iEnumX_eq {env : Fn.Env} : iEnumX fa env M = (fa env M).bind enX := rfl
theorem enX_tup (l : List D) : enX (.tup l) M = .ok ⟨numb l, fun _ => True⟩ M := rfl
theorem si_enumX {p tpos : Pos} {elts : List Expr} {kk : Nat} (hg : Gl X "enumerate") (hm : X.mg "enumerate" = none) (ha : PE X a (tE ⟨X.K, cl, X.w⟩ E fa)) (hs : starEach [a] X.env = (false, eval a X.env) :: starEach [] X.env := by rfl) (hs1 : starEach [a] X.env = [(false, eval a X.env)] := by rfl) :
    PI X (.Tuple elts kk tpos) (.Call (.Name "enumerate" p) [a] [] pos) (tI ⟨X.K, cl, X.w⟩ E (iEnumX fa)) := pi_imp (pi_enumA hg hm (sa_cons ha sa_nil hs) hs1) fun σ H Rr ⟨W, env, M, s, p⟩ => by
  refine tA.bind (K := PI' ⟨X.K, cl, X.w⟩ Rr) (f := aCons fa aNil) (k := fun ds m => match ds with | [d] => enX d m | _ => .no) s ?_ fun ds m W1 H1 us f1 s1 r1 p1 => ?_
  · rw [aCons_bind]
    exact p
  · split at p1
    · rename_i d
      obtain ⟨u, rfl, r2⟩ := rp_one r1
      unfold enX at p1
      split at p1
      · rename_i l
        have k := p1.here s1.mem
        obtain ⟨a1, us, rfl, h2, h3⟩ := id r2
        refine ⟨a1, us, rfl, .inr ⟨h2.sq, k _ (src_enumT fun W2 H2 M2 f2 m2 => ?_) trivial⟩⟩
        obtain ⟨a', us', q1, q2, q3⟩ := Rp.kp f2 _ _ r2
        cases q1
        exact ⟨us', q2.sq, q3⟩
      · split at p1
        · rename_i l src e1 e2
          have k := p1.here s1.mem
          obtain ⟨a1, us, rfl, h2, h3⟩ := lstOf_ok s1.mem r2 e1
          obtain ⟨st, _⟩ := srcOf_ok s1.mem r2 e2
          refine ⟨a1, us, rfl, .inl ⟨h2, k _ (src_enum fun W2 H2 M2 f2 m2 st2 => ?_) st⟩⟩
          have r3 := Rp.kp f2 _ _ r2
          cases d with
          | ref i =>
            simp only [srcOf] at e2
            split at e2
            · rename_i l' hc
              cases e2
              have : lstOf M2 (.ref i) = some l := by
                simp only [lstOf, hc] at e1
                cases e1
                have st2' : M2[i]? = some (.lst l) := st2
                simp only [lstOf, st2']
              obtain ⟨a', us', e', h', r'⟩ := lstOf_ok m2 r3 this
              cases e'
              exact ⟨us', h', r'⟩
            · cases e2
          | lst l' =>
            cases e1
            obtain ⟨a', us', e', h', r'⟩ := lstOf_ok m2 r3 (d := .lst l) rfl
            cases e'
            exact ⟨us', h', r'⟩
          | fz l' =>
            cases e1
            obtain ⟨a', us', e', h', r'⟩ := lstOf_ok m2 r3 (d := .fz l) rfl
            cases e'
            exact ⟨us', h', r'⟩
          | _ => cases e1
        · exact p1.elim
    · exact p1.elim
end
end Fn
set_option Elab.async false
set_option linter.all false
set_option maxRecDepth 100000
set_option maxHeartbeats 1000000
namespace Fn
open PySem PySem.Spec PyProof.Rows L2
section
variable {X : Cx} {G : Gx} {cl : Nat → Addr} {E : XK} {W : Wd} {H : Hp} {M : Mem} {a b c : Expr} {fa fb fc : FE} {pos : Pos}
open Classical in
noncomputable def dcL (P : Mem → Prop) (g : FG) (t : FT) (fk fv : FE) (env : Env) (j : Nat) : List D → Mem → R Unit
  | [], M => if P M then .ok () M else .no
  | d :: r, M => if P M then (g d env M).bind fun env1 m1 => (t env1 m1).bind fun b m2 => if b = true then (fk env1 m2).bind fun y m3 => (fv env1 m3).bind fun z m4 => match m4[j]?, keyK y with
      | some (.dk false kvs), some k => if kvs.length < 16777216 then dcL P g t fk fv env j r (m4.set j (.dk false (pA kvs k z))) else .no
      | _, _ => .no
    else dcL P g t fk fv env j r m2
    else .no
noncomputable def mDc (vs : List Nat) (fi : FI) (g : FG) (t : FT) (fk fv : FE) : FE := fun env M => (fi env M).bind fun src m => (dcL src.still g t fk fv (wipeE env vs) m.length src.items (m ++ [.dk false []])).nox.bind fun _ m' => .ok (.ref m.length) m'
theorem tDc_of {E' : XK} {vs : List Nat} {fi : FI} {g : FG} {t : FT} {fk fv : FE} (σ : L2.St) (H : Hp) (Q : VK) (h : tE G E (mDc vs fi g t fk fv) σ H Q) : tDc (tI G E fi) (tGt G E' vs g) (tT G E' t) (tE G E' fk) (tE G E' fv) vs σ H Q := by
  obtain ⟨W, env, M, s, p⟩ := h
  refine ⟨W, env, M, s, PR.bind p fun src m W0 H0 f0 k0 p0 => fun J sj st0 => fun D0 hD0 => ?_⟩
  have s0 := s.fut f0 k0
  obtain ⟨m', hrun⟩ : ∃ m', dcL src.still g t fk fv (wipeE env vs) m.length src.items (m ++ [.dk false []]) = .ok () m' := by
    cases hc : dcL src.still g t fk fv (wipeE env vs) m.length src.items (m ++ [.dk false []]) with
    | ok ys m' => exact ⟨m', rfl⟩
    | ex c fs m' => rw [hc] at p0; exact p0.elim
    | no => rw [hc] at p0; exact p0.elim
  rw [hrun] at p0
  have q0 : PR G W0 H0 (PV G Q) E (.ok (.ref m.length) m') := p0
  have fA : Fut W0 H0 ⟨W0.as ++ [D0], W0.hd⟩ (upd H0 D0 (.dK [])) := Fut.added k0 hD0
  have mA : MemOk G ⟨W0.as ++ [D0], W0.hd⟩ (upd H0 D0 (.dK [])) (m ++ [.dk false []]) := k0.added hD0 ⟨[], upd_same, .nil⟩
  have aA : (W0.as ++ [D0])[m.length]? = some D0 := by rw [← k0.len]; simp
  refine ⟨fun i n H' => n + i = src.items.length ∧ ∃ W1 M1, dcL src.still g t fk fv (wipeE env vs) m.length (src.items.drop i) M1 = .ok () m' ∧ Fut W0 H0 W1 H' ∧ MemOk G W1 H' M1 ∧ W1.as[m.length]? = some D0, ⟨src.items.length, rfl, _, _, hrun, fA, mA, aA⟩, ?_⟩
  rintro i n H1 ⟨hn, W1, M1, h1, h4, h5, h6⟩
  cases hd : src.items.drop i with
  | nil =>
    rw [hd] at h1
    unfold dcL at h1
    split at h1
    · rename_i hP
      cases h1
      have hl : src.items.length ≤ i := List.drop_eq_nil_iff.mp hd
      have : i = src.items.length := by omega
      subst this
      exact .inl ⟨sj.stop _ H1 _ (h4.kp k0) h4.lk h5 hP, q0 W1 H1 h4 h5 _ ⟨D0, h6, rfl⟩⟩
    · cases h1
  | cons d r =>
    rw [hd] at h1
    unfold dcL at h1
    split at h1
    · rename_i hP
      have hi' : src.items[i]? = some d := by
        have h0 : (src.items.drop i)[0]? = some d := by rw [hd]; rfl
        rw [List.getElem?_drop] at h0
        simpa using h0
      have hr : src.items.drop (i + 1) = r := by
        rw [← List.tail_drop, hd]; rfl
      have hlt : i < src.items.length := (List.getElem?_eq_some_iff.mp hi').1
      obtain ⟨go, yl⟩ := sj.item _ H1 _ (h4.kp k0) h4.lk h5 hP i d hi'
      obtain ⟨env1, m1, g1, h1⟩ := R.bind_eq h1
      obtain ⟨b, m2, g2, h1⟩ := R.bind_eq h1
      refine .inr ⟨go, fun H' => ∃ W1 M1, dcL src.still g t fk fv (wipeE env vs) m.length r M1 = .ok () m' ∧ Fut W0 H0 W1 H' ∧ MemOk G W1 H' M1 ∧ W1.as[m.length]? = some D0, fun H' ⟨W1, M1, k⟩ => ⟨n - 1, by omega, by omega, W1, M1, by rw [hr]; exact k⟩, fun x H2 y => ?_⟩
      obtain ⟨f2, k2, rx⟩ := yl x H2 y
      have f02 := h4.trans f2
      have en2 : EnvOk G W1 H2 env σ := s0.env.fut k0 f02
      refine ⟨_, wipeE env vs, M1, d, ⟨k2, wipeE_ok en2 vs⟩, rx, PR.of_ok g1 fun W3 H3 f3 k3 => fun σ3 en3 ew3 => ⟨by rw [ew3]; exact wipe_wipe σ vs, W3, env1, m1, ⟨k3, en3⟩, PR.of_ok g2 fun W4 H4 f4 k4 => ?_⟩⟩
      have f04 := f02.trans (f3.trans f4)
      have a4 : W4.as[m.length]? = some D0 := (f2.trans (f3.trans f4)).get h6
      cases b with
      | false =>
        rw [if_neg Bool.false_ne_true] at h1
        simp only [PB, Bool.false_eq_true, if_false]
        exact ⟨W4, m2, h1, f04, k4, a4⟩
      | true =>
        rw [if_pos rfl] at h1
        obtain ⟨y, m3, g3, h1⟩ := R.bind_eq h1
        obtain ⟨z, m4, g4, h1⟩ := R.bind_eq h1
        simp only [PB, if_true]
        refine ⟨W4, env1, m2, ⟨k4, en3.fut k3 f4⟩, PR.of_ok g3 fun W5 H5 f5 k5 => fun u ru => ?_⟩
        refine ⟨W5, env1, m3, ⟨k5, (en3.fut k3 f4).fut k4 f5⟩, PR.of_ok g4 fun W6 H6 f6 k6 => fun v rv => ?_⟩
        split at h1
        · rename_i kvs k hc hk
          split at h1
          · rename_i hl
            have a6 : W6.as[m.length]? = some D0 := (f5.trans f6).get a4
            obtain ⟨ws, q1, q2⟩ := k6.cell _ _ D0 hc a6
            have q1 : H6 D0 = some (.dK ws) := q1
            have f7 : Fut W6 H6 W6 (upd H6 D0 (.dK (putK ws (kk k) v))) := Fut.wrote a6 q1 trivial
            exact ⟨ws, kk k, keyK_ok hk ru, q1, by rw [rpA_len q2, line_eq]; exact hl, W6, _, h1, f04.trans (f5.trans (f6.trans f7)), k6.wrote a6 ⟨_, upd_same, rpA_put (fun _ _ => kk_inj) (k6.rp f7 rv) (q2.fut k6 f7)⟩, a6⟩
          · cases h1
        · cases h1
    · cases h1
theorem sn_dc {kx vx tg iter : Expr} {ifs : List Expr} {scope : Scope} {own : List (Str × Nat)} {fi : FI} {g : FG} {t : FT} {fk fv : FE} (hc : X.calm = true) (hN : X.N.Nodup) (hi : PI X tg iter (tI G E fi)) (ok : BlkOk X.N X.env.scope scope own)
    (hg : ∀ (s : Shared) (H : Hp) (C : Addr) (cl : List (Str × Addr)) (fp : List Addr), PG (X.blk s H scope (compEnvC scope cl C X.env) fp) tg (tGt G (fun _ _ _ => False) (own.map (·.2)) g)) (ht : ∀ (s : Shared) (H : Hp) (C : Addr) (cl : List (Str × Addr)) (fp : List Addr), PTs (X.blk s H scope (compEnvC scope cl C X.env) fp) ifs (tT G (fun _ _ _ => False) t))
    (hk : ∀ (s : Shared) (H : Hp) (C : Addr) (cl : List (Str × Addr)) (fp : List Addr), PE (X.blk s H scope (compEnvC scope cl C X.env) fp) kx (tE G (fun _ _ _ => False) fk))
    (he : ∀ (s : Shared) (H : Hp) (C : Addr) (cl : List (Str × Addr)) (fp : List Addr), PE (X.blk s H scope (compEnvC scope cl C X.env) fp) vx (tE G (fun _ _ _ => False) fv)) (hs : ∀ x, foldedSetIterable iter X.env x = pure x := by intro _; rfl) :
    PE X (.DictComp kx vx [⟨tg, iter, ifs, 0⟩] scope pos) (tE G E (mDc (own.map (·.2)) fi g t fk fv)) := pe_imp (pe_dc hc hN hi ok hg ht hk he hs) tDc_of
theorem mDc_eq (vs : List Nat) (fi : FI) (g : FG) (t : FT) (fk fv : FE) {env : Fn.Env} {M : Mem} : mDc vs fi g t fk fv env M = (fi env M).bind fun src m => (dcL src.still g t fk fv (wipeE env vs) m.length src.items (m ++ [.dk false []])).nox.bind fun _ m' => .ok (.ref m.length) m' := rfl
end
end Fn
set_option Elab.async false
set_option linter.all false
set_option maxRecDepth 100000
set_option maxHeartbeats 1000000
namespace Fn
open PySem PySem.Spec PyProof.Rows L2
section
variable {X : Cx} {G : Gx} {cl : Nat → Addr} {E : XK} {W : Wd} {H : Hp} {M : Mem} {a b c : Expr} {fa fb fc : FE} {pos : Pos}
/-- what has come so far, in the hidden list -/
structure Cst (G : Gx) (W0 : Wd) (H0 : Hp) (D0 : Addr) (as : List Addr) (H' : Hp) (M : Mem) (done : List D) (acc : List V) : Prop where
  fu : Fut W0 H0 ⟨as, W0.hd⟩ H'
  kp : Kp W0 H0 ⟨as, D0 :: W0.hd⟩ H'
  me : MemOk G ⟨as, D0 :: W0.hd⟩ H' M
  at_ : H' D0 = some (.lst acc)
  rp : RpL G ⟨as, D0 :: W0.hd⟩ H' done acc
section
variable {W0 : Wd} {H0 H1 H2 : Hp} {D0 : Addr} {as as2 : List Addr} {M2 : Mem} {done : List D} {acc : List V}
theorem Cst.fut (h : Cst G W0 H0 D0 as H1 M done acc) (f : Fut ⟨as, D0 :: W0.hd⟩ H1 ⟨as2, D0 :: W0.hd⟩ H2) (m : MemOk G ⟨as2, D0 :: W0.hd⟩ H2 M2) : Cst G W0 H0 D0 as2 H2 M2 done acc :=
  ⟨h.fu.trans ⟨f.ext, rfl, f.keep, f.lk⟩, h.kp.trans (f.kp h.me), m, f.keep _ _ h.at_ fun z => h.me.apart D0 z (List.mem_cons_self ..), h.me.rpL f h.rp⟩
end
end
end Fn
set_option Elab.async false
set_option linter.all false
set_option maxRecDepth 100000
set_option maxHeartbeats 1000000
namespace Fn
open PySem PySem.Spec PyProof.Rows L2
section
variable {X : Cx} {G : Gx} {E : XK}
def mDeadS : FS := fun _ _ => .no
theorem ss_dead {st : Stmt} : PS X st (tS G E mDeadS) := ⟨fun pins s σ H D I h => by
  obtain ⟨W, env, M, _, p⟩ := h
  exact p.elim⟩
end
end Fn
set_option Elab.async false
set_option linter.all false
set_option maxRecDepth 100000
set_option maxHeartbeats 4000000
namespace L2
open PySem PySem.Spec PyProof.Rows
end L2
namespace Fn
open PySem PySem.Spec PyProof.Rows L2
end Fn
set_option Elab.async false
set_option linter.all false
set_option maxRecDepth 100000
set_option maxHeartbeats 1000000
namespace Fn
open PySem PySem.Spec PyProof.Rows L2
end Fn
set_option Elab.async false
set_option linter.all false
set_option maxRecDepth 100000
namespace Fn
open PySem PySem.Spec PyProof.Rows L2 PySem.Froz
end Fn
set_option Elab.async false
set_option linter.all false
set_option maxRecDepth 100000
set_option maxHeartbeats 1000000
namespace Fn
open PySem PySem.Spec PyProof.Rows L2
end Fn
set_option Elab.async false
set_option linter.all false
set_option maxRecDepth 100000
set_option maxHeartbeats 1000000
namespace Fn
open PySem PySem.Spec PyProof.Rows L2
section
variable {X : Cx} {G : Gx} {cl : Nat → Addr} {E : XK} {W : Wd} {H : Hp} {M : Mem} {a b c : Expr} {fa fb fc : FE} {pos : Pos}
def gFld (c0 : Nat) (f : Str) (fa : FE) : FG := fun v env M => (fa env M).bind fun d m2 => match insOf c0 m2 d with
  | some (i, fs) => if fs.length < 1000 then .ok env (m2.set i (.ins c0 (putD f v fs))) else .no
  | none => .no
theorem pg_fld {o : Expr} {to : TE} {f : Str} {pos : Pos} (ho : PE X o to) : PG X (.Attribute o f pos) (fun v σ H Q => to σ H fun x H1 => ∃ a C dx fs, x = .ref a ∧ H1 a = some (.ins C dx fs) ∧ Cls X.K C ∧ NoAttr X.K C f ∧ fs.length < 1000 ∧ Q σ (upd H1 a (.ins C dx (putF f v fs)))) := by
  refine ⟨fun pins s σ H v u Q I r h => ?_⟩
  rw [assign_Attribute]
  refine wpAny_bind (wpAny_holding (thn (ho.run pins s σ H _ I h) fun ov s1 ⟨x, H1, I1, r1, a, C, dx, fs, ex, ea, c, n, l, q⟩ => ?_))
  subst ex
  obtain rfl : ov = Value.ref a := r1
  refine wpAny_bind (wpAny_standAt (wpAny_bind (wpAny_holding (setattr_ok I1 ea c n l r fun s2 I2 => ?_))))
  exact wpAny_release ⟨σ, _, I2, q⟩
theorem sg_fld {sl : List Nat} {f : Str} {c0 : Nat} {pos : Pos} (hc : Cls X.K (cl c0)) (hn : NoAttr X.K (cl c0) f) (ha : PE X a (tE ⟨X.K, cl, X.w⟩ E fa)) : PG X (.Attribute a f pos) (tGt ⟨X.K, cl, X.w⟩ E sl (gFld c0 f fa)) := pg_imp (pg_fld ha) fun v σ H Q ⟨W, env, M, d, s, r, p⟩ => by
  refine tE.bind s p fun o m2 W2 H2 u2 f2 s2 r2 p2 => ?_
  split at p2
  · rename_i i fs e
    split at p2
    · rename_i hl
      obtain ⟨_, a1, dx, vs, e2, e3, h1, h2⟩ := insOf_ok s2.mem r2 e
      refine ⟨a1, _, dx, vs, e2, h1, hc, hn, by rw [rpk_len h2]; exact hl, ?_⟩
      have f3 := Fut.wrote (W := W2) (H := H2) (o := .ins (cl c0) dx (putF f v vs)) e3 h1 trivial
      exact p2 W2 _ f3 (s2.mem.wrote e3 ⟨dx, _, upd_same, rpk_put (s2.mem.rp f3 (s.mem.rp f2 r)) (h2.fut s2.mem f3)⟩) _ (s2.env.fut s2.mem f3) rfl
    · exact p2.elim
  · exact p2.elim
theorem gFld_eq (c0 : Nat) (f : Str) (fa : FE) (v : D) {env : Env} : gFld c0 f fa v env M = (fa env M).bind fun d m2 => match insOf c0 m2 d with
  | some (i, fs) => if fs.length < 1000 then .ok env (m2.set i (.ins c0 (putD f v fs))) else .no
  | none => .no := rfl
end
end Fn
set_option Elab.async false
set_option linter.all false
set_option maxRecDepth 100000
set_option maxHeartbeats 1000000
namespace Fn
open PySem PySem.Spec PyProof.Rows L2
end Fn
set_option Elab.async false
set_option linter.all false
set_option maxRecDepth 100000
set_option maxHeartbeats 2000000
namespace DcT
open PySem PySem.Spec PyProof.Rows L2
theorem put {X : Cx} {pins : List (Addr × Obj)} {σ : L2.St} {H : Hp} {s : Shared} {E : Value → Shared → Prop} {D b : Addr} {kvs : List (List Key × V)} {k : List Key} {v : V} {r : Value} {Q : Unit → Shared → Prop} (hu : X.A.units < cLine) (I : Inv X pins σ H s) (hD : H D = some (.dT kvs))
    (hz : kvs.length < sizeLine) (eb : H b = some (.tup (k.map kV))) (rv : RelV v r) (go : ∀ s', Inv X pins σ (upd H D (.dT (putK kvs k v))) s' → Q () s') : wpAny (model X.prog X.w) X.A (dictSet D (.ref b) r) Q E s := by
  obtain ⟨z, hd, xs, rel, dd⟩ := dt_of I.hok hD
  have hlen := length_putK kvs k v
  refine wpAny_dictSet_heap (hsz := by rw [← Paired.length rel]; exact z) (show (tupleKind (mixKind X.prog X.w)).room X.A from hu) (key_of I.hok eb) dd fun h' dd' hs => go _ ?_
  obtain ⟨q, es, ep, e1, e2, e3, e4, _, e5⟩ := dd'
  refine d_write I (by rw [hD]; trivial) hs ⟨q, e1⟩ ⟨by omega, hd, _, (rel.put k eb rv).keeps fun c ys ec => ?_, q, es, ep, e1, e2, e3, e4, e5⟩
  exact (upd_ne (ne_of ec hD (fun z => nomatch z))).trans ec
section
variable {X : Cx}
def tDcT (wi : TI) (g : TG) (tt : TT) (tk tv : TE) (vs : List Nat) : TE := fun σ H Q => wi σ H fun J H1 => ∀ D, H1 D = none → ∃ W : Nat → Nat → Hp → Prop, (∃ m, W 0 m (upd H1 D (.dT []))) ∧ ∀ i m H, W i m H → (J.stop i H ∧ Q (.ref D) H) ∨
  (J.go i H ∧ ∃ Nx : Hp → Prop, (∀ H', Nx H' → ∃ m', m' < m ∧ W (i + 1) m' H') ∧ ∀ x H', J.yld i H x H' → g x (wipe σ vs) H' fun σ2 H2 => wipe σ2 vs = wipe σ vs ∧ tt σ2 H2 fun b H3 =>
    if b = true then tk σ2 H3 fun y H4 => tv σ2 H4 fun z H5 => ∃ kvs k a, y = .ref a ∧ H5 a = some (.tup (k.map kV)) ∧ H5 D = some (.dT kvs) ∧ kvs.length < sizeLine ∧ Nx (upd H5 D (.dT (putK kvs k z))) else Nx H3)
theorem run {pins : List (Addr × Obj)} {s : Shared} {σ : L2.St} {H : Hp} {Q : VK} {kx vx tg iter : Expr} {ifs : List Expr} {scope : Scope} {own : List (Str × Nat)} {pos pos' : Pos} {wi : TI} {g : TG} {tt : TT} {tk tv : TE} {use : Option (Value → Sem Unit)} {Qf : Value → Shared → Prop} (hu : X.A.units < cLine) (hc : X.calm = true) (hN : X.N.Nodup) (I : Inv X pins σ H s) (hi : PI X tg iter wi) (ok : BlkOk X.N X.env.scope scope own)
    (hg : ∀ (s : Shared) (H : Hp) (C : Addr) (cl : List (Str × Addr)) (fp : List Addr), PG (X.blk s H scope (compEnvC scope cl C X.env) fp) tg g) (ht : ∀ (s : Shared) (H : Hp) (C : Addr) (cl : List (Str × Addr)) (fp : List Addr), PTs (X.blk s H scope (compEnvC scope cl C X.env) fp) ifs tt) (hk : ∀ (s : Shared) (H : Hp) (C : Addr) (cl : List (Str × Addr)) (fp : List Addr), PE (X.blk s H scope (compEnvC scope cl C X.env) fp) kx tk)
    (he : ∀ (s : Shared) (H : Hp) (C : Addr) (cl : List (Str × Addr)) (fp : List Addr), PE (X.blk s H scope (compEnvC scope cl C X.env) fp) vx tv) (hs : ∀ x, foldedSetIterable iter X.env x = pure x) (h : tDcT wi g tt tk tv (own.map (·.2)) σ H Q)
    (hR : ∀ D C s' m H', Inv X pins σ H' s' → Q (.ref D) H' → s'.heap.Ns C m → FpOk X pins H' C → compPost (model X.prog X.w) X.A X.xe use Qf (.ref D) C (.ok .next) s') :
    wpAny (model X.prog X.w) X.A (comprehension (.DictComp kx vx [⟨tg, iter, ifs, 0⟩] scope pos) scope X.env pos' newDict false (eval iter X.env) use) Qf X.xe s := by
  have hfree : ∀ y ∈ scope.names, y.2 = .free → ∃ c, X.env.cells.lookup y.1 = some c := fun y hy e => (ok.free y hy e).elim (fun k => I.ok.has _ (.inl k)) fun k => I.ok.has _ (.inr k)
  refine wpAny_comprehension_free (use := use) rfl hs (closure_ok hfree) ok.kind (fun y hy e => by rw [ok.uniq y hy, e]) (thn (hi.run pins s σ H _ I h) fun xv s1 hx => thn hx fun itv s2 h2 => ?_)
  obtain ⟨it, fp, tn, J, Hb, rfl, Ib, T, stb, fb, q⟩ := h2
  refine wpAny_newObj_type (newEnv_comp ?_)
  generalize hD : s2.heap.objs.size = D
  have frD : Hb D = none := Ib.hok.fresh (by rw [← hD]; exact Nat.le_refl _)
  obtain ⟨W, ⟨m0, w0⟩, turn⟩ := q D frD
  generalize hsd : ({ s2 with heap := s2.heap.push { cls := .type "dict", data := .dict #[] } } : Shared) = sd
  have Id : Inv X pins σ (upd Hb D (.dT [])) sd := by
    subst hsd hD
    exact Ib.laid (t' := s2.toks) (fun b o e => Heap.get?_push_of_some _ e) (Nat.le_refl _) (dt_empty s2.heap Ib.big)
  have eqd : sd.heap = s2.heap.push { cls := .type "dict", data := .dict #[] } := by rw [← hsd]
  have below : ∀ b ∈ fp, b < s2.heap.objs.size := fun b hb => let ⟨o, e, _⟩ := T.obj _ _ stb b hb; Heap.lt_size e
  have fd : ∀ b ∈ fp, FpOk X pins (upd Hb D (.dT [])) b ∧ b < sd.heap.objs.size := fun b hb => by
    have hlt := below b hb
    have hne : b ≠ D := by rw [← hD]; exact Nat.ne_of_lt hlt
    exact ⟨⟨(upd_ne hne).trans (fb b hb).1, (fb b hb).2⟩, by rw [eqd, Heap.size_push]; exact Nat.lt_succ_of_lt hlt⟩
  have std : tn 0 sd.heap := T.keep _ _ _ stb fun b _ o e => by rw [eqd]; exact Heap.get?_push_of_some _ e
  have Ie := block_start Id ok hN fd
  have P1 := hg sd (upd Hb D (.dT [])) sd.heap.objs.size (cellsFrom (sd.heap.objs.size + 1) scope.names (cloFrom X.env.cells scope.names [])) fp
  have P2 := ht sd (upd Hb D (.dT [])) sd.heap.objs.size (cellsFrom (sd.heap.objs.size + 1) scope.names (cloFrom X.env.cells scope.names [])) fp
  have P3 := hk sd (upd Hb D (.dT [])) sd.heap.objs.size (cellsFrom (sd.heap.objs.size + 1) scope.names (cloFrom X.env.cells scope.names [])) fp
  have P4 := he sd (upd Hb D (.dT [])) sd.heap.objs.size (cellsFrom (sd.heap.objs.size + 1) scope.names (cloFrom X.env.cells scope.names [])) fp
  show codeAny _ _ (.compStart (.DictComp kx vx [⟨tg, iter, ifs, 0⟩] scope pos) 0 (.ref it) (.ref D) (compEnvC scope (cellsFrom (sd.heap.objs.size + 1) scope.names (cloFrom X.env.cells scope.names [])) sd.heap.objs.size X.env)) (compPost (model X.prog X.w) X.A X.xe use Qf (.ref D) sd.heap.objs.size) _
  have nfp : ∀ b ∈ fp, (upd Hb D (.dT [])) b = none := fun b hb => (fd b hb).1.1
  generalize hce : compEnvC scope (cellsFrom (sd.heap.objs.size + 1) scope.names (cloFrom X.env.cells scope.names [])) sd.heap.objs.size X.env = ce at Ie P1 P2 P3 P4 ⊢
  have cL : ce.locals = sd.heap.objs.size := by rw [← hce]; rfl
  generalize hHd : upd Hb D (.dT []) = Hd at Id Ie P1 P2 P3 P4 w0 nfp fd
  generalize hse : ({ sd with heap := pushCells (sd.heap.push { cls := .type "dict", data := .dict #[] }) scope.names } : Shared) = se at Ie ⊢
  have ste : tn 0 se.heap := T.keep _ _ _ std fun b _ o e => by rw [← hse]; exact pushCells_keeps _ _ _ _ (Heap.get?_push_of_some _ e)
  have stat : ∀ {σ' : L2.St} {H' : Hp} {s' : Shared}, Inv (X.blk sd Hd scope ce fp) [] σ' H' s' → (∀ b ∈ fp, H' b = none) → ∀ b ∈ fp, FpOk (X.blk sd Hd scope ce fp) [] H' b := fun {σ' H' s'} I' hn b hb =>
    ⟨hn b hb, (I'.ok.exf b hb).1, I'.ok.exfs b hb, .inl hb, fun x c e => (I'.ok.exf b hb).2 x c e, fun p hp => by simp [Cx.blk] at hp⟩
  refine codeAny_compStart_dict (?_ : codeAny (model X.prog X.w) X.A (.compLoop (.DictComp kx vx [⟨tg, iter, ifs, 0⟩] scope pos) 0 (.ref it) (.ref D) ce) (compPost (model X.prog X.w) X.A X.xe use Qf (.ref D) sd.heap.objs.size) se) ?_
  all_goals
    have loop : codeAny (model X.prog X.w) X.A (.compLoop (.DictComp kx vx [⟨tg, iter, ifs, 0⟩] scope pos) 0 (.ref it) (.ref D) ce) (compPost (model X.prog X.w) X.A X.xe use Qf (.ref D) sd.heap.objs.size) se := by
      refine compLoop_anyD (fun n s' => ∃ i H', Inv (X.blk sd Hd scope ce fp) [] (wipe σ (own.map (·.2))) H' s' ∧ tn i s'.heap ∧ (∀ b ∈ fp, H' b = none) ∧ W i n H') ?_ m0 ⟨0, Hd, Ie, ste, nfp, w0⟩
      rintro n t5 ⟨i, H5, I5, st5, n5, w5⟩
      rcases turn i n H5 w5 with ⟨stop, qq⟩ | ⟨go, Nx, hNx, step⟩
      · refine thnF (T.done (X.blk sd Hd scope ce fp) rfl rfl rfl hc i [] t5 _ H5 (fun _ _ => False) I5 (stat I5 n5) st5 stop) ?_
        rintro r t6 ⟨rfl, I6⟩
        have Iz : Inv X pins σ H5 t6 := Id.call' (ch := fp) I6.os I6.base I6.hok I6.bare fun b hb => let z := (fd b hb).1.2; ⟨z.2.2.1, z.1, z.2.2.2.1, z.2.2.2.2⟩
        obtain ⟨m, hn, _⟩ := I6.loc
        have nC : H5 sd.heap.objs.size = none := cL ▸ (show H5 ce.locals = none from I6.free)
        exact hR D sd.heap.objs.size t6 m H5 Iz qq (cL ▸ (show t6.heap.Ns ce.locals m from hn)) (Id.fpOk (Nat.le_refl _) nC)
      · refine thnF (T.item (X.blk sd Hd scope ce fp) rfl rfl rfl hc i [] t5 _ H5 (fun _ _ => False) I5 (stat I5 n5) st5 go) ?_
        rintro r t6 ⟨u, rfl, h6⟩
        refine thnF h6 ?_
        rintro _ t7 ⟨x, H7, I7, r7, y7, st7, n7⟩
        refine thnF (P1.run _ t7 _ H7 x u _ (I7.pinned (stat I7 n7) (T.obj _ _ st7)) r7 (step x H7 y7)) ?_
        rintro _ t8 ⟨σ8, H8, I8, hw8, q8⟩
        refine thnF (P2.run _ t8 σ8 H8 _ I8 q8) ?_
        rintro b t9 ⟨H9, I9, q9⟩
        have fin : ∀ {s' : Shared} {H' : Hp}, Inv (X.blk sd Hd scope ce fp) ([] ++ pinsAt fp t7.heap) σ8 H' s' → Nx H' → ∃ m, m < n ∧ ∃ i H', Inv (X.blk sd Hd scope ce fp) [] (wipe σ (own.map (·.2))) H' s' ∧ tn i s'.heap ∧ (∀ b ∈ fp, H' b = none) ∧ W i m H' := fun {s' H'} I' nx => by
          obtain ⟨m', hm, w'⟩ := hNx H' nx
          have pn : ∀ b ∈ fp, ∀ o, t7.heap.get? b = some o → s'.heap.get? b = some o ∧ H' b = none := fun b hb o e => let z := I'.pin (b, o) (List.mem_append_right _ (List.mem_append_right _ (mem_pinsAt hb e))); ⟨z.1, z.2.1⟩
          refine ⟨m', hm, i + 1, H', (I'.unpinned (pins := [])).weak (by rw [← hw8, wipe_length]) (fun j v e => (wipe_some (hw8.symm ▸ e)).1), T.keep _ _ _ st7 fun b hb o e => (pn b hb o e).1, fun b hb => ?_, w'⟩
          obtain ⟨o, e, _⟩ := T.obj _ _ st7 b hb
          exact (pn b hb o e).2
        cases b with
        | false => exact fin I9 (by simpa using q9)
        | true =>
          have q9' := if_pos (c := true = true) rfl ▸ q9
          simp only [if_true] at q9 ⊢
          refine thnF (P3.run _ t9 σ8 H9 _ I9 q9) ?_
          rintro z t10 ⟨yk, Ha, Ia, ra, qa⟩
          refine thnF (P4.run _ t10 σ8 Ha _ Ia qa) ?_
          rintro z2 t11 ⟨yv, Hv, Iv, rv, kvs, k, a, rfl, ea, hDv, hzv, nx⟩
          obtain rfl : z = Value.ref a := by first | exact ra | (cases ra; rfl)
          exact put (X := X.blk sd Hd scope ce fp) hu Iv hDv hzv ea rv fun t12 I12 => fin I12 nx
    first | exact loop | exact T.self X.A 0 _ _ _ ste loop
end
end DcT
namespace Fn
open PySem PySem.Spec PyProof.Rows L2 DcT
end Fn
set_option Elab.async false
set_option linter.all false
set_option maxRecDepth 100000
set_option maxHeartbeats 1000000
namespace Fn
open PySem PySem.Spec PyProof.Rows L2
section
variable {X : Cx} {G : Gx} {E : XK} {W : Wd} {H : Hp} {M : Mem} {a : Expr} {fa : FE}
def mLk (fd : FE) : FE := fun env M => (fd env M).bind fun d m => match d with
  | .ref i => match m[i]? with
    | some (.dk false kvs) => .ok (.ref i) (m.set i (.dk true kvs))
    | some (.dt false kvs) => .ok (.ref i) (m.set i (.dt true kvs))
    | _ => .no
  | _ => .no
theorem sn_lk (ha : PE X a (tE G E fa)) : PE X a (tE G E (mLk fa)) := ⟨fun pins s σ H Q I h => by
  obtain ⟨W, env, M, st, p⟩ := h
  have h2 : tE G E fa σ H (fun u H1 => ∃ d u0, u = .ref d ∧ H1 d = some u0 ∧ Mut (some u0) ∧ ∀ od, Q u (upd H1 d (.frz od u0))) := tE.bind st p fun d m W1 H1 u f1 s1 r1 p1 => by
    split at p1
    · rename_i i
      obtain ⟨a1, h1, rfl⟩ := r1
      split at p1
      · rename_i kvs hc
        obtain ⟨vs, q1, q2⟩ := s1.mem.cell _ _ a1 hc h1
        have q1 : H1 a1 = some (.dK vs) := q1
        refine ⟨a1, _, rfl, q1, trivial, fun od => ?_⟩
        have f := Fut.wrote (W := W1) (H := H1) (o := .frz od (.dK vs)) h1 q1 trivial
        exact p1 W1 _ f (s1.mem.wrote h1 ⟨vs, ⟨od, upd_same⟩, q2.fut s1.mem f⟩) _ ⟨a1, h1, rfl⟩
      · rename_i kvs hc
        obtain ⟨vs, q1, q2⟩ := s1.mem.cell _ _ a1 hc h1
        have q1 : H1 a1 = some (.dT vs) := q1
        refine ⟨a1, _, rfl, q1, trivial, fun od => ?_⟩
        have f := Fut.wrote (W := W1) (H := H1) (o := .frz od (.dT vs)) h1 q1 trivial
        exact p1 W1 _ f (s1.mem.wrote h1 ⟨vs, ⟨od, upd_same⟩, q2.fut s1.mem f⟩) _ ⟨a1, h1, rfl⟩
      · exact p1.elim
    · exact p1.elim
  refine thn (ha.run pins s σ H _ I h2) fun v s1 ⟨x, H1, I1, r, d, u0, ex, hd, mu, q⟩ => ?_
  obtain ⟨od, I2⟩ := I1.lock hd mu
  exact ⟨x, _, I2, r, q od⟩⟩
theorem mLk_eq {env : Fn.Env} : mLk fa env M = (fa env M).bind fun d m => match d with
  | .ref i => match m[i]? with
    | some (.dk false kvs) => .ok (.ref i) (m.set i (.dk true kvs))
    | some (.dt false kvs) => .ok (.ref i) (m.set i (.dt true kvs))
    | _ => .no
  | _ => .no := rfl
end
end Fn
set_option Elab.async false
set_option linter.all false
set_option maxRecDepth 100000
set_option maxHeartbeats 1000000
namespace Fn
open PySem PySem.Spec PyProof.Rows L2 L2.DX
end Fn
set_option Elab.async false
set_option linter.all false
set_option maxRecDepth 100000
set_option maxHeartbeats 2000000
namespace Fn
open PySem PySem.Spec PyProof.Rows L2 PySem.Froz L2.DX
end Fn
set_option Elab.async false
set_option linter.all false
set_option maxRecDepth 100000
set_option maxHeartbeats 2000000
namespace Fn
open PySem PySem.Spec PyProof.Rows L2 PySem.Froz L2.DX
end Fn
set_option Elab.async false
set_option linter.all false
set_option maxRecDepth 100000
set_option maxHeartbeats 2000000
namespace Fn
open PySem PySem.Spec PyProof.Rows L2
section
variable {X : Cx} {G : Gx} {cl : Nat → Addr} {E : XK} {W : Wd} {H : Hp} {M : Mem}
def gTB (n : Nat) (g : FGs) : FG := fun d env M => match d with
  | .tup l => if l.length = n then g l env M else .no
  | .ct l => if l.length = n then g l env M else .no
  | d => match lstOf M d with
    | some l => if l.length = n then g l env M else .no
    | none => .no
theorem sg_tupB {es : List Expr} {k : Nat} {g : FGs} {n : Nat} {sl : List Nat} {pos : Pos} (hc : X.calm = true) (h : PGs X es (tGts ⟨X.K, cl, X.w⟩ E sl g))
    (hn : (assignEach es X.env).length = n := by rfl) (hst : (assignEach es X.env).findIdx? (·.1) = none := by rfl) : PG X (.Tuple es k pos) (tGt ⟨X.K, cl, X.w⟩ E sl (gTB n g)) := pg_imp (pg_tupA hc h hn hst) fun v σ H Q ⟨W, env, M, d, s, r, p⟩ => by
  unfold gTB at p
  split at p
  · rename_i l
    obtain ⟨a1, us, e1, s1, r1⟩ := r
    split at p
    · rename_i hl
      exact ⟨a1, us, e1, .inl s1.sq, by rw [r1.len, hl], W, env, M, l, s, r1, p⟩
    · exact p.elim
  · rename_i l
    obtain ⟨a1, us, e1, s1, r1⟩ := r
    split at p
    · rename_i hl
      exact ⟨a1, us, e1, .inl s1.sq, by rw [r1.len, hl], W, env, M, l, s, r1, p⟩
    · exact p.elim
  · split at p
    · rename_i l e
      obtain ⟨a1, us, rfl, q1, r1⟩ := lstOf_ok s.mem r e
      split at p
      · rename_i hl
        exact ⟨a1, us, rfl, .inr q1, by rw [r1.len, hl], W, env, M, l, s, r1, p⟩
      · exact p.elim
    · exact p.elim
theorem gTB_lst (n : Nat) (g : FGs) (l : List D) {env : Fn.Env} : gTB n g (.lst l) env M = if l.length = n then g l env M else .no := rfl
end
end Fn
set_option Elab.async false
set_option linter.all false
set_option maxRecDepth 100000
set_option maxHeartbeats 1000000
namespace Fn
open PySem PySem.Spec PyProof.Rows L2
end Fn
set_option Elab.async false
set_option linter.all false
set_option maxRecDepth 100000
set_option maxHeartbeats 1000000
namespace Fn
open PySem PySem.Spec PyProof.Rows L2
end Fn
set_option Elab.async false
set_option linter.all false
set_option maxRecDepth 100000
set_option maxHeartbeats 1000000
namespace Fn
open PySem PySem.Spec PyProof.Rows L2
end Fn
set_option Elab.async false
set_option linter.all false
set_option maxRecDepth 100000
set_option maxHeartbeats 1000000
namespace Fn
open PySem PySem.Spec PyProof.Rows L2
section
variable {X : Cx} {CX : CXT} {k n n1 nk c0 : Nat} {f : Addr} {fd : FuncData} {ps ks : List Str} {g : FD} {dd : List D} {π : Perm2} {E : XK} {x : Str} {p pos : Pos} {e : Expr} {es : List Expr} {kws : List Keyword} {cl : Nat → Addr} {ga gk : FA} {env : Fn.Env} {M : Mem}
def mMakeKwP (c0 n1 nk n : Nat) (π : Perm2) (dd : List D) (g : FD) (ga gk : FA) : FE := fun env M => (ga env M).bind fun xs m => (gk env m).bind fun zs m1 => if xs.length = n1 ∧ zs.length = nk ∧ (π.on (D.ref m1.length :: xs) (zs ++ dd)).length = n then (g (π.on (D.ref m1.length :: xs) (zs ++ dd)) (m1 ++ [.ins c0 []])).bind fun r m2 => (match r with | .non => .ok (.ref m1.length) m2 | _ => .no) else .no
theorem mMakeKwP_eq (c0 n1 nk n : Nat) (π : Perm2) (dd : List D) (g : FD) (ga gk : FA) : mMakeKwP c0 n1 nk n π dd g ga gk env M = (ga env M).bind fun xs m => (gk env m).bind fun zs m1 => if xs.length = n1 ∧ zs.length = nk ∧ (π.on (D.ref m1.length :: xs) (zs ++ dd)).length = n then (g (π.on (D.ref m1.length :: xs) (zs ++ dd)) (m1 ++ [.ins c0 []])).bind fun r m2 => (match r with | .non => .ok (.ref m1.length) m2 | _ => .no) else .no := rfl
theorem sn_makeKwP (Mk0 : Mk X.K (cl c0) f) (F : FnOk X.prog X.w X.K X.mg X.base CX k f fd ps (spOf ⟨X.K, cl, X.w⟩ n g)) (hr : Room (k + 1) X.A) (hg : Gl X x) (hm : X.mg x = some (.ref (cl c0))) (hb : KwBK X.K cl fd ps (n1 + 1) ks π dd) (hx : Passes CX X E)
    (ha : PA X (e :: es) (tA ⟨X.K, cl, X.w⟩ E ga)) (hkw : PK X kws (tA ⟨X.K, cl, X.w⟩ E gk)) (hall : (backToKw pos (keywordEach kws X.env)).all (·.1.isSome) = true := by rfl) (hks : (backToKw pos (keywordEach kws X.env)).filterMap (·.1) = ks := by rfl) (hdb : (x == ("__debug__" : Str)) = false := by decide)
    (he : starEach (e :: es) X.env = (false, eval e X.env) :: starEach es X.env := by rfl) (hpl : ((backTo pos (starEach (e :: es) X.env)).any (·.1) || (backToKw pos (keywordEach kws X.env)).any (·.1.isNone)) = false := by rfl) (hkn : ks.length = nk := by rfl) :
    PE X (.Call (.Name x p) (e :: es) kws pos) (tE ⟨X.K, cl, X.w⟩ E (mMakeKwP c0 n1 nk n π dd g ga gk)) := by
  subst hkn
  obtain ⟨gg, gV, hb1, hb2⟩ := hb.kb
  refine pe_imp (pe_makeK Mk0 F hr hg hm hb1 hx ha hkw hall hks hdb he hpl) fun σ H Q ⟨W, env, M, s, p⟩ => ?_
  refine tA.bind s p fun xs m1 W1 H1 vs f1 s1 r1 p1 => ?_
  refine ⟨W1, env, m1, s1, PR.bind p1 fun zs m2 W2 H2 f2 k2 p2 => ?_⟩
  intro us r2
  have s2 := s1.fut f2 k2
  split at p2
  · rename_i hl
    refine ⟨by rw [r1.len, hl.1], by rw [r2.len, hl.2.1], fun x dx hx hdx hne => ?_⟩
    obtain ⟨f, m', r⟩ := made_ok (c0 := c0) s2.mem hx hdx hne
    exact ⟨_, _, _, m', hb2 _ _ _ (D.ref m2.length :: xs) zs (V.ref x :: vs) us ⟨_, _, rfl, r, s2.mem.rpL f (s1.mem.rpL f2 r1)⟩ (s2.mem.rpL f r2), hl.2.2, make_post s2.mem hx hdx hne p2⟩
  · exact p2.elim
end
end Fn
set_option Elab.async false
set_option linter.all false
set_option maxRecDepth 100000
set_option maxHeartbeats 1000000
namespace Fn
open PySem PySem.Spec PyProof.Rows L2 L2.DX
end Fn
set_option Elab.async false
set_option linter.all false
set_option maxRecDepth 100000
set_option maxHeartbeats 1000000
namespace Fn
open PySem PySem.Spec PyProof.Rows L2
end Fn
set_option Elab.async false
set_option linter.all false
set_option maxRecDepth 100000
set_option maxHeartbeats 2000000
namespace PySem.SeqAt
open AutoSeq1 (wpAny_loadPart')
open MeetsSeq MeetsSeq2 MeetsSeq3 SeqRoads2
end PySem.SeqAt
namespace PySem.W
open Lean Elab Tactic Meta PySem PySem.Calls PyProof.Rows PyProof.V PySem.Spec
end PySem.W
namespace Fn
open PySem PySem.Spec PyProof.Rows L2
end Fn
set_option Elab.async false
set_option linter.all false
set_option maxRecDepth 100000
set_option maxHeartbeats 2000000
namespace Fn
open PySem PySem.Spec PyProof.Rows L2 L2.DX
end Fn
set_option Elab.async false
set_option linter.all false
set_option maxRecDepth 100000
set_option maxHeartbeats 4000000
namespace K38
open PySem PySem.Spec PyProof.Rows L2 Fn
def topS (i : Nat) : Stmt := PySem.Challenge.pw_grantchain_k38_letters_that_go_again.main.body.getD i (.Pass ⟨0, 0, 0, 0⟩)
def c_AGAIN : D := .int 3
abbrev s_root_numbers : Stmt := topS 7
theorem sc_root_numbers : FnScope ["plan", "found", "many", "place", "rights", "far", "holder", "parent", "house"] ["plan"] (defScope s_root_numbers) := ⟨rfl, rfl, rfl, by decide +kernel, rfl, by decide +kernel, by decide +kernel⟩
/-- root_numbers(plan); slots: 0 plan, 1 found, 2 many, 3 place, 4 rights, 5 far, 6 holder, 7 parent, 8 house -/
noncomputable def L_root_numbers_0 : FS := (mSeq (mSet 8 (mOp oIxA (mVar 3) (mC (.int 0)))) (mSeq (mExpr (mMeth "list" oAppend (mVar 1) (aCons (mMeth "dict" oGetM (mVar 2) (aCons (mVar 8) (aCons (mC (.int 0)) aNil))) aNil))) (mAsg (mOp (oAdd false) (mMeth "dict" oGetM (mVar 2) (aCons (mVar 8) (aCons (mC (.int 0)) aNil))) (mC (.int 1))) (gIxA (mVar 2) (mVar 8)))))
noncomputable def B_root_numbers : FS := (mSeq (mPar 1 2 (aCons (mLst true aNil) (aCons mDNewK aNil))) (mSeq (mFor (iSq (mOp oIxA (mVar 0) (mC (.int 1)))) (gT 5 (gsCons (gN 3) (gsCons (gN 4) (gsCons (gN 5) (gsCons (gN 6) (gsCons (gN 7) gsNil)))))) L_root_numbers_0) (mRet (mVar 1))))
noncomputable def g_root_numbers : FD := gcB B_root_numbers 9
abbrev s_Table___init__ : Stmt := inClass (topS 12) 0
theorem sc_Table___init__ : FnScope ["self"] ["self"] (defScope s_Table___init__) := ⟨rfl, rfl, rfl, by decide +kernel, rfl, by decide +kernel, by decide +kernel⟩
/-- Table.__init__(self); slots: 0 self -/
noncomputable def B_Table___init__ : FS := (mSeq (mFldSet 0 "used" (mVar 0) (mLst true aNil)) (mSeq (mFldSet 0 "there" (mVar 0) mDNewK) (mFldSet 0 "known" (mVar 0) mDNewT)))
noncomputable def g_Table___init__ : FD := runB B_Table___init__ 1
abbrev s_Table_free_place : Stmt := inClass (topS 12) 2
theorem sc_Table_free_place : FnScope ["self", "place"] ["self"] (defScope s_Table_free_place) := ⟨rfl, rfl, rfl, by decide +kernel, rfl, by decide +kernel, by decide +kernel⟩
/-- Table.free_place(self); slots: 0 self, 1 place -/
noncomputable def T_Table_free_place_0 : FT := (bOf (mOp (oInA false) (mVar 1) (mFld 0 "there" (mVar 0))))
noncomputable def L_Table_free_place_1 : FS := (mAug 1 (oI fun i j => .int (i + j)) (mC (.int 1)))
noncomputable def B_Table_free_place : FS := (mSeq (mSet 1 (mC (.int 0))) (mSeq (mWhile T_Table_free_place_0 L_Table_free_place_1) (mRet (mVar 1))))
noncomputable def g_Table_free_place : FD := runB B_Table_free_place 2
abbrev s_Table_leads : Stmt := inClass (topS 12) 4
theorem sc_Table_leads : FnScope ["self", "handle", "place", "turn"] ["self", "handle"] (defScope s_Table_leads) := ⟨rfl, rfl, rfl, by decide +kernel, rfl, by decide +kernel, by decide +kernel⟩
/-- Table.leads(self, handle); slots: 0 self, 1 handle, 2 place, 3 turn -/
noncomputable def B_Table_leads : FS := (mSeq (mAsg (mVar 1) (gT 2 (gsCons (gN 2) (gsCons (gN 3) gsNil)))) (mSeq (mIfS (tOrM (bOf (mOp (oInA true) (mVar 2) (mFld 0 "there" (mVar 0)))) (bOf (mOp (oEq true) (mOp oIxA (mOp oIxA (mFld 0 "there" (mVar 0)) (mVar 2)) (mC (.int 0))) (mVar 3)))) (mRet (mC .non)) mPass) (mRet (mOp oIxA (mOp oIxA (mFld 0 "there" (mVar 0)) (mVar 2)) (mC (.int 1))))))
noncomputable def g_Table_leads : FD := runB B_Table_leads 4
abbrev s_Table_handles : Stmt := inClass (topS 12) 6
theorem sc_Table_handles : FnScope ["self", "place", "turn", "thing"] ["self"] (defScope s_Table_handles) := ⟨rfl, rfl, rfl, by decide +kernel, rfl, by decide +kernel, by decide +kernel⟩
/-- Table.handles(self); slots: 0 self, 1 place, 2 turn, 3 thing -/
noncomputable def C_Table_handles_0 : FE := (mTup (aCons (mVar 1) (aCons (mVar 2) aNil)))
noncomputable def B_Table_handles : FS := (mRet (mCall (oSorted false) (aCons (mLockE (mFld 0 "there" (mVar 0)) (mLc false [1, 2, 3] (iItemsA (mFld 0 "there" (mVar 0))) (gT 2 (gsCons (gN 1) (gsCons (gT 2 (gsCons (gN 2) (gsCons (gN 3) gsNil))) gsNil))) tsYes C_Table_handles_0)) aNil)))
noncomputable def g_Table_handles : FD := runB B_Table_handles 4
abbrev s_asks : Stmt := topS 20
theorem sc_asks : FnScope ["rows", "found", "word", "tick", "parts", "count"] ["rows"] (defScope s_asks) := ⟨rfl, rfl, rfl, by decide +kernel, rfl, by decide +kernel, by decide +kernel⟩
/-- asks(rows); slots: 0 rows, 1 found, 2 word, 3 tick, 4 parts, 5 count -/
noncomputable def L_asks_0 : FS := (mSeq (mIfS (bOf (mOp (oEq false) (mVar 2) (mC (.str [97, 115, 107])))) (mAsg (mTup (aCons (mVar 3) (aCons (mOp oIxA (mVar 4) (mC (.int 1))) (aCons (mC .non) aNil)))) (gIxA (mVar 1) (mOp oIxA (mVar 4) (mC (.int 0))))) mPass) (mIfS (bOf (mOp (oEq false) (mVar 2) (mC (.str [97, 110, 115, 119, 101, 114])))) (mAsg (mOp (oAdd false) (mSl false (mOp oIxA (mVar 1) (mOp oIxA (mVar 4) (mC (.int 0)))) pNone (pSome (mC (.int 2)))) (mTup (aCons (mOp oIxA (mVar 4) (mC (.int 1))) aNil))) (gIxA (mVar 1) (mOp oIxA (mVar 4) (mC (.int 0))))) mPass))
noncomputable def C_asks_1 : FE := (mOp oIxA (mVar 1) (mVar 5))
noncomputable def C_asks_2 : FE := (mVar 5)
noncomputable def B_asks : FS := (mSeq (mSet 1 mDNewK) (mSeq (mFor (iSq (mVar 0)) (gS 3 2 (gsCons (gN 2) (gsCons (gN 3) (gsCons (gN 4) gsNil)))) L_asks_0) (mRet (mDc [5] (iSq (mCall (oSortS false) (aCons (mVar 1) aNil))) (gN 5) tsYes C_asks_2 C_asks_1))))
noncomputable def g_asks : FD := runB B_asks 6
abbrev s_beings : Stmt := topS 33
theorem sc_beings : FnScope ["plan", "found", "name", "persons", "servants", "things", "one", "servant"] ["plan"] (defScope s_beings) := ⟨rfl, rfl, rfl, by decide +kernel, rfl, by decide +kernel, by decide +kernel⟩
/-- beings(plan); slots: 0 plan, 1 found, 2 name, 3 persons, 4 servants, 5 things, 6 one, 7 servant -/
noncomputable def C_beings_0 : FE := (mOp oIx (mVar 7) (mC (.int 0)))
noncomputable def C_beings_1 : FE := (mTup (aCons (mVar 2) (aCons (mVar 6) aNil)))
noncomputable def L_beings_2 : FS := (mExpr (mMeth "list" oExtend (mVar 1) (aCons (mLc false [6] (iSq (mOp (oAdd false) (mCall (oList false) (aCons (mVar 3) aNil)) (mLc false [7] (iSq (mVar 4)) (gN 7) tsYes C_beings_0))) (gN 6) tsYes C_beings_1) aNil)))
noncomputable def B_beings : FS := (mSeq (mSet 1 (mLst true aNil)) (mSeq (mFor (iSq (mOp oIx (mVar 0) (mC (.int 0)))) (gT 4 (gsCons (gN 2) (gsCons (gN 3) (gsCons (gN 4) (gsCons (gN 5) gsNil))))) L_beings_2) (mRet (mCall oTuple (aCons (mVar 1) aNil)))))
noncomputable def g_beings : FD := gcB B_beings 8
abbrev s_servant_at : Stmt := topS 34
theorem sc_servant_at : FnScope ["plan", "place", "name", "persons", "servants", "things", "servant"] ["plan", "place"] (defScope s_servant_at) := ⟨rfl, rfl, rfl, by decide +kernel, rfl, by decide +kernel, by decide +kernel⟩
/-- servant_at(plan, place); slots: 0 plan, 1 place, 2 name, 3 persons, 4 servants, 5 things, 6 servant -/
noncomputable def L_servant_at_0 : FS := (mIfS (bOf (mOp (oEq false) (mTup (aCons (mVar 2) (aCons (mOp oIx (mVar 6) (mC (.int 0))) aNil))) (mVar 1))) (mRet (mVar 6)) mPass)
noncomputable def L_servant_at_1 : FS := (mFor (iSq (mVar 4)) (gN 6) L_servant_at_0)
noncomputable def B_servant_at : FS := (mSeq (mFor (iSq (mOp oIx (mVar 0) (mC (.int 0)))) (gT 4 (gsCons (gN 2) (gsCons (gN 3) (gsCons (gN 4) (gsCons (gN 5) gsNil))))) L_servant_at_1) (mRet (mC .non)))
noncomputable def g_servant_at : FD := runB B_servant_at 7
abbrev s_Stone___init__ : Stmt := inClass (topS 43) 0
theorem sc_Stone___init__ : FnScope ["self", "rows"] ["self", "rows"] (defScope s_Stone___init__) := ⟨rfl, rfl, rfl, by decide +kernel, rfl, by decide +kernel, by decide +kernel⟩
/-- Stone.__init__(self, rows); slots: 0 self, 1 rows -/
noncomputable def B_Stone___init__ : FS := (mSeq (mFldSet 2 "written" (mVar 0) (mCall (oList true) (aCons (mVar 1) aNil))) (mFldSet 2 "firm" (mVar 0) (mCall oLen (aCons (mFld 2 "written" (mVar 0)) aNil))))
noncomputable def g_Stone___init__ : FD := runB B_Stone___init__ 2
abbrev s_Stone_write : Stmt := inClass (topS 43) 2
theorem sc_Stone_write : FnScope ["self", "row"] ["self", "row"] (defScope s_Stone_write) := ⟨rfl, rfl, rfl, by decide +kernel, rfl, by decide +kernel, by decide +kernel⟩
/-- Stone.write(self, row); slots: 0 self, 1 row -/
noncomputable def B_Stone_write : FS := (mExpr (mMeth "list" oAppend (mFld 2 "written" (mVar 0)) (aCons (mVar 1) aNil)))
noncomputable def g_Stone_write : FD := runB B_Stone_write 2
abbrev s_Stone_settle : Stmt := inClass (topS 43) 3
theorem sc_Stone_settle : FnScope ["self"] ["self"] (defScope s_Stone_settle) := ⟨rfl, rfl, rfl, by decide +kernel, rfl, by decide +kernel, by decide +kernel⟩
/-- Stone.settle(self); slots: 0 self -/
noncomputable def B_Stone_settle : FS := (mFldSet 2 "firm" (mVar 0) (mCall oLen (aCons (mFld 2 "written" (mVar 0)) aNil)))
noncomputable def g_Stone_settle : FD := runB B_Stone_settle 1
abbrev s_Stone_fall : Stmt := inClass (topS 43) 4
theorem sc_Stone_fall : FnScope ["self", "kept", "stay", "lost"] ["self", "kept"] (defScope s_Stone_fall) := ⟨rfl, rfl, rfl, by decide +kernel, rfl, by decide +kernel, by decide +kernel⟩
/-- Stone.fall(self, kept); slots: 0 self, 1 kept, 2 stay, 3 lost -/
noncomputable def B_Stone_fall : FS := (mSeq (mSet 2 (mCall oMin (aCons (mCall oLen (aCons (mFld 2 "written" (mVar 0)) aNil)) (aCons (mOp (oAdd false) (mFld 2 "firm" (mVar 0)) (mVar 1)) aNil)))) (mSeq (mSet 3 (mOp oSub (mCall oLen (aCons (mFld 2 "written" (mVar 0)) aNil)) (mVar 2))) (mSeq (mFldSet 2 "written" (mVar 0) (mSl true (mFld 2 "written" (mVar 0)) pNone (pSome (mVar 2)))) (mSeq (mFldSet 2 "firm" (mVar 0) (mVar 2)) (mRet (mVar 3))))))
noncomputable def g_Stone_fall : FD := runB B_Stone_fall 4
abbrev s_Stone_rows : Stmt := inClass (topS 43) 6
theorem sc_Stone_rows : FnScope ["self"] ["self"] (defScope s_Stone_rows) := ⟨rfl, rfl, rfl, by decide +kernel, rfl, by decide +kernel, by decide +kernel⟩
/-- Stone.rows(self); slots: 0 self -/
noncomputable def B_Stone_rows : FS := (mRet (mCall oTuple (aCons (mFld 2 "written" (mVar 0)) aNil)))
noncomputable def g_Stone_rows : FD := runB B_Stone_rows 1
abbrev s_Stone_settled : Stmt := inClass (topS 43) 7
theorem sc_Stone_settled : FnScope ["self"] ["self"] (defScope s_Stone_settled) := ⟨rfl, rfl, rfl, by decide +kernel, rfl, by decide +kernel, by decide +kernel⟩
/-- Stone.settled(self); slots: 0 self -/
noncomputable def B_Stone_settled : FS := (mRet (mFld 2 "firm" (mVar 0)))
noncomputable def g_Stone_settled : FD := runB B_Stone_settled 1
abbrev s_Kernel_waits : Stmt := inClass (topS 50) 3
theorem sc_Kernel_waits : FnScope ["self"] ["self"] (defScope s_Kernel_waits) := ⟨rfl, rfl, rfl, by decide +kernel, rfl, by decide +kernel, by decide +kernel⟩
/-- Kernel.waits(self); slots: 0 self -/
noncomputable def B_Kernel_waits : FS := (mRet (mCall oLen (aCons (mFld 3 "letters" (mVar 0)) aNil)))
noncomputable def g_Kernel_waits : FD := runB B_Kernel_waits 1
abbrev s_Kernel_say : Stmt := inClass (topS 50) 13
theorem sc_Kernel_say : FnScope ["self", "house", "what"] ["self", "house", "what"] (defScope s_Kernel_say) := ⟨rfl, rfl, rfl, by decide +kernel, rfl, by decide +kernel, by decide +kernel⟩
/-- Kernel.say(self, house, what); slots: 0 self, 1 house, 2 what -/
noncomputable def B_Kernel_say : FS := (mExpr (mMeth "list" oAppend (mFld 3 "letters" (mVar 0)) (aCons (mTup (aCons (mFld 3 "house" (mVar 0)) (aCons (mVar 1) (aCons (mVar 2) aNil)))) aNil)))
noncomputable def g_Kernel_say : FD := runB B_Kernel_say 3
abbrev s_law_cell : Stmt := topS 52
theorem sc_law_cell : FnScope ["_law_script", "_law_k", "_law_number"] ["_law_script", "_law_k"] (defScope s_law_cell) := ⟨rfl, rfl, rfl, by decide +kernel, rfl, by decide +kernel, by decide +kernel⟩
/-- _law_cell(_law_script, _law_k); slots: 0 _law_script, 1 _law_k, 2 _law_number -/
noncomputable def B_law_cell : FS := (mSeq (mIfS (bOf (mOp oLt (mVar 1) (mCall oLen (aCons (mVar 0) aNil)))) (mRet (mOp oIx (mVar 0) (mVar 1))) mPass) (mSeq (mSet 2 (mOp (oAdd false) (mOp (oMul false) (mVar 1) (mC (.int 7919))) (mC (.int 5)))) (mSeq (mIfS (bOf (mOp oGt (mCall oLen (aCons (mVar 0) aNil)) (mC (.int 0)))) (mSet 2 (mOp (oAdd false) (mOp (oMul false) (mOp oMod (mOp oIx (mVar 0) (mOp oMod (mOp (oMul false) (mVar 1) (mC (.int 7))) (mCall oLen (aCons (mVar 0) aNil)))) (mC (.int 2147483629))) (mC (.int 48271))) (mOp (oMul false) (mVar 1) (mC (.int 7919))))) mPass) (mRet (mOp (oMul false) (mOp oMod (mVar 2) (mC (.int 2147483647))) (mC (.int 31)))))))
noncomputable def g_law_cell : FD := runB B_law_cell 3
abbrev s_law_draw : Stmt := topS 54
theorem sc_law_draw : FnScope ["_law_flow_here", "_law_many", "_law_digit"] ["_law_flow_here", "_law_many"] (defScope s_law_draw) := ⟨rfl, rfl, rfl, by decide +kernel, rfl, by decide +kernel, by decide +kernel⟩
/-- _law_draw(_law_flow_here, _law_many); slots: 0 _law_flow_here, 1 _law_many, 2 _law_digit -/
noncomputable def B_law_draw : FS := (mSeq (mIfS (bOf (mOp oGt (mOp oIx (mVar 0) (mC (.int 0))) (mC (.int 0)))) (mSeq (mSet 2 (mOp oMod (mOp oIx (mVar 0) (mC (.int 0))) (mVar 1))) (mSeq (mAsg (mOp oDiv (mOp oIx (mVar 0) (mC (.int 0))) (mVar 1)) (gIx (mVar 0) (mC (.int 0)))) (mRet (mVar 2)))) mPass) (mSeq (mAsg (mOp (oAdd false) (mOp oIx (mVar 0) (mC (.int 1))) (mC (.int 1))) (gIx (mVar 0) (mC (.int 1)))) (mSeq (mAsg (mOp oMod (mOp (oAdd false) (mOp (oAdd false) (mOp (oMul false) (mOp oIx (mVar 0) (mC (.int 2))) (mC (.int 48271))) (mC (.int 12820163))) (mOp oIx (mVar 0) (mC (.int 1)))) (mC (.int 2147483647))) (gIx (mVar 0) (mC (.int 2)))) (mRet (mOp oMod (mOp oDiv (mOp oIx (mVar 0) (mC (.int 2))) (mC (.int 31))) (mVar 1))))))
noncomputable def g_law_draw : FD := runB B_law_draw 3
abbrev s_law_letter : Stmt := topS 56
theorem sc_law_letter : FnScope ["_law_house", "_law_count", "_law_what", "_law_opened", "_law_ask", "_law_person", "_law_word", "_law_home", "_law_number", "_law_rights", "_law_far", "_law_way", "_law_receiver"] ["_law_house", "_law_count", "_law_what", "_law_opened"] (defScope s_law_letter) := ⟨rfl, rfl, rfl, by decide +kernel, rfl, by decide +kernel, by decide +kernel⟩
/-- _law_letter(_law_house, _law_count, _law_what, _law_opened); slots: 0 _law_house, 1 _law_count, 2 _law_what, 3 _law_opened, 4 _law_ask, 5 _law_person, 6 _law_word, 7 _law_home, 8 _law_number, 9 _law_rights, 10 _law_far, 11 _law_way, 12 _law_receiver -/
noncomputable def B_law_letter : FS := (mSeq (mPar 4 5 (aCons (mTup (aCons (mVar 0) (aCons (mVar 1) aNil))) (aCons (mOp oIx (mVar 2) (mC (.int 1))) aNil))) (mSeq (mIfS (bOf (mOp (oEq false) (mOp oIx (mVar 2) (mC (.int 0))) (mC (.str [99, 117, 116])))) (mRet (mTup (aCons (mVar 0) (aCons (mOp oIx (mVar 2) (mC (.int 2))) (aCons (mTup (aCons (mC (.str [99, 117, 116])) (aCons (mVar 4) (aCons (mVar 5) (aCons (mOp oIx (mVar 2) (mC (.int 3))) (aCons (mOp oIx (mVar 2) (mC (.int 4))) aNil)))))) aNil))))) mPass) (mSeq (mIfS (bOf (mOp (oEq false) (mOp oIx (mVar 2) (mC (.int 0))) (mC (.str [99, 97, 108, 108])))) (mRet (mTup (aCons (mVar 0) (aCons (mOp oIx (mOp oIx (mVar 2) (mC (.int 3))) (mC (.int 0))) (aCons (mOp (oAdd false) (mTup (aCons (mC (.str [99, 97, 108, 108])) (aCons (mVar 4) (aCons (mVar 5) aNil)))) (mSl false (mVar 2) (pSome (mC (.int 2))) pNone)) aNil))))) mPass) (mSeq (mAsg (mVar 2) (gT 8 (gsCons (gN 6) (gsCons (gN 5) (gsCons (gN 7) (gsCons (gN 8) (gsCons (gN 9) (gsCons (gN 10) (gsCons (gN 11) (gsCons (gN 12) gsNil)))))))))) (mSeq (mIfS (tOf (mVar 3)) (mRet (mTup (aCons (mVar 0) (aCons (mVar 7) (aCons (mTup (aCons (mC (.str [109, 97, 107, 101])) (aCons (mVar 4) (aCons (mVar 5) (aCons (mVar 8) (aCons (mVar 9) (aCons (mVar 10) (aCons (mVar 12) aNil)))))))) aNil))))) mPass) (mRet (mTup (aCons (mVar 0) (aCons (mOp oIx (mVar 12) (mC (.int 0))) (aCons (mTup (aCons (mC (.str [111, 102, 102, 101, 114])) (aCons (mVar 4) (aCons (mVar 5) (aCons (mVar 11) (aCons (mVar 12) aNil)))))) aNil))))))))))
noncomputable def g_law_letter : FD := runB B_law_letter 13
abbrev s_Table_put : Stmt := inClass (topS 12) 3
theorem sc_Table_put : FnScope ["self", "house", "number", "thing", "place", "turn"] ["self", "house", "number"] (defScope s_Table_put) := ⟨rfl, rfl, rfl, by decide +kernel, rfl, by decide +kernel, by decide +kernel⟩
/-- Table.put(self, house, number); slots: 0 self, 1 house, 2 number, 3 thing, 4 place, 5 turn -/
noncomputable def B_Table_put : FS := (mSeq (mSet 3 (mTup (aCons (mVar 1) (aCons (mVar 2) aNil)))) (mSeq (mIfS (bOf (mOp (oInA false) (mVar 3) (mFld 0 "known" (mVar 0)))) (mRet (mC .non)) mPass) (mSeq (mAsg (mC (.bl true)) (gIxA (mFld 0 "known" (mVar 0)) (mVar 3))) (mSeq (mSet 4 (mMth 0 "free_place" 1 g_Table_free_place [] (mVar 0) aNil)) (mSeq (mIfS (bOf (mOp (oEq false) (mVar 4) (mCall oLenA (aCons (mFld 0 "used" (mVar 0)) aNil)))) (mExpr (mMeth "list" oAppend (mFld 0 "used" (mVar 0)) (aCons (mC (.int 0)) aNil))) mPass) (mSeq (mSet 5 (mOp oIxA (mFld 0 "used" (mVar 0)) (mVar 4))) (mSeq (mAugIx (oI fun i j => .int (i + j)) (mFld 0 "used" (mVar 0)) (mVar 4) (mC (.int 1))) (mSeq (mAsg (mTup (aCons (mVar 5) (aCons (mVar 3) aNil))) (gIxA (mFld 0 "there" (mVar 0)) (mVar 4))) (mRet (mTup (aCons (mVar 4) (aCons (mVar 5) aNil))))))))))))
noncomputable def g_Table_put : FD := runB B_Table_put 6
abbrev s_Table_drop : Stmt := inClass (topS 12) 5
theorem sc_Table_drop : FnScope ["self", "handle"] ["self", "handle"] (defScope s_Table_drop) := ⟨rfl, rfl, rfl, by decide +kernel, rfl, by decide +kernel, by decide +kernel⟩
/-- Table.drop(self, handle); slots: 0 self, 1 handle -/
noncomputable def B_Table_drop : FS := (mSeq (mIfS (bOf (mUn (oIsN false) (mMth 0 "leads" 2 g_Table_leads [] (mVar 0) (aCons (mVar 1) aNil)))) (mRet (mC (.bl false))) mPass) (mSeq (mExpr (mMeth "dict" oPopE (mFld 0 "there" (mVar 0)) (aCons (mOp oIxA (mVar 1) (mC (.int 0))) aNil))) (mRet (mC (.bl true)))))
noncomputable def g_Table_drop : FD := runB B_Table_drop 2
abbrev s_first_rows : Stmt := topS 49
theorem sc_first_rows : FnScope ["plan", "house", "numbers", "roots", "found", "at", "place", "rights", "far", "holder", "parent", "above"] ["plan", "house"] (defScope s_first_rows) := ⟨rfl, rfl, rfl, by decide +kernel, rfl, by decide +kernel, by decide +kernel⟩
/-- first_rows(plan, house); slots: 0 plan, 1 house, 2 numbers, 3 roots, 4 found, 5 at, 6 place, 7 rights, 8 far, 9 holder, 10 parent, 11 above -/
noncomputable def L_first_rows_0 : FS := (mSeq (mSet 11 (mIf (bOf (mUn (oIsN false) (mVar 10))) (mC .non) (mOp oIx (mVar 2) (mVar 10)))) (mSeq (mIfS (bOf (mOp (oEq false) (mOp oIx (mVar 6) (mC (.int 0))) (mVar 1))) (mExpr (mMeth "list" oAppend (mVar 3) (aCons (mTup (aCons (mC (.str [114, 111, 111, 116])) (aCons (mC (.int 0)) (aCons (mOp oIx (mVar 2) (mVar 5)) (aCons (mVar 6) (aCons (mVar 7) (aCons (mVar 8) (aCons (mVar 9) (aCons (mVar 11) aNil))))))))) aNil))) mPass) (mIfS (bOf (mOp (oEq false) (mOp oIx (mVar 9) (mC (.int 0))) (mVar 1))) (mExpr (mMeth "list" oAppend (mVar 4) (aCons (mTup (aCons (mC (.str [112, 117, 116])) (aCons (mC (.int 0)) (aCons (mVar 9) (aCons (mOp oIx (mVar 6) (mC (.int 0))) (aCons (mOp oIx (mVar 2) (mVar 5)) (aCons (mVar 6) (aCons (mVar 7) (aCons (mVar 8) (aCons (mC .non) aNil)))))))))) aNil))) mPass)))
noncomputable def B_first_rows : FS := (mSeq (mSet 2 (mFun 1 g_root_numbers [] (aCons (mVar 0) aNil))) (mSeq (mPar 3 4 (aCons (mLst true aNil) (aCons (mLst true aNil) aNil))) (mSeq (mFor (iEnumX (mOp oIx (mVar 0) (mC (.int 1)))) (gT 2 (gsCons (gN 5) (gsCons (gT 5 (gsCons (gN 6) (gsCons (gN 7) (gsCons (gN 8) (gsCons (gN 9) (gsCons (gN 10) gsNil)))))) gsNil))) L_first_rows_0) (mRet (mOp (oAdd false) (mVar 3) (mVar 4))))))
noncomputable def g_first_rows : FD := gcB B_first_rows 12
abbrev s_Kernel_rows : Stmt := inClass (topS 50) 1
theorem sc_Kernel_rows : FnScope ["self"] ["self"] (defScope s_Kernel_rows) := ⟨rfl, rfl, rfl, by decide +kernel, rfl, by decide +kernel, by decide +kernel⟩
/-- Kernel.rows(self); slots: 0 self -/
noncomputable def B_Kernel_rows : FS := (mRet (mMth 2 "rows" 1 g_Stone_rows [] (mFld 3 "stone" (mVar 0)) aNil))
noncomputable def g_Kernel_rows : FD := runB B_Kernel_rows 1
abbrev s_Kernel_settled : Stmt := inClass (topS 50) 2
theorem sc_Kernel_settled : FnScope ["self"] ["self"] (defScope s_Kernel_settled) := ⟨rfl, rfl, rfl, by decide +kernel, rfl, by decide +kernel, by decide +kernel⟩
/-- Kernel.settled(self); slots: 0 self -/
noncomputable def B_Kernel_settled : FS := (mRet (mMth 2 "settled" 1 g_Stone_settled [] (mFld 3 "stone" (mVar 0)) aNil))
noncomputable def g_Kernel_settled : FD := runB B_Kernel_settled 1
abbrev s_Kernel_fall : Stmt := inClass (topS 50) 5
theorem sc_Kernel_fall : FnScope ["self", "kept"] ["self", "kept"] (defScope s_Kernel_fall) := ⟨rfl, rfl, rfl, by decide +kernel, rfl, by decide +kernel, by decide +kernel⟩
/-- Kernel.fall(self, kept); slots: 0 self, 1 kept -/
noncomputable def B_Kernel_fall : FS := (mSeq (mAsg (mTup (aCons (mLst true aNil) (aCons mDNewT (aCons mDNewK aNil)))) (gT 3 (gsCons (gFld 3 "letters" (mVar 0)) (gsCons (gFld 3 "kept" (mVar 0)) (gsCons (gFld 3 "opened" (mVar 0)) gsNil))))) (mRet (mMth 2 "fall" 2 g_Stone_fall [] (mFld 3 "stone" (mVar 0)) (aCons (mVar 1) aNil))))
noncomputable def g_Kernel_fall : FD := runB B_Kernel_fall 2
abbrev s_Kernel_wrote : Stmt := inClass (topS 50) 6
theorem sc_Kernel_wrote : FnScope ["self", "row"] ["self", "row"] (defScope s_Kernel_wrote) := ⟨rfl, rfl, rfl, by decide +kernel, rfl, by decide +kernel, by decide +kernel⟩
/-- Kernel.wrote(self, row); slots: 0 self, 1 row -/
noncomputable def B_Kernel_wrote : FS := (mSeq (mExpr (mMth 2 "write" 2 g_Stone_write [] (mFld 3 "stone" (mVar 0)) (aCons (mVar 1) aNil))) (mExpr (mMth 2 "settle" 1 g_Stone_settle [] (mFld 3 "stone" (mVar 0)) aNil)))
noncomputable def g_Kernel_wrote : FD := runB B_Kernel_wrote 2
abbrev s_Kernel_write_ask : Stmt := inClass (topS 50) 19
theorem sc_Kernel_write_ask : FnScope ["self", "count", "what", "word", "person", "more", "ask", "house", "own", "number", "way", "servant", "spoken", "about", "rights", "far", "receiver"] ["self", "count", "what"] (defScope s_Kernel_write_ask) := ⟨rfl, rfl, rfl, by decide +kernel, rfl, by decide +kernel, by decide +kernel⟩
/-- Kernel.write_ask(self, count, what); slots: 0 self, 1 count, 2 what, 3 word, 4 person, 5 more, 6 ask, 7 house, 8 own, 9 number, 10 way, 11 servant, 12 spoken, 13 about, 14 rights, 15 far, 16 receiver -/
noncomputable def B_Kernel_write_ask : FS := (mSeq (mAsg (mVar 2) (gS 3 2 (gsCons (gN 3) (gsCons (gN 4) (gsCons (gN 5) gsNil))))) (mSeq (mSet 6 (mTup (aCons (mFld 3 "house" (mVar 0)) (aCons (mVar 1) aNil)))) (mIfS (bOf (mOp (oEq false) (mVar 3) (mC (.str [99, 117, 116])))) (mSeq (mAsg (mVar 5) (gTB 3 (gsCons (gN 7) (gsCons (gN 8) (gsCons (gN 9) gsNil))))) (mExpr (mMth 3 "say" 3 g_Kernel_say [] (mVar 0) (aCons (mVar 7) (aCons (mTup (aCons (mC (.str [99, 117, 116])) (aCons (mVar 6) (aCons (mVar 4) (aCons (mVar 8) (aCons (mVar 9) aNil)))))) aNil))))) (mIfS (bOf (mOp (oEq false) (mVar 3) (mC (.str [99, 97, 108, 108])))) (mSeq (mAsg (mVar 5) (gTB 4 (gsCons (gN 10) (gsCons (gN 11) (gsCons (gN 12) (gsCons (gN 13) gsNil)))))) (mExpr (mMth 3 "say" 3 g_Kernel_say [] (mVar 0) (aCons (mOp oIxA (mVar 11) (mC (.int 0))) (aCons (mTup (aCons (mC (.str [99, 97, 108, 108])) (aCons (mVar 6) (aCons (mVar 4) (aCons (mVar 10) (aCons (mVar 11) (aCons (mVar 12) (aCons (mVar 13) aNil)))))))) aNil))))) (mSeq (mAsg (mVar 5) (gTB 6 (gsCons (gN 7) (gsCons (gN 9) (gsCons (gN 14) (gsCons (gN 15) (gsCons (gN 10) (gsCons (gN 16) gsNil)))))))) (mIfS (bOf (mOp (oInA false) (mVar 1) (mFld 3 "opened" (mVar 0)))) (mExpr (mMth 3 "say" 3 g_Kernel_say [] (mVar 0) (aCons (mVar 7) (aCons (mTup (aCons (mC (.str [109, 97, 107, 101])) (aCons (mVar 6) (aCons (mVar 4) (aCons (mVar 9) (aCons (mVar 14) (aCons (mVar 15) (aCons (mVar 16) aNil)))))))) aNil)))) (mExpr (mMth 3 "say" 3 g_Kernel_say [] (mVar 0) (aCons (mOp oIxA (mVar 16) (mC (.int 0))) (aCons (mTup (aCons (mC (.str [111, 102, 102, 101, 114])) (aCons (mVar 6) (aCons (mVar 4) (aCons (mVar 10) (aCons (mVar 16) aNil)))))) aNil))))))))))
noncomputable def g_Kernel_write_ask : FD := runB B_Kernel_write_ask 17
abbrev s_Kernel_take_said : Stmt := inClass (topS 50) 23
theorem sc_Kernel_take_said : FnScope ["self", "sender", "what", "tick", "word", "house", "count", "more", "rows", "found", "answer", "row"] ["self", "sender", "what", "tick"] (defScope s_Kernel_take_said) := ⟨rfl, rfl, rfl, by decide +kernel, rfl, by decide +kernel, by decide +kernel⟩
/-- Kernel.take_said(self, sender, what, tick); slots: 0 self, 1 sender, 2 what, 3 tick, 4 word, 5 house, 6 count, 7 more, 8 rows, 9 found, 10 answer, 11 row -/
noncomputable def B_Kernel_take_said : FS := (mSeq (mAsg (mVar 2) (gS 3 2 (gsCons (gN 4) (gsCons (gT 2 (gsCons (gN 5) (gsCons (gN 6) gsNil))) (gsCons (gN 7) gsNil))))) (mSeq (mSet 8 (mMth 2 "rows" 1 g_Stone_rows [] (mFld 3 "stone" (mVar 0)) aNil)) (mSeq (mSet 9 (mFun 1 g_asks [] (aCons (mVar 8) aNil))) (mSeq (mIfS (tOrM (bOf (mOp (oInA true) (mVar 6) (mVar 9))) (bOf (mUn (oIsN true) (mOp oIxA (mOp oIxA (mVar 9) (mVar 6)) (mC (.int 2)))))) mRetN mPass) (mSeq (mIfS (bOf (mOp (oEq false) (mVar 4) (mC (.str [111, 112, 101, 110])))) (mSeq (mAsg (mMeth "dict" oGetM (mFld 3 "opened" (mVar 0)) (aCons (mVar 6) (aCons (mVar 3) aNil))) (gIxA (mFld 3 "opened" (mVar 0)) (mVar 6))) mRetN) mPass) (mSeq mDeadS (mSeq mDeadS mDeadS)))))))
noncomputable def g_Kernel_take_said : FD := runB B_Kernel_take_said 12
abbrev s_law_flow : Stmt := topS 53
theorem sc_law_flow : FnScope ["_law_script", "_law_k", "_law_cell_here"] ["_law_script", "_law_k"] (defScope s_law_flow) := ⟨rfl, rfl, rfl, by decide +kernel, rfl, by decide +kernel, by decide +kernel⟩
/-- _law_flow(_law_script, _law_k); slots: 0 _law_script, 1 _law_k, 2 _law_cell_here -/
noncomputable def B_law_flow : FS := (mSeq (mSet 2 (mCall oAbs (aCons (mFun 2 g_law_cell [] (aCons (mVar 0) (aCons (mVar 1) aNil))) aNil))) (mRet (mLst true (aCons (mOp (oMul false) (mVar 2) (mCall oInt (aCons (mOp oGe (mVar 2) (mOp oPow (mC (.int 10)) (mC (.int 18)))) aNil))) (aCons (mC (.int 0)) (aCons (mOp (oAdd false) (mOp oMod (mVar 2) (mC (.int 2147483629))) (mOp (oMul false) (mC (.int 40692)) (mVar 1))) aNil))))))
noncomputable def g_law_flow : FD := runB B_law_flow 3
abbrev s_law_names : Stmt := topS 55
theorem sc_law_names : FnScope ["_law_flow_here", "_law_many", "_law_some", "_law_word", "_law_j", "_law_at", "_law_first", "_law_longer", "_law_found", "_law_k", "_law_name"] ["_law_flow_here", "_law_many"] (defScope s_law_names) := ⟨rfl, rfl, rfl, by decide +kernel, rfl, by decide +kernel, by decide +kernel⟩
/-- _law_names(_law_flow_here, _law_many); slots: 0 _law_flow_here, 1 _law_many, 2 _law_some, 3 _law_word, 4 _law_j, 5 _law_at, 6 _law_first, 7 _law_longer, 8 _law_found, 9 _law_k, 10 _law_name -/
noncomputable def C_law_names_0 : FE := (mOp oIx (mVar 2) (mFun 2 g_law_draw [] (aCons (mVar 0) (aCons (mC (.int 26)) aNil))))
noncomputable def L_law_names_1 : FS := (mSeq (mSet 10 (mOp (oAdd false) (mOp (oAdd false) (mSl false (mVar 3) pNone (pSome (mVar 5))) (mOp oIx (mVar 2) (mOp oMod (mOp (oAdd false) (mVar 6) (mOp (oMul false) (mC (.int 7)) (mVar 9))) (mC (.int 26))))) (mSl false (mVar 3) (pSome (mVar 5)) pNone))) (mSeq (mIfS (bOf (mOp oGt (mOp (oMul false) (mVar 7) (mOp oMod (mVar 9) (mC (.int 2)))) (mC (.int 0)))) (mSet 10 (mOp (oAdd false) (mSl false (mOp oIx (mVar 8) (mUn oNeg (mC (.int 1)))) pNone (pSome (mCall oLen (aCons (mVar 10) aNil)))) (mOp oIx (mVar 2) (mOp oMod (mOp (oAdd false) (mVar 6) (mOp (oMul false) (mC (.int 7)) (mVar 9))) (mC (.int 26)))))) mPass) (mExpr (mMeth "list" oAppend (mVar 8) (aCons (mVar 10) aNil)))))
noncomputable def B_law_names : FS := (mSeq (mSet 2 (mC (.str [97, 98, 99, 100, 101, 102, 103, 104, 105, 106, 107, 108, 109, 110, 111, 112, 113, 114, 115, 116, 117, 118, 119, 120, 121, 122]))) (mSeq (mSet 3 (mMeth "str" oJoin (mC (.str [])) (aCons (mLc false [4] (iR1 (aCons (mFun 2 g_law_draw [] (aCons (mVar 0) (aCons (mC (.int 5)) aNil))) aNil)) (gN 4) tsYes C_law_names_0) aNil))) (mSeq (mPar3 5 6 7 (aCons (mFun 2 g_law_draw [] (aCons (mVar 0) (aCons (mOp (oAdd false) (mCall oLen (aCons (mVar 3) aNil)) (mC (.int 1))) aNil))) (aCons (mFun 2 g_law_draw [] (aCons (mVar 0) (aCons (mC (.int 26)) aNil))) (aCons (mFun 2 g_law_draw [] (aCons (mVar 0) (aCons (mC (.int 2)) aNil))) aNil)))) (mSeq (mSet 8 (mLst true aNil)) (mSeq (mFor (iR1 (aCons (mVar 1) aNil)) (gN 9) L_law_names_1) (mRet (mVar 8)))))))
noncomputable def g_law_names : FD := gcB B_law_names 11
abbrev s_replayed : Stmt := topS 16
theorem sc_replayed : FnScope ["rows", "being", "found", "things", "word", "tick", "parts", "handle"] ["rows", "being"] (defScope s_replayed) := ⟨rfl, rfl, rfl, by decide +kernel, rfl, by decide +kernel, by decide +kernel⟩
/-- replayed(rows, being); slots: 0 rows, 1 being, 2 found, 3 things, 4 word, 5 tick, 6 parts, 7 handle -/
noncomputable def L_replayed_0 : FS := (mIfS (bOf (mOp (oEq false) (mOp oIxA (mVar 7) (mC (.int 0))) (mOp oIxA (mVar 6) (mC (.int 1))))) (mExpr (mMth 0 "drop" 2 g_Table_drop [] (mVar 2) (aCons (mVar 7) aNil))) mPass)
noncomputable def L_replayed_1 : FS := (mSeq (mIfS (tAndM (bOf (mOp (oEq false) (mVar 4) (mC (.str [112, 117, 116])))) (bOf (mOp (oEq false) (mOp oIxA (mVar 6) (mC (.int 0))) (mVar 1)))) (mSeq (mExpr (mMth 0 "put" 3 g_Table_put [] (mVar 2) (aCons (mOp oIxA (mVar 6) (mC (.int 1))) (aCons (mOp oIxA (mVar 6) (mC (.int 2))) aNil)))) (mAsg (mCall oTuple (aCons (mSl false (mVar 6) (pSome (mC (.int 3))) (pSome (mC (.int 6)))) aNil)) (gIxA (mVar 3) (mTup (aCons (mOp oIxA (mVar 6) (mC (.int 1))) (aCons (mOp oIxA (mVar 6) (mC (.int 2))) aNil)))))) mPass) (mIfS (tAndM (bOf (mOp (oEq false) (mVar 4) (mC (.str [100, 114, 111, 112])))) (bOf (mOp (oEq false) (mOp oIxA (mVar 6) (mC (.int 0))) (mVar 1)))) (mFor (iSq (mMth 0 "handles" 1 g_Table_handles [] (mVar 2) aNil)) (gN 7) L_replayed_0) mPass))
noncomputable def B_replayed : FS := (mSeq (mPar 2 3 (aCons (mMake 0 1 g_Table___init__ [] aNil) (aCons mDNewT aNil))) (mSeq (mFor (iSq (mVar 0)) (gS 3 2 (gsCons (gN 4) (gsCons (gN 5) (gsCons (gN 6) gsNil)))) L_replayed_1) (mRet (mTup (aCons (mVar 2) (aCons (mVar 3) aNil))))))
noncomputable def g_replayed : FD := runB B_replayed 8
abbrev s_Kernel___init__ : Stmt := inClass (topS 50) 0
theorem sc_Kernel___init__ : FnScope ["self", "plan", "house", "lease", "again"] ["self", "plan", "house", "lease", "again"] (defScope s_Kernel___init__) := ⟨rfl, rfl, rfl, by decide +kernel, rfl, by decide +kernel, by decide +kernel⟩
/-- Kernel.__init__(self, plan, house, lease, again); slots: 0 self, 1 plan, 2 house, 3 lease, 4 again -/
noncomputable def B_Kernel___init__ : FS := (mSeq (mFldSet 3 "plan" (mVar 0) (mVar 1)) (mSeq (mFldSet 3 "house" (mVar 0) (mVar 2)) (mSeq (mFldSet 3 "lease" (mVar 0) (mVar 3)) (mSeq (mFldSet 3 "every" (mVar 0) (mVar 4)) (mSeq (mFldSet 3 "stone" (mVar 0) (mMake 2 2 g_Stone___init__ [] (aCons (mFun 2 g_first_rows [] (aCons (mVar 1) (aCons (mVar 2) aNil))) aNil))) (mSeq (mFldSet 3 "letters" (mVar 0) (mLst true aNil)) (mSeq (mFldSet 3 "kept" (mVar 0) mDNewT) (mFldSet 3 "opened" (mVar 0) mDNewK))))))))
noncomputable def g_Kernel___init__ : FD := runB B_Kernel___init__ 5
abbrev s_Kernel_asked : Stmt := inClass (topS 50) 14
theorem sc_Kernel_asked : FnScope ["self", "tick", "what", "count"] ["self", "tick", "what"] (defScope s_Kernel_asked) := ⟨rfl, rfl, rfl, by decide +kernel, rfl, by decide +kernel, by decide +kernel⟩
/-- Kernel.asked(self, tick, what); slots: 0 self, 1 tick, 2 what, 3 count -/
noncomputable def B_Kernel_asked : FS := (mSeq (mSet 3 (mCall oLenA (aCons (mFun 1 g_asks [] (aCons (mMth 2 "rows" 1 g_Stone_rows [] (mFld 3 "stone" (mVar 0)) aNil) aNil)) aNil))) (mSeq (mExpr (mMth 3 "wrote" 2 g_Kernel_wrote [] (mVar 0) (aCons (mTup (aCons (mC (.str [97, 115, 107])) (aCons (mVar 1) (aCons (mVar 3) (aCons (mVar 2) aNil))))) aNil))) (mRet (mVar 3))))
noncomputable def g_Kernel_asked : FD := runB B_Kernel_asked 4
abbrev s_Kernel_leave : Stmt := inClass (topS 50) 20
theorem sc_Kernel_leave : FnScope ["self", "tick", "count", "asked", "what", "answer", "is_due", "found"] ["self", "tick"] (defScope s_Kernel_leave) := ⟨rfl, rfl, rfl, by decide +kernel, rfl, by decide +kernel, by decide +kernel⟩
/-- Kernel.leave(self, tick); slots: 0 self, 1 tick, 2 count, 3 asked, 4 what, 5 answer, 6 is_due, 7 found -/
noncomputable def L_Kernel_leave_0 : FS := (mSeq (mSet 6 (mOrT (mOp (oEq false) (mOp oMod (mOp oSub (mVar 1) (mVar 3)) (mFld 3 "every" (mVar 0))) (mC (.int 0))) (mOp (oEq false) (mMeth "dict" oGetM (mFld 3 "opened" (mVar 0)) (aCons (mVar 2) aNil)) (mVar 1)))) (mIfS (tAndM (bOf (mUn (oIsN false) (mVar 5))) (tOf (mVar 6))) (mExpr (mMth 3 "write_ask" 3 g_Kernel_write_ask [] (mVar 0) (aCons (mVar 2) (aCons (mVar 4) aNil)))) mPass))
noncomputable def B_Kernel_leave : FS := (mSeq (mFor (iItemsA (mLk (mFun 1 g_asks [] (aCons (mMth 2 "rows" 1 g_Stone_rows [] (mFld 3 "stone" (mVar 0)) aNil) aNil)))) (gT 2 (gsCons (gN 2) (gsCons (gT 3 (gsCons (gN 3) (gsCons (gN 4) (gsCons (gN 5) gsNil)))) gsNil))) L_Kernel_leave_0) (mSeq (mExpr (mMth 2 "settle" 1 g_Stone_settle [] (mFld 3 "stone" (mVar 0)) aNil)) (mSeq (mSet 7 (mFld 3 "letters" (mVar 0))) (mSeq (mFldSet 3 "letters" (mVar 0) (mLst true aNil)) (mRet (mVar 7))))))
noncomputable def g_Kernel_leave : FD := runB B_Kernel_leave 8
abbrev s_Kernel_take : Stmt := inClass (topS 50) 21
theorem sc_Kernel_take : FnScope ["self", "sender", "what", "tick", "grant"] ["self", "sender", "what", "tick"] (defScope s_Kernel_take) := ⟨rfl, rfl, rfl, by decide +kernel, rfl, by decide +kernel, by decide +kernel⟩
/-- Kernel.take(self, sender, what, tick); slots: 0 self, 1 sender, 2 what, 3 tick, 4 grant -/
noncomputable def B_Kernel_take : FS := (mIfS (bOf (mOp (oInF false) (mOp oIx (mVar 2) (mC (.int 0))) (mTup (aCons (mC (.str [111, 102, 102, 101, 114])) (aCons (mC (.str [109, 97, 107, 101])) (aCons (mC (.str [99, 117, 116])) (aCons (mC (.str [99, 97, 108, 108])) (aCons (mC (.str [103, 105, 118, 101, 110])) (aCons (mC (.str [119, 97, 110, 116])) aNil))))))))) mDeadS (mIfS (bOf (mOp (oEq false) (mOp oIx (mVar 2) (mC (.int 0))) (mC (.str [119, 97, 114, 114, 97, 110, 116])))) (mSeq mDeadS mDeadS) (mExpr (mMth 3 "take_said" 4 g_Kernel_take_said [] (mVar 0) (aCons (mVar 1) (aCons (mVar 2) (aCons (mVar 3) aNil)))))))
noncomputable def g_Kernel_take : FD := runB B_Kernel_take 5
abbrev s_table : Stmt := topS 17
theorem sc_table : FnScope ["rows", "being", "found", "things", "handle"] ["rows", "being"] (defScope s_table) := ⟨rfl, rfl, rfl, by decide +kernel, rfl, by decide +kernel, by decide +kernel⟩
/-- table(rows, being); slots: 0 rows, 1 being, 2 found, 3 things, 4 handle -/
noncomputable def C_table_0 : FE := (mOp (oAdd false) (mOp (oAdd false) (mTup (aCons (mVar 4) aNil)) (mMth 0 "leads" 2 g_Table_leads [] (mVar 2) (aCons (mVar 4) aNil))) (mOp oIxA (mVar 3) (mMth 0 "leads" 2 g_Table_leads [] (mVar 2) (aCons (mVar 4) aNil))))
noncomputable def B_table : FS := (mSeq (mAsg (mFun 2 g_replayed [] (aCons (mVar 0) (aCons (mVar 1) aNil))) (gT 2 (gsCons (gN 2) (gsCons (gN 3) gsNil)))) (mRet (mLc false [4] (iSq (mMth 0 "handles" 1 g_Table_handles [] (mVar 2) aNil)) (gN 4) tsYes C_table_0)))
noncomputable def g_table : FD := gcB B_table 5
abbrev s_law_heard : Stmt := topS 58
theorem sc_law_heard : FnScope ["_law_flow_here", "_law_kernel", "_law_house", "_law_opened", "_law_tick", "_law_hands", "_law_row", "_law_turn"] ["_law_flow_here", "_law_kernel", "_law_house", "_law_opened", "_law_tick"] (defScope s_law_heard) := ⟨rfl, rfl, rfl, by decide +kernel, rfl, by decide +kernel, by decide +kernel⟩
/-- _law_heard(_law_flow_here, _law_kernel, _law_house, _law_opened, _law_tick); slots: 0 _law_flow_here, 1 _law_kernel, 2 _law_house, 3 _law_opened, 4 _law_tick, 5 _law_hands, 6 _law_row, 7 _law_turn -/
noncomputable def T_law_heard_0 : FT := (tAndM (bOf (mOp (oEq false) (mOp oIxA (mVar 6) (mC (.int 0))) (mC (.str [97, 115, 107])))) (tAndM (bOf (mOp (oEq false) (mOp oIxA (mOp oIxA (mVar 6) (mC (.int 3))) (mC (.int 0))) (mC (.str [104, 97, 110, 100])))) (bOf (mOp oLe (mOp (oAdd false) (mOp oIxA (mVar 6) (mC (.int 1))) (mC (.int 2))) (mVar 4)))))
noncomputable def C_law_heard_1 : FE := (mVar 6)
noncomputable def L_law_heard_2 : FS := (mExpr (mMth 3 "take" 4 g_Kernel_take [] (mVar 1) (aCons (mOp oIxA (mOp oIxA (mOp oIxA (mVar 6) (mC (.int 3))) (mC (.int 7))) (mC (.int 0))) (aCons (mTup (aCons (mC (.str [111, 112, 101, 110])) (aCons (mTup (aCons (mVar 2) (aCons (mOp oIxA (mVar 6) (mC (.int 2))) aNil))) aNil))) (aCons (mVar 4) aNil)))))
noncomputable def B_law_heard : FS := (mSeq (mSet 5 (mLc false [6] (iSq (mMth 3 "rows" 1 g_Kernel_rows [] (mVar 1) aNil)) (gN 6) T_law_heard_0 C_law_heard_1)) (mIfS (tAndM (bOf (mOp oGt (mCall oLenA (aCons (mVar 5) aNil)) (mC (.int 0)))) (bOf (mOp (oEq false) (mFun 2 g_law_draw [] (aCons (mVar 0) (aCons (mC (.int 2)) aNil))) (mC (.int 0))))) (mSeq (mSet 6 (mOp oIxA (mVar 5) (mFun 2 g_law_draw [] (aCons (mVar 0) (aCons (mCall oLenA (aCons (mVar 5) aNil)) aNil))))) (mSeq (mFor (iR1 (aCons (mOp (oAdd false) (mC (.int 1)) (mFun 2 g_law_draw [] (aCons (mVar 0) (aCons (mC (.int 2)) aNil)))) aNil)) (gN 7) L_law_heard_2) (mAsg (mMeth "dict" oGetM (mVar 3) (aCons (mOp oIxA (mVar 6) (mC (.int 2))) (aCons (mVar 4) aNil))) (gIxA (mVar 3) (mOp oIxA (mVar 6) (mC (.int 2))))))) mPass))
noncomputable def g_law_heard : FD := runB B_law_heard 8
abbrev s_Kernel_led : Stmt := inClass (topS 50) 7
theorem sc_Kernel_led : FnScope ["self", "person", "handle", "row"] ["self", "person", "handle"] (defScope s_Kernel_led) := ⟨rfl, rfl, rfl, by decide +kernel, rfl, by decide +kernel, by decide +kernel⟩
/-- Kernel.led(self, person, handle); slots: 0 self, 1 person, 2 handle, 3 row -/
noncomputable def L_Kernel_led_0 : FS := (mIfS (bOf (mOp (oEq false) (mOp oIx (mVar 3) (mC (.int 0))) (mVar 2))) (mRet (mVar 3)) mPass)
noncomputable def B_Kernel_led : FS := (mSeq (mExpr (mMth 2 "settle" 1 g_Stone_settle [] (mFld 3 "stone" (mVar 0)) aNil)) (mSeq (mFor (iSq (mFun 2 g_table [] (aCons (mMth 2 "rows" 1 g_Stone_rows [] (mFld 3 "stone" (mVar 0)) aNil) (aCons (mTup (aCons (mFld 3 "house" (mVar 0)) (aCons (mVar 1) aNil))) aNil)))) (gN 3) L_Kernel_led_0) mDeadS))
noncomputable def g_Kernel_led : FD := runB B_Kernel_led 4
abbrev s_Kernel_want : Stmt := inClass (topS 50) 12
theorem sc_Kernel_want : FnScope ["self", "person", "handle", "tick", "found", "house", "number", "place", "rights", "far"] ["self", "person", "handle", "tick"] (defScope s_Kernel_want) := ⟨rfl, rfl, rfl, by decide +kernel, rfl, by decide +kernel, by decide +kernel⟩
/-- Kernel.want(self, person, handle, tick); slots: 0 self, 1 person, 2 handle, 3 tick, 4 found, 5 house, 6 number, 7 place, 8 rights, 9 far -/
noncomputable def B_Kernel_want : FS := (mSeq (mAsg (mMth 3 "led" 3 g_Kernel_led [] (mVar 0) (aCons (mVar 1) (aCons (mVar 2) aNil))) (gT 6 (gsCons (gN 4) (gsCons (gN 5) (gsCons (gN 6) (gsCons (gN 7) (gsCons (gN 8) (gsCons (gN 9) gsNil)))))))) (mExpr (mMth 3 "say" 3 g_Kernel_say [] (mVar 0) (aCons (mVar 5) (aCons (mTup (aCons (mC (.str [119, 97, 110, 116])) (aCons (mTup (aCons (mFld 3 "house" (mVar 0)) (aCons (mVar 1) aNil))) (aCons (mVar 6) aNil)))) aNil)))))
noncomputable def g_Kernel_want : FD := runB B_Kernel_want 10
abbrev s_Kernel_hand : Stmt := inClass (topS 50) 15
theorem sc_Kernel_hand : FnScope ["self", "person", "handle", "way", "rights", "far", "tick", "found", "house", "number", "place", "own", "most", "other", "away", "road", "receiver", "ways", "length", "right"] ["self", "person", "handle", "way", "rights", "far", "tick"] (defScope s_Kernel_hand) := ⟨rfl, rfl, rfl, by decide +kernel, rfl, by decide +kernel, by decide +kernel⟩
/-- Kernel.hand(self, person, handle, way, rights, far, tick); slots: 0 self, 1 person, 2 handle, 3 way, 4 rights, 5 far, 6 tick, 7 found, 8 house, 9 number, 10 place, 11 own, 12 most, 13 other, 14 away, 15 road, 16 receiver, 17 ways, 18 length, 19 right -/
noncomputable def L_Kernel_hand_0 : FS := (mIfS (bOf (mOp (oInF true) (mVar 19) (mVar 11))) mDeadS mPass)
noncomputable def B_Kernel_hand : FS := (mSeq (mAsg (mMth 3 "led" 3 g_Kernel_led [] (mVar 0) (aCons (mVar 1) (aCons (mVar 2) aNil))) (gT 6 (gsCons (gN 7) (gsCons (gN 8) (gsCons (gN 9) (gsCons (gN 10) (gsCons (gN 11) (gsCons (gN 12) gsNil)))))))) (mSeq (mAsg (mMth 3 "led" 3 g_Kernel_led [] (mVar 0) (aCons (mVar 1) (aCons (mVar 3) aNil))) (gT 6 (gsCons (gN 13) (gsCons (gN 14) (gsCons (gN 15) (gsCons (gN 16) (gsCons (gN 17) (gsCons (gN 18) gsNil)))))))) (mSeq (mIfS (tOrM (bOf (mOp (oInF true) (mC (.str [103, 105, 118, 101])) (mVar 17))) (bOf (mOp (oInD true) (mVar 16) (mFun 1 g_beings [] (aCons (mFld 3 "plan" (mVar 0)) aNil))))) mDeadS mPass) (mSeq (mFor (iSq (mVar 4)) (gN 19) L_Kernel_hand_0) (mSeq (mIfS (bOf (mOp oGe (mVar 5) (mVar 12))) mDeadS mPass) (mRet (mMth 3 "asked" 3 g_Kernel_asked [] (mVar 0) (aCons (mVar 6) (aCons (mTup (aCons (mC (.str [104, 97, 110, 100])) (aCons (mTup (aCons (mFld 3 "house" (mVar 0)) (aCons (mVar 1) aNil))) (aCons (mVar 8) (aCons (mVar 9) (aCons (mVar 4) (aCons (mVar 5) (aCons (mVar 15) (aCons (mVar 16) aNil))))))))) aNil)))))))))
noncomputable def g_Kernel_hand : FD := runB B_Kernel_hand 20
abbrev s_Kernel_cut : Stmt := inClass (topS 50) 16
theorem sc_Kernel_cut : FnScope ["self", "person", "own", "number", "tick", "found", "house", "link", "place", "rights", "far"] ["self", "person", "own", "number", "tick"] (defScope s_Kernel_cut) := ⟨rfl, rfl, rfl, by decide +kernel, rfl, by decide +kernel, by decide +kernel⟩
/-- Kernel.cut(self, person, own, number, tick); slots: 0 self, 1 person, 2 own, 3 number, 4 tick, 5 found, 6 house, 7 link, 8 place, 9 rights, 10 far -/
noncomputable def B_Kernel_cut : FS := (mSeq (mAsg (mMth 3 "led" 3 g_Kernel_led [] (mVar 0) (aCons (mVar 1) (aCons (mVar 2) aNil))) (gT 6 (gsCons (gN 5) (gsCons (gN 6) (gsCons (gN 7) (gsCons (gN 8) (gsCons (gN 9) (gsCons (gN 10) gsNil)))))))) (mRet (mMth 3 "asked" 3 g_Kernel_asked [] (mVar 0) (aCons (mVar 4) (aCons (mTup (aCons (mC (.str [99, 117, 116])) (aCons (mTup (aCons (mFld 3 "house" (mVar 0)) (aCons (mVar 1) aNil))) (aCons (mVar 6) (aCons (mVar 7) (aCons (mVar 3) aNil)))))) aNil)))))
noncomputable def g_Kernel_cut : FD := runB B_Kernel_cut 11
abbrev s_Kernel_call : Stmt := inClass (topS 50) 17
theorem sc_Kernel_call : FnScope ["self", "person", "way", "word", "what", "tick", "found", "house", "number", "place", "rights", "far"] ["self", "person", "way", "word", "what", "tick"] (defScope s_Kernel_call) := ⟨rfl, rfl, rfl, by decide +kernel, rfl, by decide +kernel, by decide +kernel⟩
/-- Kernel.call(self, person, way, word, what, tick); slots: 0 self, 1 person, 2 way, 3 word, 4 what, 5 tick, 6 found, 7 house, 8 number, 9 place, 10 rights, 11 far -/
noncomputable def B_Kernel_call : FS := (mSeq (mAsg (mMth 3 "led" 3 g_Kernel_led [] (mVar 0) (aCons (mVar 1) (aCons (mVar 2) aNil))) (gT 6 (gsCons (gN 6) (gsCons (gN 7) (gsCons (gN 8) (gsCons (gN 9) (gsCons (gN 10) (gsCons (gN 11) gsNil)))))))) (mSeq (mIfS (tOrM (bOf (mOp (oInF true) (mC (.str [99, 97, 108, 108])) (mVar 10))) (bOf (mUn (oIsN false) (mFun 2 g_servant_at [] (aCons (mFld 3 "plan" (mVar 0)) (aCons (mVar 9) aNil)))))) mDeadS mPass) (mRet (mMth 3 "asked" 3 g_Kernel_asked [] (mVar 0) (aCons (mVar 5) (aCons (mTup (aCons (mC (.str [99, 97, 108, 108])) (aCons (mTup (aCons (mFld 3 "house" (mVar 0)) (aCons (mVar 1) aNil))) (aCons (mVar 8) (aCons (mVar 9) (aCons (mVar 3) (aCons (mVar 4) aNil))))))) aNil))))))
noncomputable def g_Kernel_call : FD := runB B_Kernel_call 12
abbrev s_law_asked_one : Stmt := topS 57
theorem sc_law_asked_one : FnScope ["_law_flow_here", "_law_kernel", "_law_names_here", "_law_tick", "_law_form", "_law_what"] ["_law_flow_here", "_law_kernel", "_law_names_here", "_law_tick"] (defScope s_law_asked_one) := ⟨rfl, rfl, rfl, by decide +kernel, rfl, by decide +kernel, by decide +kernel⟩
/-- _law_asked_one(_law_flow_here, _law_kernel, _law_names_here, _law_tick); slots: 0 _law_flow_here, 1 _law_kernel, 2 _law_names_here, 3 _law_tick, 4 _law_form, 5 _law_what -/
noncomputable def B_law_asked_one : FS := (mSeq (mSet 4 (mFun 2 g_law_draw [] (aCons (mVar 0) (aCons (mC (.int 3)) aNil)))) (mIfS (bOf (mOp (oEq false) (mVar 4) (mC (.int 0)))) (mExpr (mMth 3 "hand" 7 g_Kernel_hand [] (mVar 1) (aCons (mOp oIx (mVar 2) (mC (.int 3))) (aCons (mTup (aCons (mC (.int 0)) (aCons (mC (.int 0)) aNil))) (aCons (mTup (aCons (mC (.int 1)) (aCons (mC (.int 0)) aNil))) (aCons (mTup (aCons (mOp oIx (mVar 2) (mC (.int 6))) aNil)) (aCons (mFun 2 g_law_draw [] (aCons (mVar 0) (aCons (mC (.int 2)) aNil))) (aCons (mVar 3) aNil)))))))) (mIfS (bOf (mOp (oEq false) (mVar 4) (mC (.int 1)))) (mExpr (mMth 3 "cut" 5 g_Kernel_cut [] (mVar 1) (aCons (mOp oIx (mVar 2) (mC (.int 3))) (aCons (mTup (aCons (mFun 2 g_law_draw [] (aCons (mVar 0) (aCons (mC (.int 3)) aNil))) (aCons (mC (.int 0)) aNil))) (aCons (mFun 2 g_law_draw [] (aCons (mVar 0) (aCons (mC (.int 3)) aNil))) (aCons (mVar 3) aNil)))))) (mSeq (mSet 5 (mOp oIx (mLst false (aCons (mOp oIx (mVar 2) (mC (.int 7))) (aCons (mC .non) (aCons (mFun 2 g_law_draw [] (aCons (mVar 0) (aCons (mC (.int 1000000000)) aNil))) aNil)))) (mFun 2 g_law_draw [] (aCons (mVar 0) (aCons (mC (.int 3)) aNil))))) (mExpr (mMth 3 "call" 6 g_Kernel_call [] (mVar 1) (aCons (mOp oIx (mVar 2) (mC (.int 3))) (aCons (mTup (aCons (mC (.int 2)) (aCons (mC (.int 0)) aNil))) (aCons (mOp oIx (mVar 2) (mC (.int 8))) (aCons (mVar 5) (aCons (mVar 3) aNil)))))))))))
noncomputable def g_law_asked_one : FD := runB B_law_asked_one 6
abbrev s_law : Stmt := topS 59
theorem sc_law : FnScope ["_law_script", "_law_k", "_law_flow_here", "_law_names_here", "_law_every", "_law_houses", "_law_holder", "_law_roots", "_law_kernel", "_law_opened", "_law_tick", "_law_wanted", "_law_turn", "_law_spot", "_law_due", "_law_row"] ["_law_script"] (defScope s_law) := ⟨rfl, rfl, rfl, by decide +kernel, rfl, by decide +kernel, by decide +kernel⟩
/-- law(_law_script); slots: 0 _law_script, 1 _law_k, 2 _law_flow_here, 3 _law_names_here, 4 _law_every, 5 _law_houses, 6 _law_holder, 7 _law_roots, 8 _law_kernel, 9 _law_opened, 10 _law_tick, 11 _law_wanted, 12 _law_turn, 13 _law_spot, 14 _law_due, 15 _law_row -/
noncomputable def L_law_0 : FS := (mSeq (mSet 13 (mOp (oAdd false) (mC (.int 1)) (mFun 2 g_law_draw [] (aCons (mVar 2) (aCons (mC (.int 2)) aNil))))) (mSeq (mExpr (mMth 3 "want" 4 g_Kernel_want [] (mVar 8) (aCons (mOp oIxA (mVar 3) (mC (.int 3))) (aCons (mTup (aCons (mVar 13) (aCons (mC (.int 0)) aNil))) (aCons (mVar 10) aNil))))) (mExpr (mMeth "list" oAppend (mVar 11) (aCons (mTup (aCons (mOp oIxA (mVar 3) (mC (.int 0))) (aCons (mOp oIxA (mVar 3) (mC (.int 1))) (aCons (mTup (aCons (mC (.str [119, 97, 110, 116])) (aCons (mVar 6) (aCons (mOp oSub (mVar 13) (mC (.int 1))) aNil)))) aNil)))) aNil)))))
noncomputable def L_law_1 : FS := (mIfS (tAndM (bOf (mOp (oEq false) (mOp oIxA (mVar 15) (mC (.int 0))) (mC (.str [97, 115, 107])))) (tOrM (bOf (mOp (oEq false) (mOp oMod (mOp oSub (mVar 10) (mOp oIxA (mVar 15) (mC (.int 1)))) (mVar 4)) (mC (.int 0)))) (bOf (mOp (oEq false) (mMeth "dict" oGetM (mVar 9) (aCons (mOp oIxA (mVar 15) (mC (.int 2))) aNil)) (mVar 10))))) (mExpr (mMeth "list" oAppend (mVar 14) (aCons (mFun 4 g_law_letter [] (aCons (mOp oIxA (mVar 3) (mC (.int 0))) (aCons (mOp oIxA (mVar 15) (mC (.int 2))) (aCons (mOp oIxA (mVar 15) (mC (.int 3))) (aCons (mOp (oInA false) (mOp oIxA (mVar 15) (mC (.int 2))) (mVar 9)) aNil))))) aNil))) mPass)
noncomputable def L_law_2 : FS := (mSeq (mIfS (tAndM (bOf (mOp oLt (mVar 10) (mC (.int 12)))) (bOf (mOp (oEq false) (mFun 2 g_law_draw [] (aCons (mVar 2) (aCons (mC (.int 3)) aNil))) (mC (.int 0))))) (mExpr (mFun 4 g_law_asked_one [] (aCons (mVar 2) (aCons (mVar 8) (aCons (mVar 3) (aCons (mVar 10) aNil)))))) mPass) (mSeq (mIfS (bOf (mOp (oEq false) (mFun 2 g_law_draw [] (aCons (mVar 2) (aCons (mC (.int 3)) aNil))) (mC (.int 0)))) (mExpr (mFun 5 g_law_heard [] (aCons (mVar 2) (aCons (mVar 8) (aCons (mOp oIxA (mVar 3) (mC (.int 0))) (aCons (mVar 9) (aCons (mVar 10) aNil))))))) mPass) (mSeq (mSet 11 (mLst true aNil)) (mSeq (mIfS (tAndM (bOf (mOp (oEq false) (mOp oMod (mVar 10) (mC (.int 2))) (mC (.int 0)))) (bOf (mOp (oEq false) (mFun 2 g_law_draw [] (aCons (mVar 2) (aCons (mC (.int 3)) aNil))) (mC (.int 0))))) (mFor (iR1 (aCons (mOp (oAdd false) (mC (.int 1)) (mFun 2 g_law_draw [] (aCons (mVar 2) (aCons (mC (.int 2)) aNil)))) aNil)) (gN 12) L_law_0) mPass) (mSeq (mIfS (bOf (mOp (oEq false) (mFun 2 g_law_draw [] (aCons (mVar 2) (aCons (mC (.int 9)) aNil))) (mC (.int 0)))) (mSeq (mExpr (mMth 3 "fall" 2 g_Kernel_fall [] (mVar 8) (aCons (mC (.int 0)) aNil))) (mPar 9 11 (aCons mDNewK (aCons (mLst true aNil) aNil)))) mPass) (mSeq (mSet 14 (mCall (oList true) (aCons (mVar 11) aNil))) (mSeq (mFor (iSq (mMth 3 "rows" 1 g_Kernel_rows [] (mVar 8) aNil)) (gN 15) L_law_1) (mIfS (tOrM (bOf (mOp (oEq true) (mCall oRepr (aCons (mMth 3 "leave" 2 g_Kernel_leave [] (mVar 8) (aCons (mVar 10) aNil)) aNil)) (mCall oRepr (aCons (mVar 14) aNil)))) (tOrM (bOf (mOp (oEq true) (mMth 3 "settled" 1 g_Kernel_settled [] (mVar 8) aNil) (mCall oLenA (aCons (mMth 3 "rows" 1 g_Kernel_rows [] (mVar 8) aNil) aNil)))) (bOf (mOp (oEq true) (mMth 3 "waits" 1 g_Kernel_waits [] (mVar 8) aNil) (mC (.int 0)))))) (mRet (mC (.bl false))) mPass))))))))
noncomputable def L_law_3 : FS := (mSeq (mSet 2 (mFun 2 g_law_flow [] (aCons (mVar 0) (aCons (mVar 1) aNil)))) (mSeq (mPar 3 4 (aCons (mFun 2 g_law_names [] (aCons (mVar 2) (aCons (mC (.int 9)) aNil))) (aCons (mOp (oAdd false) (mC (.int 1)) (mFun 2 g_law_draw [] (aCons (mVar 2) (aCons (mC (.int 6)) aNil)))) aNil))) (mSeq (mSet 5 (mTup (aCons (mTup (aCons (mOp oIxA (mVar 3) (mC (.int 0))) (aCons (mTup (aCons (mOp oIxA (mVar 3) (mC (.int 3))) aNil)) (aCons (mTup aNil) (aCons (mTup (aCons (mOp oIxA (mVar 3) (mC (.int 5))) aNil)) aNil))))) (aCons (mTup (aCons (mOp oIxA (mVar 3) (mC (.int 1))) (aCons (mTup (aCons (mOp oIxA (mVar 3) (mC (.int 4))) aNil)) (aCons (mTup (aCons (mTup (aCons (mOp oIxA (mVar 3) (mC (.int 5))) (aCons (mC (.str [111, 119, 110])) (aCons (mTup aNil) aNil)))) aNil)) (aCons (mTup aNil) aNil))))) aNil)))) (mSeq (mSet 6 (mTup (aCons (mOp oIxA (mVar 3) (mC (.int 0))) (aCons (mOp oIxA (mVar 3) (mC (.int 3))) aNil)))) (mSeq (mSet 7 (mTup (aCons (mTup (aCons (mTup (aCons (mOp oIxA (mVar 3) (mC (.int 0))) (aCons (mOp oIxA (mVar 3) (mC (.int 5))) aNil))) (aCons (mTup (aCons (mOp oIxA (mVar 3) (mC (.int 6))) aNil)) (aCons (mC (.int 2)) (aCons (mVar 6) (aCons (mC .non) aNil)))))) aNil))) (mSeq (mSet 7 (mOp (oAdd false) (mVar 7) (mTup (aCons (mTup (aCons (mTup (aCons (mOp oIxA (mVar 3) (mC (.int 1))) (aCons (mOp oIxA (mVar 3) (mC (.int 4))) aNil))) (aCons (mTup (aCons (mC (.str [103, 105, 118, 101])) aNil)) (aCons (mC (.int 1)) (aCons (mVar 6) (aCons (mC .non) aNil)))))) aNil)))) (mSeq (mSet 7 (mOp (oAdd false) (mVar 7) (mTup (aCons (mTup (aCons (mTup (aCons (mOp oIxA (mVar 3) (mC (.int 1))) (aCons (mOp oIxA (mVar 3) (mC (.int 5))) aNil))) (aCons (mTup (aCons (mC (.str [99, 97, 108, 108])) aNil)) (aCons (mC (.int 1)) (aCons (mVar 6) (aCons (mC .non) aNil)))))) aNil)))) (mSeq (mPar 8 9 (aCons (mMakeKwP 3 2 1 5 (piIx [0, 1, 2, 4, 3]) [.int 6] g_Kernel___init__ (aCons (mTup (aCons (mVar 5) (aCons (mVar 7) aNil))) (aCons (mOp oIxA (mVar 3) (mC (.int 0))) aNil)) (aCons (mVar 4) aNil)) (aCons mDNewK aNil))) (mSeq (mIfS (bOf (mOp (oEq false) (mVar 4) (mC (.int 3)))) (mSet 8 (mMake 3 5 g_Kernel___init__ [.int 6, .int 3] (aCons (mTup (aCons (mVar 5) (aCons (mVar 7) aNil))) (aCons (mOp oIxA (mVar 3) (mC (.int 0))) aNil)))) mPass) (mSeq (mIfS (tOrM (bOf (mOp (oEq true) (mC c_AGAIN) (mC (.int 3)))) (bOf (mUn (oIsi "bool") (mC c_AGAIN)))) (mRet (mC (.bl false))) mPass) (mFor (iR1 (aCons (mC (.int 60)) aNil)) (gN 10) L_law_2)))))))))))
noncomputable def B_law : FS := (mSeq (mFor (iR1 (aCons (mCall oMax (aCons (mC (.int 1)) (aCons (mCall oMin (aCons (mC (.int 2)) (aCons (mCall oLenA (aCons (mVar 0) aNil)) aNil))) aNil))) aNil)) (gN 1) L_law_3) (mRet (mC (.bl true))))
noncomputable def g_law : FD := runB B_law 16
end K38
set_option Elab.async false
set_option linter.all false
set_option maxRecDepth 100000
set_option maxHeartbeats 4000000
namespace K38
open PySem PySem.Spec PyProof.Rows L2 Fn
local macro_rules | `(tactic| push_cast [$ls:simpLemma,*]) => `(tactic| simp -implicitDefEqProofs only [mSeq_eq, mIfS_eq, mSet_eq, mRet_eq, mRetN_eq, mExpr_eq, mPass_eq, mAsg_eq, mPar_eq, mAug_eq, bOf_eq, tOf_eq, tAndM_eq, tOrM_eq, tNotM_eq, tsYes_eq, mOp_eq, mUn_eq, mVar_eq, mC_eq, mCall_eq, mFun_eq, mFunKw_eq, mMeth_eq, mAnd_eq, mOr_eq, mNot_eq, mIf_eq, mChain_eq, mSl_eq, pNone_eq, pSome_eq, aCons_eq, aNil_eq, mTup_eq, mLst_eq, gN_eq, gT_eq, gsNil_eq, gsCons_eq, mkL_t, mkL_f, R.bind_ok, R.bind_no, R.nox_ok, List.getElem?_cons_zero, List.getElem?_cons_succ, List.set_cons_zero, List.set_cons_succ, List.length_cons, List.length_nil, List.append_nil, List.nil_append, List.cons_append, piApp_on, oLen_fz, oLen_lst, oLen_tup, oLt_int, oLe_int, oGt_int, oGe_int, oAdd_int, oSub_int, oIx_fz, oIx_lst, oIx_tup, oMax_int, oMin_int, oInt_bl, oInt_int, oIsi_bl, oNeg_int, oTuple_lst, oTuple_tup, iR1_eq, iR2_eq, iSq_eq, iStrM_eq, srcOf_tup, srcOf_lst, srcOf_fz, if_true, if_false, Bool.false_eq_true, Bool.true_eq_false, reduceIte, Nat.reduceAdd, Nat.reduceLeDiff, Nat.reduceEqDiff, Bool.not_true, Bool.not_false, decide_true, decide_false, and_self, and_true, true_and, $ls,*])
abbrev Nm := List Nat
def strT (F : List Nm) : D := .tup (F.map .str)
abbrev Pt := Nm × Nm
def ptD (p : Pt) : D := .tup [.str p.1, .str p.2]
def parD : Option Nat → D
  | none => .non
  | some n => .int n
abbrev rootN : Nm := [114, 111, 111, 116]
abbrev grantN : Nm := [103, 114, 97, 110, 116]
abbrev cutN : Nm := [99, 117, 116]
abbrev deedN : Nm := [100, 101, 101, 100]
structure Gr5 where
  num : Nat
  spot : Pt
  acts : List Nm
  far : Nat
  hol : Pt
  par : Option Nat
def gL (g : Gr5) : List D := [.int g.num, ptD g.spot, strT g.acts, .int g.far, ptD g.hol, parD g.par]
def askD (a : Nm × Nat) : D := .tup [.str a.1, .int a.2]
def oPt : Option Pt → D
  | none => .non
  | some p => ptD p
def oAsk : Option (Nm × Nat) → D
  | none => .non
  | some p => askD p
def natsD (l : List Nat) : List D := l.map fun n : Nat => .int n
inductive Rw5 where
  | root (t : Nat) (g : Gr5)
  | grant (t : Nat) (g : Gr5) (ask : Nm × Nat)
  | cut (t n : Nat)
  | deed (t : Nat) (who spot : Pt) (act : Nm) (chain : List Nat) (given stamp : Nat) (by_ : Option Pt) (ask : Option (Nm × Nat))
  | oth (w : Nm) (t : Nat) (ps : List D)
def rwD : Rw5 → D
  | .root t g => .tup (.str rootN :: .int t :: gL g)
  | .grant t g a => .tup (.str grantN :: .int t :: (gL g ++ [askD a]))
  | .cut t n => .tup [.str cutN, .int t, .int n]
  | .deed t who spot act ch gi st b a => .tup [.str deedN, .int t, ptD who, ptD spot, .str act, .tup (natsD ch), .int gi, .int st, oPt b, oAsk a]
  | .oth w t ps => .tup (.str w :: .int t :: ps)
def Rw5.w : Rw5 → Nm
  | .root .. => rootN
  | .grant .. => grantN
  | .cut .. => cutN
  | .deed .. => deedN
  | .oth w _ _ => w
def Rw5.t : Rw5 → Nat
  | .root t _ => t
  | .grant t _ _ => t
  | .cut t _ => t
  | .deed t .. => t
  | .oth _ t _ => t
def othOk (w : Nm) (ps : List D) : Prop := w ≠ rootN ∧ w ≠ grantN ∧ w ≠ cutN ∧ w ≠ deedN ∧ exL ps = true ∧ dpL ps ≤ 5 ∧ ps.length ≤ 20
def RwOk : Rw5 → Prop
  | .oth w _ ps => othOk w ps
  | _ => True
theorem oIx_t0 {a : D} {l : List D} {M : Mem} : oIx (.tup (a :: l)) (.int 0) M = .ok a M := by
  rw [oIx_tup, show (0 : Int) = ((0 : Nat) : Int) from rfl, atI_nat (v := a) rfl]
theorem rw_w (r : Rw5) (M : Mem) : oIx (rwD r) (.int 0) M = .ok (.str r.w) M := by cases r <;> exact oIx_t0
structure Src5 (M : Mem) (d : D) (l : List Rw5) (P : Mem → Prop) : Prop where
  src : ∀ K, srcOf (M ++ K) d = some ⟨l.map rwD, P⟩
  still : ∀ K, P (M ++ K)
theorem Src5.ref {M : Mem} {j : Nat} {l : List Rw5} (h : M[j]? = some (.lst (l.map rwD))) : Src5 M (.ref j) l fun M' => M'[j]? = some (.lst (l.map rwD)) := by
  have g : ∀ K, (M ++ K)[j]? = some (.lst (l.map rwD)) := fun K => by rw [List.getElem?_append_left (lt_of_get h)]; exact h
  exact ⟨fun K => by rw [srcOf_refM, g K], g⟩
theorem Src5.lst (M : Mem) (l : List Rw5) : Src5 M (.lst (l.map rwD)) l fun _ => True := ⟨fun _ => rfl, fun _ => trivial⟩
theorem Src5.tup (M : Mem) (l : List Rw5) : Src5 M (.tup (l.map rwD)) l fun _ => True := ⟨fun _ => rfl, fun _ => trivial⟩
def Rw5.ps : Rw5 → List D
  | .root _ g => gL g
  | .grant _ g a => gL g ++ [askD a]
  | .cut _ n => [.int n]
  | .deed _ who spot act ch gi st b a => [ptD who, ptD spot, .str act, .tup (natsD ch), .int gi, .int st, oPt b, oAsk a]
  | .oth _ _ ps => ps
theorem rwD_ps (r : Rw5) : rwD r = .tup (.str r.w :: .int r.t :: r.ps) := by cases r <;> rfl
theorem ps_len {r : Rw5} (h : RwOk r) : r.ps.length ≤ 20 := by
  cases r with
  | oth w t ps => exact h.2.2.2.2.2.2
  | _ => simp [Rw5.ps, gL]
theorem natsD_pl (l : List Nat) : PlL 0 (natsD l) := fun d hd => by obtain ⟨k, _, rfl⟩ := List.mem_map.mp hd; exact Pl.int _
theorem gA_put {κ : Type} [DecidableEq κ] (kvs : List (κ × D)) (k k' : κ) (v : D) : gA (pA kvs k v) k' = if k' = k then some v else gA kvs k' := by
  have hm : ∀ l : List (κ × D), gA (l.map fun kv => if kv.1 = k then (kv.1, v) else kv) k' = if k' = k then (if (l.any fun kv => decide (kv.1 = k)) = true then some v else none) else gA l k' := by
    intro l
    induction l with
    | nil => unfold gA; simp
    | cons e r ih =>
      unfold gA at ih ⊢
      rw [List.map_cons, List.find?_cons, List.find?_cons, List.any_cons]
      by_cases h1 : e.1 = k
      · simp only [if_pos h1]
        by_cases h2 : k' = k
        · subst h2; simp [h1]
        · have h3 : ¬ e.1 = k' := fun z => h2 (by rw [← z, h1])
          simp only [decide_eq_false h3, if_neg h2]
          rw [ih, if_neg h2]
      · simp only [if_neg h1]
        by_cases h2 : e.1 = k'
        · have h3 : ¬ k' = k := fun z => h1 (by rw [h2, z])
          rw [if_neg h3]
          simp only [decide_eq_true h2]
        · simp only [decide_eq_false h2, decide_eq_false h1, Bool.false_or]
          exact ih
  unfold pA
  by_cases h : (kvs.any fun kv => decide (kv.1 = k)) = true
  · rw [if_pos h, hm kvs, if_pos h]
  · rw [if_neg h]
    have hn : kvs.find? (fun kv => decide (kv.1 = k)) = none := by
      rw [List.find?_eq_none]
      intro x hx hd
      exact h (List.any_eq_true.mpr ⟨x, hx, hd⟩)
    unfold gA
    rw [List.find?_append]
    by_cases h2 : k' = k
    · subst h2
      rw [hn, if_pos rfl]; simp
    · rw [if_neg h2]
      have : ([(k, v)] : List (κ × D)).find? (fun kv => decide (kv.1 = k')) = none := by simp [Ne.symm h2]
      rw [this]; simp
theorem pA_len {κ : Type} [DecidableEq κ] (kvs : List (κ × D)) (k : κ) (v : D) : (pA kvs k v).length ≤ kvs.length + 1 := by
  unfold pA; split <;> simp
theorem str_eq (a b : List Nat) (M : Mem) : oEq false (.str a) (.str b) M = .ok (.bl (decide (a = b))) M := by
  by_cases q : a = b
  · rw [decide_eq_true q, q]; exact oEq_exT rfl (Nat.zero_le _)
  · rw [decide_eq_false q]; exact oEq_exF rfl rfl (Nat.zero_le _) (fun z => q (by injection z))
theorem sortOk_nats (l : List Nat) : sortOk (natsD l) := by
  refine ⟨fun d hd => ?_, fun d hd d' hd' => ?_, .inr fun d hd => ?_⟩
  · obtain ⟨n, _, rfl⟩ := List.mem_map.mp hd
    refine ⟨rfl, ?_⟩
    show (PyData.int (n : Int)).depth ≤ 60
    simp [PyData.depth]
  · obtain ⟨n, _, rfl⟩ := List.mem_map.mp hd
    obtain ⟨n', _, rfl⟩ := List.mem_map.mp hd'
    rfl
  · obtain ⟨n, _, rfl⟩ := List.mem_map.mp hd
    rfl
abbrev noN : Nm := [110, 111]
abbrev putN : Nm := [112, 117, 116]
abbrev Ak := Nm × Nat
theorem askD_inj {a b : Ak} (h : askD a = askD b) : a = b := by
  unfold askD at h
  simp only [D.tup.injEq, List.cons.injEq, D.str.injEq, D.int.injEq, and_true] at h
  exact Prod.ext h.1 (by omega)
theorem oAddTT {c : Bool} (a b : List D) (M : Mem) (h : a.length + b.length ≤ 16777216) : oAdd c (.tup a) (.tup b) M = .ok (.tup (a ++ b)) M := by
  have e : oAdd c (.tup a) (.tup b) M = oAddT (.tup a) (.tup b) M := rfl
  rw [e]
  simp only [oAddT, h, if_true]
def knF (x0 x1 x2 x3 x4 x5 x6 x7 : D) : List (Str × D) := [("plan", x0), ("house", x1), ("lease", x2), ("every", x3), ("stone", x4), ("letters", x5), ("kept", x6), ("opened", x7)]
theorem kn_house_plan : (("house" : Str) == "plan") = false := by decide +kernel
theorem kn_stone_plan : (("stone" : Str) == "plan") = false := by decide +kernel
theorem kn_stone_house : (("stone" : Str) == "house") = false := by decide +kernel
theorem kn_stone_lease : (("stone" : Str) == "lease") = false := by decide +kernel
theorem kn_stone_every : (("stone" : Str) == "every") = false := by decide +kernel
theorem kn_opened_plan : (("opened" : Str) == "plan") = false := by decide +kernel
theorem kn_opened_house : (("opened" : Str) == "house") = false := by decide +kernel
theorem kn_opened_lease : (("opened" : Str) == "lease") = false := by decide +kernel
theorem kn_opened_every : (("opened" : Str) == "every") = false := by decide +kernel
theorem kn_opened_stone : (("opened" : Str) == "stone") = false := by decide +kernel
theorem kn_opened_letters : (("opened" : Str) == "letters") = false := by decide +kernel
theorem kn_opened_kept : (("opened" : Str) == "kept") = false := by decide +kernel
theorem kn_nplan_house : ¬ (("plan" : Str) = "house") := by decide +kernel
theorem kn_nplan_lease : ¬ (("plan" : Str) = "lease") := by decide +kernel
theorem kn_nplan_every : ¬ (("plan" : Str) = "every") := by decide +kernel
theorem kn_nplan_stone : ¬ (("plan" : Str) = "stone") := by decide +kernel
theorem kn_nplan_letters : ¬ (("plan" : Str) = "letters") := by decide +kernel
theorem kn_nplan_kept : ¬ (("plan" : Str) = "kept") := by decide +kernel
theorem kn_nplan_opened : ¬ (("plan" : Str) = "opened") := by decide +kernel
theorem kn_nhouse_lease : ¬ (("house" : Str) = "lease") := by decide +kernel
theorem kn_nhouse_every : ¬ (("house" : Str) = "every") := by decide +kernel
theorem kn_nhouse_stone : ¬ (("house" : Str) = "stone") := by decide +kernel
theorem kn_nhouse_letters : ¬ (("house" : Str) = "letters") := by decide +kernel
theorem kn_nhouse_kept : ¬ (("house" : Str) = "kept") := by decide +kernel
theorem kn_nhouse_opened : ¬ (("house" : Str) = "opened") := by decide +kernel
theorem kn_nlease_every : ¬ (("lease" : Str) = "every") := by decide +kernel
theorem kn_nlease_stone : ¬ (("lease" : Str) = "stone") := by decide +kernel
theorem kn_nlease_letters : ¬ (("lease" : Str) = "letters") := by decide +kernel
theorem kn_nlease_kept : ¬ (("lease" : Str) = "kept") := by decide +kernel
theorem kn_nlease_opened : ¬ (("lease" : Str) = "opened") := by decide +kernel
theorem kn_nevery_stone : ¬ (("every" : Str) = "stone") := by decide +kernel
theorem kn_nevery_letters : ¬ (("every" : Str) = "letters") := by decide +kernel
theorem kn_nevery_kept : ¬ (("every" : Str) = "kept") := by decide +kernel
theorem kn_nevery_opened : ¬ (("every" : Str) = "opened") := by decide +kernel
theorem kn_nstone_letters : ¬ (("stone" : Str) = "letters") := by decide +kernel
theorem kn_nstone_kept : ¬ (("stone" : Str) = "kept") := by decide +kernel
theorem kn_nstone_opened : ¬ (("stone" : Str) = "opened") := by decide +kernel
theorem kn_nletters_kept : ¬ (("letters" : Str) = "kept") := by decide +kernel
theorem kn_nletters_opened : ¬ (("letters" : Str) = "opened") := by decide +kernel
theorem kn_nkept_opened : ¬ (("kept" : Str) = "opened") := by decide +kernel
section
variable (x0 x1 x2 x3 x4 x5 x6 x7 : D)
theorem lk_kn_plan : (knF x0 x1 x2 x3 x4 x5 x6 x7).lookup ("plan" : Str) = some x0 := by simp only [knF, List.lookup, beq_self_eq_true]
theorem lk_kn_house : (knF x0 x1 x2 x3 x4 x5 x6 x7).lookup ("house" : Str) = some x1 := by simp only [knF, List.lookup, kn_house_plan, beq_self_eq_true]
theorem lk_kn_stone : (knF x0 x1 x2 x3 x4 x5 x6 x7).lookup ("stone" : Str) = some x4 := by simp only [knF, List.lookup, kn_stone_plan, kn_stone_house, kn_stone_lease, kn_stone_every, beq_self_eq_true]
theorem lk_kn_opened : (knF x0 x1 x2 x3 x4 x5 x6 x7).lookup ("opened" : Str) = some x7 := by simp only [knF, List.lookup, kn_opened_plan, kn_opened_house, kn_opened_lease, kn_opened_every, kn_opened_stone, kn_opened_letters, kn_opened_kept, beq_self_eq_true]
theorem put_kn_opened (v : D) : putD "opened" v (knF x0 x1 x2 x3 x4 x5 x6 x7) = knF x0 x1 x2 x3 x4 x5 x6 v := by simp only [knF, putD, kn_nplan_opened, kn_nhouse_opened, kn_nlease_opened, kn_nevery_opened, kn_nstone_opened, kn_nletters_opened, kn_nkept_opened, if_false, if_true]
theorem lk_kn_rows : (knF x0 x1 x2 x3 x4 x5 x6 x7).lookup ("rows" : Str) = none := by simp only [knF, List.lookup, show (("rows" : Str) == "plan") = false from by decide +kernel, show (("rows" : Str) == "house") = false from by decide +kernel, show (("rows" : Str) == "lease") = false from by decide +kernel, show (("rows" : Str) == "every") = false from by decide +kernel, show (("rows" : Str) == "stone") = false from by decide +kernel, show (("rows" : Str) == "letters") = false from by decide +kernel, show (("rows" : Str) == "kept") = false from by decide +kernel, show (("rows" : Str) == "opened") = false from by decide +kernel]
theorem lk_kn_take : (knF x0 x1 x2 x3 x4 x5 x6 x7).lookup ("take" : Str) = none := by simp only [knF, List.lookup, show (("take" : Str) == "plan") = false from by decide +kernel, show (("take" : Str) == "house") = false from by decide +kernel, show (("take" : Str) == "lease") = false from by decide +kernel, show (("take" : Str) == "every") = false from by decide +kernel, show (("take" : Str) == "stone") = false from by decide +kernel, show (("take" : Str) == "letters") = false from by decide +kernel, show (("take" : Str) == "kept") = false from by decide +kernel, show (("take" : Str) == "opened") = false from by decide +kernel]
end
def snF (x0 x1 : D) : List (Str × D) := [("written", x0), ("firm", x1)]
theorem sn_nwritten_firm : ¬ (("written" : Str) = "firm") := by decide +kernel
section
variable (x0 x1 : D)
theorem snF_len : ((snF x0 x1).length < 1000) = True := by simp [snF]
theorem lk_sn_written : (snF x0 x1).lookup ("written" : Str) = some x0 := by simp only [snF, List.lookup, beq_self_eq_true]
theorem put_sn_firm (v : D) : putD "firm" v (snF x0 x1) = snF x0 v := by simp only [snF, putD, sn_nwritten_firm, if_false, if_true]
theorem lk_sn_settle : (snF x0 x1).lookup ("settle" : Str) = none := by simp only [snF, List.lookup, show (("settle" : Str) == "written") = false from by decide +kernel, show (("settle" : Str) == "firm") = false from by decide +kernel]
theorem lk_sn_rows : (snF x0 x1).lookup ("rows" : Str) = none := by simp only [snF, List.lookup, show (("rows" : Str) == "written") = false from by decide +kernel, show (("rows" : Str) == "firm") = false from by decide +kernel]
end
theorem pt_inj {a b : Pt} (h : ptD a = ptD b) : a = b := by
  unfold ptD at h
  simp only [D.tup.injEq, List.cons.injEq, D.str.injEq, and_true] at h
  exact Prod.ext h.1 h.2
theorem pt_eqD (ne : Bool) (a b : Pt) (M : Mem) : oEq ne (ptD a) (ptD b) M = .ok (.bl (ne != decide (a = b))) M := by
  by_cases e : a = b
  · subst e
    rw [oEq_exT (a := ptD a) rfl (show (1 : Nat) ≤ 60 by omega), decide_eq_true rfl]
    cases ne <;> rfl
  · rw [oEq_exF (a := ptD a) (b := ptD b) rfl rfl (show (1 : Nat) ≤ 60 by omega) (fun z => e (pt_inj z)), decide_eq_false e]
    cases ne <;> rfl
theorem map_inj {α β : Type} {f : α → β} (hf : ∀ a b, f a = f b → a = b) : ∀ {l m : List α}, l.map f = m.map f → l = m
  | [], [], _ => rfl
  | [], _ :: _, h => by cases h
  | _ :: _, [], h => by cases h
  | a :: l, b :: m, h => by
    simp only [List.map_cons, List.cons.injEq] at h
    rw [hf _ _ h.1, map_inj hf h.2]
abbrev Th := List Nat × Int
def thD (x : Th) : D := .tup [.str x.1, .int x.2]
def tkk (x : Th) : List KK := [.inr x.1, .inl x.2]
theorem keyT_th (x : Th) : keyT (thD x) = some (tkk x) := rfl
theorem tkk_inj {x y : Th} (h : tkk x = tkk y) : x = y := by
  unfold tkk at h
  injection h with h1 h2
  injection h2 with h2 _
  injection h1 with h1
  injection h2 with h2
  exact Prod.ext h1 h2
/-- a place in use: its turn, its thing -/
structure En where
  p : Nat
  t : Nat
  x : Th
def En.kv (e : En) : KK × D := (.inl e.p, .tup [.int e.t, thD e.x])
structure Tab where
  used : List Nat
  there : List En
  known : List Th
def usedD (l : List Nat) : List D := l.map fun n : Nat => .int n
def thereK (l : List En) : List (KK × D) := l.map En.kv
def knownK (l : List Th) : List (List KK × D) := l.map fun x => (tkk x, .bl true)
def tabF (u t k : Nat) : List (Str × D) := [("used", .ref u), ("there", .ref t), ("known", .ref k)]
section
variable (u t k : Nat)
theorem tn1 : (("there" : Str) == "used") = false := by decide +kernel
theorem tn2 : (("known" : Str) == "used") = false := by decide +kernel
theorem tn3 : (("known" : Str) == "there") = false := by decide +kernel
theorem lk_used : (tabF u t k).lookup ("used" : Str) = some (.ref u) := by simp only [tabF, List.lookup, beq_self_eq_true]
theorem lk_there : (tabF u t k).lookup ("there" : Str) = some (.ref t) := by simp only [tabF, List.lookup, tn1, beq_self_eq_true]
theorem lk_known : (tabF u t k).lookup ("known" : Str) = some (.ref k) := by simp only [tabF, List.lookup, tn2, tn3, beq_self_eq_true]
theorem lk_m (m : Str) (h1 : (m == "used") = false) (h2 : (m == "there") = false) (h3 : (m == "known") = false) : (tabF u t k).lookup m = none := by simp only [tabF, List.lookup, h1, h2, h3]
theorem lk_leads : (tabF u t k).lookup ("leads" : Str) = none := lk_m u t k _ (by decide +kernel) (by decide +kernel) (by decide +kernel)
theorem lk_put : (tabF u t k).lookup ("put" : Str) = none := lk_m u t k _ (by decide +kernel) (by decide +kernel) (by decide +kernel)
theorem lk_handles : (tabF u t k).lookup ("handles" : Str) = none := lk_m u t k _ (by decide +kernel) (by decide +kernel) (by decide +kernel)
theorem lk_free : (tabF u t k).lookup ("free_place" : Str) = none := lk_m u t k _ (by decide +kernel) (by decide +kernel) (by decide +kernel)
end
structure TabAt (M : Mem) (i u t k : Nat) (T : Tab) : Prop where
  ins : M[i]? = some (.ins 0 (tabF u t k))
  us : M[u]? = some (.lst (usedD T.used))
  th : M[t]? = some (.dk false (thereK T.there))
  kn : M[k]? = some (.dt false (knownK T.known))
  iu : i ≠ u
  it : i ≠ t
  ik : i ≠ k
  ut : u ≠ t
  uk : u ≠ k
  tk : t ≠ k
theorem gA_there (l : List En) (p : Nat) : gA (thereK l) (.inl (p : Int)) = (l.find? fun e => decide (e.p = p)).map fun e => .tup [.int e.t, thD e.x] := by
  unfold gA thereK
  induction l with
  | nil => rfl
  | cons e r ih =>
    simp only [List.map_cons, List.find?_cons]
    by_cases h : e.p = p
    · have h' : (En.kv e).1 = .inl (p : Int) := by show (Sum.inl (e.p : Int) : KK) = .inl (p : Int); rw [h]
      rw [decide_eq_true h', decide_eq_true h]; rfl
    · have h' : ¬ (En.kv e).1 = .inl (p : Int) := fun z => h (by have z : (Sum.inl (e.p : Int) : KK) = .inl (p : Int) := z; injection z with z; omega)
      rw [decide_eq_false h', decide_eq_false h]; exact ih
theorem gA_known (l : List Th) (x : Th) : (gA (knownK l) (tkk x)).isSome = decide (x ∈ l) := by
  unfold gA knownK
  induction l with
  | nil => rfl
  | cons y r ih =>
    simp only [List.map_cons, List.find?_cons]
    by_cases h : y = x
    · subst h; rw [decide_eq_true rfl]; simp
    · have h' : ¬ tkk y = tkk x := fun z => h (tkk_inj z)
      rw [decide_eq_false h']
      simp only
      rw [ih]
      have : ¬ x = y := fun z => h z.symm
      simp [this]
/-- what a handle leads to -/
def Tab.leads (T : Tab) (p t : Nat) : Option Th := match T.there.find? fun e => decide (e.p = p) with
  | some e => if e.t = t then some e.x else none
  | none => none
def optD : Option Th → D
  | none => .non
  | some x => thD x
theorem leads_eq {M : Mem} {i u t k : Nat} {T : Tab} (h : TabAt M i u t k T) (p n : Nat) : g_Table_leads [.ref i, .tup [.int p, .int n]] M = .ok (optD (T.leads p n)) M := by
  refine runB_rt (N := 4) ?_
  show B_Table_leads [some (.ref i), some (.tup [.int p, .int n]), none, none] M = _
  have g := gA_there T.there p
  unfold Tab.leads
  cases hf : T.there.find? fun e => decide (e.p = p) with
  | none =>
    rw [hf] at g
    have e1 : oInA true (.int p) (.ref t) M = .ok (.bl true) M := by rw [oInA_dk h.th, g]; rfl
    simp -implicitDefEqProofs (disch := first | assumption | omega | (simp only [List.length_cons, List.length_nil, List.length_append, List.length_map, List.length_take, List.length_drop, rngItems_len]; omega)) only [mSeq_eq, mIfS_eq, mSet_eq, mRet_eq, mRetN_eq, mExpr_eq, mPass_eq, mAsg_eq, mPar_eq, mAug_eq, bOf_eq, tOf_eq, tAndM_eq, tOrM_eq, tNotM_eq, tsYes_eq, mOp_eq, mUn_eq, mVar_eq, mC_eq, mCall_eq, mFun_eq, mFunKw_eq, mMeth_eq, mAnd_eq, mOr_eq, mNot_eq, mIf_eq, mChain_eq, mSl_eq, pNone_eq, pSome_eq, aCons_eq, aNil_eq, mTup_eq, mLst_eq, gN_eq, gT_eq, gsNil_eq, gsCons_eq, mkL_t, mkL_f, R.bind_ok, R.bind_no, R.nox_ok, List.getElem?_cons_zero, List.getElem?_cons_succ, List.set_cons_zero, List.set_cons_succ, List.length_cons, List.length_nil, List.append_nil, List.nil_append, List.cons_append, piApp_on, oLen_fz, oLen_lst, oLen_tup, oLt_int, oLe_int, oGt_int, oGe_int, oAdd_int, oSub_int, oIx_fz, oIx_lst, oIx_tup, oMax_int, oMin_int, oInt_bl, oInt_int, oIsi_bl, oNeg_int, oTuple_lst, oTuple_tup, iR1_eq, iR2_eq, iSq_eq, iStrM_eq, srcOf_tup, srcOf_lst, srcOf_fz, if_true, if_false, Bool.false_eq_true, Bool.true_eq_false, reduceIte, Nat.reduceAdd, Nat.reduceLeDiff, Nat.reduceEqDiff, Bool.not_true, Bool.not_false, decide_true, decide_false, and_self, and_true, true_and, oMod_int, oMul_r, oMul_l, oLen_str, oAdd_str, oSl_str, oSl_tup, oSl_lst, oSl_fz, rngOk_of, oEq_int, oEq_bl, beq_self_eq_true, Int.toNat_natCast, mFor_eq, mLc_eq, app_get0, app_get1, app_set0, app_set1, tyOk, oTuple_ref, oList_ref, oLen_refM, oIx_refM, oAppM, oExtM, srcOf_refM, ifLt24, ifLe24, B_Table_leads, mFld_eq, insOf_at h.ins, lk_there, e1]
    rfl
  | some e =>
    rw [hf] at g
    have g : gA (thereK T.there) (.inl (p : Int)) = some (.tup [.int e.t, thD e.x]) := g
    have e1 : oInA true (.int p) (.ref t) M = .ok (.bl false) M := by rw [oInA_dk h.th, g]; rfl
    have e2 := oIxA_dk h.th g
    have e3 : oIxA (.tup [.int e.t, thD e.x]) (.int 0) M = .ok (.int e.t) M := rfl
    have e4 : oIxA (.tup [.int e.t, thD e.x]) (.int 1) M = .ok (thD e.x) M := rfl
    by_cases hc : e.t = n
    · have e5 : oEq true (.int e.t) (.int n) M = .ok (.bl false) M := by rw [hc]; exact oEq_exT rfl (Nat.zero_le _)
      simp -implicitDefEqProofs (disch := first | assumption | omega | (simp only [List.length_cons, List.length_nil, List.length_append, List.length_map, List.length_take, List.length_drop, rngItems_len]; omega)) only [mSeq_eq, mIfS_eq, mSet_eq, mRet_eq, mRetN_eq, mExpr_eq, mPass_eq, mAsg_eq, mPar_eq, mAug_eq, bOf_eq, tOf_eq, tAndM_eq, tOrM_eq, tNotM_eq, tsYes_eq, mOp_eq, mUn_eq, mVar_eq, mC_eq, mCall_eq, mFun_eq, mFunKw_eq, mMeth_eq, mAnd_eq, mOr_eq, mNot_eq, mIf_eq, mChain_eq, mSl_eq, pNone_eq, pSome_eq, aCons_eq, aNil_eq, mTup_eq, mLst_eq, gN_eq, gT_eq, gsNil_eq, gsCons_eq, mkL_t, mkL_f, R.bind_ok, R.bind_no, R.nox_ok, List.getElem?_cons_zero, List.getElem?_cons_succ, List.set_cons_zero, List.set_cons_succ, List.length_cons, List.length_nil, List.append_nil, List.nil_append, List.cons_append, piApp_on, oLen_fz, oLen_lst, oLen_tup, oLt_int, oLe_int, oGt_int, oGe_int, oAdd_int, oSub_int, oIx_fz, oIx_lst, oIx_tup, oMax_int, oMin_int, oInt_bl, oInt_int, oIsi_bl, oNeg_int, oTuple_lst, oTuple_tup, iR1_eq, iR2_eq, iSq_eq, iStrM_eq, srcOf_tup, srcOf_lst, srcOf_fz, if_true, if_false, Bool.false_eq_true, Bool.true_eq_false, reduceIte, Nat.reduceAdd, Nat.reduceLeDiff, Nat.reduceEqDiff, Bool.not_true, Bool.not_false, decide_true, decide_false, and_self, and_true, true_and, oMod_int, oMul_r, oMul_l, oLen_str, oAdd_str, oSl_str, oSl_tup, oSl_lst, oSl_fz, rngOk_of, oEq_int, oEq_bl, beq_self_eq_true, Int.toNat_natCast, mFor_eq, mLc_eq, app_get0, app_get1, app_set0, app_set1, tyOk, oTuple_ref, oList_ref, oLen_refM, oIx_refM, oAppM, oExtM, srcOf_refM, ifLt24, ifLe24, B_Table_leads, mFld_eq, insOf_at h.ins, lk_there, e1, e2, e3, e4, e5, if_pos hc]
      all_goals rfl
    · have e5 : oEq true (.int e.t) (.int n) M = .ok (.bl true) M := oEq_exF rfl rfl (Nat.zero_le _) (fun z => hc (by injection z with z; omega))
      simp -implicitDefEqProofs (disch := first | assumption | omega | (simp only [List.length_cons, List.length_nil, List.length_append, List.length_map, List.length_take, List.length_drop, rngItems_len]; omega)) only [mSeq_eq, mIfS_eq, mSet_eq, mRet_eq, mRetN_eq, mExpr_eq, mPass_eq, mAsg_eq, mPar_eq, mAug_eq, bOf_eq, tOf_eq, tAndM_eq, tOrM_eq, tNotM_eq, tsYes_eq, mOp_eq, mUn_eq, mVar_eq, mC_eq, mCall_eq, mFun_eq, mFunKw_eq, mMeth_eq, mAnd_eq, mOr_eq, mNot_eq, mIf_eq, mChain_eq, mSl_eq, pNone_eq, pSome_eq, aCons_eq, aNil_eq, mTup_eq, mLst_eq, gN_eq, gT_eq, gsNil_eq, gsCons_eq, mkL_t, mkL_f, R.bind_ok, R.bind_no, R.nox_ok, List.getElem?_cons_zero, List.getElem?_cons_succ, List.set_cons_zero, List.set_cons_succ, List.length_cons, List.length_nil, List.append_nil, List.nil_append, List.cons_append, piApp_on, oLen_fz, oLen_lst, oLen_tup, oLt_int, oLe_int, oGt_int, oGe_int, oAdd_int, oSub_int, oIx_fz, oIx_lst, oIx_tup, oMax_int, oMin_int, oInt_bl, oInt_int, oIsi_bl, oNeg_int, oTuple_lst, oTuple_tup, iR1_eq, iR2_eq, iSq_eq, iStrM_eq, srcOf_tup, srcOf_lst, srcOf_fz, if_true, if_false, Bool.false_eq_true, Bool.true_eq_false, reduceIte, Nat.reduceAdd, Nat.reduceLeDiff, Nat.reduceEqDiff, Bool.not_true, Bool.not_false, decide_true, decide_false, and_self, and_true, true_and, oMod_int, oMul_r, oMul_l, oLen_str, oAdd_str, oSl_str, oSl_tup, oSl_lst, oSl_fz, rngOk_of, oEq_int, oEq_bl, beq_self_eq_true, Int.toNat_natCast, mFor_eq, mLc_eq, app_get0, app_get1, app_set0, app_set1, tyOk, oTuple_ref, oList_ref, oLen_refM, oIx_refM, oAppM, oExtM, srcOf_refM, ifLt24, ifLe24, B_Table_leads, mFld_eq, insOf_at h.ins, lk_there, e1, e2, e3, e4, e5, if_neg hc]
      all_goals rfl
theorem TabAt.lt {M : Mem} {i u t k : Nat} {T : Tab} (h : TabAt M i u t k T) : i < M.length ∧ u < M.length ∧ t < M.length ∧ k < M.length :=
  ⟨(List.getElem?_eq_some_iff.mp h.ins).1, (List.getElem?_eq_some_iff.mp h.us).1, (List.getElem?_eq_some_iff.mp h.th).1, (List.getElem?_eq_some_iff.mp h.kn).1⟩
theorem TabAt.setU {M : Mem} {i u t k : Nat} {T : Tab} (h : TabAt M i u t k T) (l : List Nat) : TabAt (M.set u (.lst (usedD l))) i u t k { T with used := l } := by
  obtain ⟨l1, l2, l3, l4⟩ := h.lt
  have := h.iu; have := h.ut; have := h.uk
  exact ⟨by rw [List.getElem?_set_ne (by omega)]; exact h.ins, List.getElem?_set_self l2, by rw [List.getElem?_set_ne (by omega)]; exact h.th, by rw [List.getElem?_set_ne (by omega)]; exact h.kn, h.iu, h.it, h.ik, h.ut, h.uk, h.tk⟩
theorem TabAt.setT {M : Mem} {i u t k : Nat} {T : Tab} (h : TabAt M i u t k T) (l : List En) : TabAt (M.set t (.dk false (thereK l))) i u t k { T with there := l } := by
  obtain ⟨l1, l2, l3, l4⟩ := h.lt
  have := h.it; have := h.ut; have := h.tk
  exact ⟨by rw [List.getElem?_set_ne (by omega)]; exact h.ins, by rw [List.getElem?_set_ne (by omega)]; exact h.us, List.getElem?_set_self l3, by rw [List.getElem?_set_ne (by omega)]; exact h.kn, h.iu, h.it, h.ik, h.ut, h.uk, h.tk⟩
theorem TabAt.setK {M : Mem} {i u t k : Nat} {T : Tab} (h : TabAt M i u t k T) (l : List Th) : TabAt (M.set k (.dt false (knownK l))) i u t k { T with known := l } := by
  obtain ⟨l1, l2, l3, l4⟩ := h.lt
  have := h.ik; have := h.uk; have := h.tk
  exact ⟨by rw [List.getElem?_set_ne (by omega)]; exact h.ins, by rw [List.getElem?_set_ne (by omega)]; exact h.us, by rw [List.getElem?_set_ne (by omega)]; exact h.th, List.getElem?_set_self l4, h.iu, h.it, h.ik, h.ut, h.uk, h.tk⟩
def Tab.has (T : Tab) (p : Nat) : Bool := (T.there.find? fun e => decide (e.p = p)).isSome
theorem in_there {M : Mem} {i u t k : Nat} {T : Tab} (h : TabAt M i u t k T) (neg : Bool) (p : Nat) : oInA neg (.int p) (.ref t) M = .ok (.bl (neg != T.has p)) M := by
  rw [oInA_dk h.th, gA_there]
  unfold Tab.has
  rw [Option.isSome_map]
theorem free_loop {M : Mem} {i u t k : Nat} {T : Tab} (h : TabAt M i u t k T) : ∀ (n fuel p : Nat), n < fuel → (∀ q, q < p + n → T.has q = true) → T.has (p + n) = false →
    whileM T_Table_free_place_0 L_Table_free_place_1 fuel [some (.ref i), some (.int p)] M = .ok (.nx [some (.ref i), some (.int (p + n : Nat))]) M
  | n, 0, _, hf, _, _ => absurd hf (by omega)
  | 0, fuel + 1, p, hf, h1, h2 => by
    have e : oInA false (.int p) (.ref t) M = .ok (.bl false) M := by rw [in_there h, show T.has p = false from h2]; rfl
    have c : T_Table_free_place_0 [some (.ref i), some (.int p)] M = .ok false M := by push_cast [T_Table_free_place_0, mFld_eq, insOf_at h.ins, lk_there, e]
    simp only [whileM, c, R.bind_ok, Bool.false_eq_true, if_false, Nat.add_zero]
  | n + 1, fuel + 1, p, hf, h1, h2 => by
    have e : oInA false (.int p) (.ref t) M = .ok (.bl true) M := by rw [in_there h, h1 p (by omega)]; rfl
    have c : T_Table_free_place_0 [some (.ref i), some (.int p)] M = .ok true M := by push_cast [T_Table_free_place_0, mFld_eq, insOf_at h.ins, lk_there, e]
    have b : L_Table_free_place_1 [some (.ref i), some (.int p)] M = .ok (.nx [some (.ref i), some (.int (p + 1 : Nat))]) M := rfl
    have ih := free_loop h n fuel (p + 1) (by omega) (fun q hq => h1 q (by omega)) (by rw [show p + 1 + n = p + (n + 1) by omega]; exact h2)
    rw [show p + 1 + n = p + (n + 1) by omega] at ih
    simp only [whileM, c, R.bind_ok, if_true, b, ih]
theorem free_eq {M : Mem} {i u t k : Nat} {T : Tab} (h : TabAt M i u t k T) (hl : T.there.length < 1000000) {f : Nat} (h0 : f ≤ T.there.length) (h1 : ∀ q, q < f → T.has q = true) (h2 : T.has f = false) : g_Table_free_place [.ref i] M = .ok (.int f) M := by
  refine runB_rt (N := 2) ?_
  show B_Table_free_place [some (.ref i), none] M = _
  have e := fun fuel hf => free_loop h f fuel 0 hf (by simpa using h1) (by simpa using h2)
  simp only [Nat.zero_add] at e
  have e' : mWhile T_Table_free_place_0 L_Table_free_place_1 [some (.ref i), some (.int 0)] M = .ok (.nx [some (.ref i), some (.int f)]) M := e _ (by omega)
  simp -implicitDefEqProofs (disch := first | assumption | omega | (simp only [List.length_cons, List.length_nil, List.length_append, List.length_map, List.length_take, List.length_drop, rngItems_len]; omega)) only [mSeq_eq, mIfS_eq, mSet_eq, mRet_eq, mRetN_eq, mExpr_eq, mPass_eq, mAsg_eq, mPar_eq, mAug_eq, bOf_eq, tOf_eq, tAndM_eq, tOrM_eq, tNotM_eq, tsYes_eq, mOp_eq, mUn_eq, mVar_eq, mC_eq, mCall_eq, mFun_eq, mFunKw_eq, mMeth_eq, mAnd_eq, mOr_eq, mNot_eq, mIf_eq, mChain_eq, mSl_eq, pNone_eq, pSome_eq, aCons_eq, aNil_eq, mTup_eq, mLst_eq, gN_eq, gT_eq, gsNil_eq, gsCons_eq, mkL_t, mkL_f, R.bind_ok, R.bind_no, R.nox_ok, List.getElem?_cons_zero, List.getElem?_cons_succ, List.set_cons_zero, List.set_cons_succ, List.length_cons, List.length_nil, List.append_nil, List.nil_append, List.cons_append, piApp_on, oLen_fz, oLen_lst, oLen_tup, oLt_int, oLe_int, oGt_int, oGe_int, oAdd_int, oSub_int, oIx_fz, oIx_lst, oIx_tup, oMax_int, oMin_int, oInt_bl, oInt_int, oIsi_bl, oNeg_int, oTuple_lst, oTuple_tup, iR1_eq, iR2_eq, iSq_eq, iStrM_eq, srcOf_tup, srcOf_lst, srcOf_fz, if_true, if_false, Bool.false_eq_true, Bool.true_eq_false, reduceIte, Nat.reduceAdd, Nat.reduceLeDiff, Nat.reduceEqDiff, Bool.not_true, Bool.not_false, decide_true, decide_false, and_self, and_true, true_and, oMod_int, oMul_r, oMul_l, oLen_str, oAdd_str, oSl_str, oSl_tup, oSl_lst, oSl_fz, rngOk_of, oEq_int, oEq_bl, beq_self_eq_true, Int.toNat_natCast, mFor_eq, mLc_eq, app_get0, app_get1, app_set0, app_set1, tyOk, oTuple_ref, oList_ref, oLen_refM, oIx_refM, oAppM, oExtM, srcOf_refM, ifLt24, ifLe24, B_Table_free_place, e']
theorem pA_new_there (l : List En) (e : En) (h : (l.find? fun e' => decide (e'.p = e.p)) = none) : pA (thereK l) (.inl (e.p : Int)) (.tup [.int e.t, thD e.x]) = thereK (l ++ [e]) := by
  unfold pA
  have : ((thereK l).any fun kv => decide (kv.1 = .inl (e.p : Int))) = false := by
    rw [List.any_eq_false]
    intro kv hkv
    unfold thereK at hkv
    obtain ⟨e', he', rfl⟩ := List.mem_map.mp hkv
    have := List.find?_eq_none.mp h e' he'
    simp only [decide_eq_true_eq] at this ⊢
    intro z
    have z : (Sum.inl (e'.p : Int) : KK) = .inl (e.p : Int) := z
    injection z with z
    exact this (by omega)
  rw [this, if_neg Bool.false_ne_true]
  unfold thereK
  rw [List.map_append]
  rfl
theorem pA_new_known (l : List Th) (x : Th) (h : ¬ x ∈ l) : pA (knownK l) (tkk x) (.bl true) = knownK (l ++ [x]) := by
  unfold pA
  have : ((knownK l).any fun kv => decide (kv.1 = tkk x)) = false := by
    rw [List.any_eq_false]
    intro kv hkv
    unfold knownK at hkv
    obtain ⟨y, hy, rfl⟩ := List.mem_map.mp hkv
    simp only [decide_eq_true_eq]
    intro z
    exact h (by rw [← tkk_inj z]; exact hy)
  rw [this, if_neg Bool.false_ne_true]
  unfold knownK
  rw [List.map_append]
  rfl
/-- a new thing at the place f: the table behind it; how often the place was used ahead -/
def Tab.us (T : Tab) (f : Nat) : List Nat := if f = T.used.length then T.used ++ [0] else T.used
def Tab.putAt (T : Tab) (f : Nat) (x : Th) : Tab := ⟨(T.us f).set f ((T.us f).getD f 0 + 1), T.there ++ [⟨f, (T.us f).getD f 0, x⟩], T.known ++ [x]⟩
theorem put_new {M : Mem} {i u t k : Nat} {T : Tab} (h : TabAt M i u t k T) (x : Th) (hx : ¬ x ∈ T.known) (hl : T.there.length < 1000000) (hu : T.used.length < 1000000) (hk : T.known.length < 1000000) {f : Nat} (h0 : f ≤ T.there.length) (h1 : ∀ q, q < f → T.has q = true) (h2 : T.has f = false) (hf : f ≤ T.used.length) :
    ∃ M', g_Table_put [.ref i, .str x.1, .int x.2] M = .ok (.tup [.int f, .int ((T.us f).getD f 0 : Nat)]) M' ∧ TabAt M' i u t k (T.putAt f x) ∧ M'.length = M.length ∧ ∀ j, j ≠ u → j ≠ t → j ≠ k → M'[j]? = M[j]? := by
  have e0 : oInA false (thD x) (.ref k) M = .ok (.bl false) M := by rw [oInA_dt h.kn (keyT_th x), gA_known, decide_eq_false hx]; rfl
  have e1 : oInA false (.tup [.str x.1, .int x.2]) (.ref k) M = .ok (.bl false) M := e0
  have lk : (knownK T.known).length < 16777216 := by unfold knownK; rw [List.length_map]; omega
  have e20 : sPut M (.ref k) (thD x) (.bl true) = some (M.set k (.dt false (knownK (T.known ++ [x])))) := by rw [sPut_dt h.kn (keyT_th x) lk, pA_new_known _ _ hx]
  have e2 : sPut M (.ref k) (.tup [.str x.1, .int x.2]) (.bl true) = some (M.set k (.dt false (knownK (T.known ++ [x])))) := e20
  have A1 := h.setK (T.known ++ [x])
  obtain ⟨M1, hM1⟩ : ∃ M1, M.set k (.dt false (knownK (T.known ++ [x]))) = M1 := ⟨_, rfl⟩
  rw [hM1] at e2 A1
  have e3 := free_eq A1 hl h0 h1 h2
  have i1 := insOf_at A1.ins
  have lu : (usedD T.used).length = T.used.length := by unfold usedD; rw [List.length_map]
  have e4 : oLenA [.ref u] M1 = .ok (.int T.used.length) M1 := by rw [oLenA_ref A1.us, oLen_ref A1.us, lu]
  -- what is noted of uses
  obtain ⟨M2, hM2⟩ : ∃ M2 : Mem, (if f = T.used.length then M1.set u (.lst (usedD (T.used ++ [0]))) else M1) = M2 := ⟨_, rfl⟩
  have A2 : TabAt M2 i u t k { T with known := T.known ++ [x], used := T.us f } := by
    unfold Tab.us
    by_cases hc : f = T.used.length
    · rw [if_pos hc] at hM2 ⊢; rw [← hM2]; exact A1.setU _
    · rw [if_neg hc] at hM2 ⊢; rw [← hM2]; exact A1
  have i2 := insOf_at A2.ins
  have fu : f < (T.us f).length := by
    unfold Tab.us
    split
    · simp; omega
    · omega
  obtain ⟨n, hn⟩ : ∃ n, (T.us f).getD f 0 = n := ⟨_, rfl⟩
  have at_ : L2.atI (usedD (T.us f)) (f : Int) = some (.int n) := atI_nat (by
    unfold usedD
    rw [List.getElem?_map, List.getElem?_eq_getElem fu, ← hn]
    simp [List.getD, List.getElem?_eq_getElem fu])
  have e5 : oIxA (.ref u) (.int f) M2 = .ok (.int n) M2 := by rw [oIxA_ref A2.us, oIx_refM, A2.us]; simp only [at_]
  have e6 := lGet_lst A2.us at_
  have ixf : ixN (usedD (T.us f)).length (f : Int) = some f := ixN_nat (by unfold usedD; rw [List.length_map]; exact fu)
  have us' : (usedD (T.us f)).set f (.int ((n : Int) + 1)) = usedD ((T.us f).set f (n + 1)) := by
    unfold usedD
    rw [List.map_set]
    rfl
  have e7 : sPut M2 (.ref u) (.int f) (.int ((n : Int) + 1)) = some (M2.set u (.lst (usedD ((T.us f).set f (n + 1))))) := by rw [sPut_lst A2.us ixf, us']
  have A3 := A2.setU ((T.us f).set f (n + 1))
  obtain ⟨M3, hM3⟩ : ∃ M3, M2.set u (.lst (usedD ((T.us f).set f (n + 1)))) = M3 := ⟨_, rfl⟩
  rw [hM3] at e7 A3
  have i3 := insOf_at A3.ins
  have lt : (thereK T.there).length < 16777216 := by unfold thereK; rw [List.length_map]; omega
  have hnone : (T.there.find? fun e' => decide (e'.p = f)) = none := by
    unfold Tab.has at h2
    cases hq : T.there.find? fun e' => decide (e'.p = f) with
    | none => rfl
    | some e => rw [hq] at h2; cases h2
  have e8 : sPut M3 (.ref t) (.int f) (.tup [.int n, .tup [.str x.1, .int x.2]]) = some (M3.set t (.dk false (thereK (T.there ++ [⟨f, n, x⟩])))) := by
    rw [sPut_dk A3.th lt]
    have := pA_new_there T.there ⟨f, n, x⟩ hnone
    exact congrArg (fun l => some (M3.set t (.dk false l))) this
  have A4 := A3.setT (T.there ++ [⟨f, n, x⟩])
  have oi : ∀ (a b : Int) (M : Mem), oI (fun i j => .int (i + j)) (.int a) (.int b) M = .ok (.int (a + b)) M := fun _ _ _ => rfl
  refine ⟨_, runB_rt (N := 6) ?_, by unfold Tab.putAt; rw [hn]; exact A4, ?_, fun j j1 j2 j3 => ?_⟩
  · show B_Table_put [some (.ref i), some (.str x.1), some (.int x.2), none, none, none] M = _
    rw [hn]
    by_cases hc : f = T.used.length
    · have b : ((f : Int) == (T.used.length : Int)) = true := by rw [beq_iff_eq]; omega
      rw [if_pos hc] at hM2
      have ap : (usedD T.used) ++ [.int 0] = usedD (T.used ++ [0]) := by unfold usedD; rw [List.map_append]; rfl
      have lu' : (usedD T.used).length < 16777216 := by omega
      have hap : oAppend (.ref u) [.int 0] M1 = .ok .non M2 := by rw [oAppend_at A1.us lu', ap, hM2]
      simp -implicitDefEqProofs (disch := first | assumption | omega | (simp only [List.length_cons, List.length_nil, List.length_append, List.length_map, List.length_take, List.length_drop, rngItems_len]; omega)) only [mSeq_eq, mIfS_eq, mSet_eq, mRet_eq, mRetN_eq, mExpr_eq, mPass_eq, mAsg_eq, mPar_eq, mAug_eq, bOf_eq, tOf_eq, tAndM_eq, tOrM_eq, tNotM_eq, tsYes_eq, mOp_eq, mUn_eq, mVar_eq, mC_eq, mCall_eq, mFun_eq, mFunKw_eq, mMeth_eq, mAnd_eq, mOr_eq, mNot_eq, mIf_eq, mChain_eq, mSl_eq, pNone_eq, pSome_eq, aCons_eq, aNil_eq, mTup_eq, mLst_eq, gN_eq, gT_eq, gsNil_eq, gsCons_eq, mkL_t, mkL_f, R.bind_ok, R.bind_no, R.nox_ok, List.getElem?_cons_zero, List.getElem?_cons_succ, List.set_cons_zero, List.set_cons_succ, List.length_cons, List.length_nil, List.append_nil, List.nil_append, List.cons_append, piApp_on, oLen_fz, oLen_lst, oLen_tup, oLt_int, oLe_int, oGt_int, oGe_int, oAdd_int, oSub_int, oIx_fz, oIx_lst, oIx_tup, oMax_int, oMin_int, oInt_bl, oInt_int, oIsi_bl, oNeg_int, oTuple_lst, oTuple_tup, iR1_eq, iR2_eq, iSq_eq, iStrM_eq, srcOf_tup, srcOf_lst, srcOf_fz, if_true, if_false, Bool.false_eq_true, Bool.true_eq_false, reduceIte, Nat.reduceAdd, Nat.reduceLeDiff, Nat.reduceEqDiff, Bool.not_true, Bool.not_false, decide_true, decide_false, and_self, and_true, true_and, oMod_int, oMul_r, oMul_l, oLen_str, oAdd_str, oSl_str, oSl_tup, oSl_lst, oSl_fz, rngOk_of, oEq_int, oEq_bl, beq_self_eq_true, Int.toNat_natCast, mFor_eq, mLc_eq, app_get0, app_get1, app_set0, app_set1, tyOk, oTuple_ref, oList_ref, oLen_refM, oIx_refM, oAppM, oExtM, srcOf_refM, ifLt24, ifLe24, B_Table_put, mFld_eq, insOf_at h.ins, lk_known, e1, gIxA_eq, e2, mMth_eq, i1, lk_free, e3, lk_used, e4, b, A1.us, hap, i2, e5, mAugIx_eq, e6, oi, e7, i3, lk_there, e8]
    · have b : ((f : Int) == (T.used.length : Int)) = false := by rw [beq_eq_false_iff_ne]; omega
      rw [if_neg hc] at hM2
      subst hM2
      simp -implicitDefEqProofs (disch := first | assumption | omega | (simp only [List.length_cons, List.length_nil, List.length_append, List.length_map, List.length_take, List.length_drop, rngItems_len]; omega)) only [mSeq_eq, mIfS_eq, mSet_eq, mRet_eq, mRetN_eq, mExpr_eq, mPass_eq, mAsg_eq, mPar_eq, mAug_eq, bOf_eq, tOf_eq, tAndM_eq, tOrM_eq, tNotM_eq, tsYes_eq, mOp_eq, mUn_eq, mVar_eq, mC_eq, mCall_eq, mFun_eq, mFunKw_eq, mMeth_eq, mAnd_eq, mOr_eq, mNot_eq, mIf_eq, mChain_eq, mSl_eq, pNone_eq, pSome_eq, aCons_eq, aNil_eq, mTup_eq, mLst_eq, gN_eq, gT_eq, gsNil_eq, gsCons_eq, mkL_t, mkL_f, R.bind_ok, R.bind_no, R.nox_ok, List.getElem?_cons_zero, List.getElem?_cons_succ, List.set_cons_zero, List.set_cons_succ, List.length_cons, List.length_nil, List.append_nil, List.nil_append, List.cons_append, piApp_on, oLen_fz, oLen_lst, oLen_tup, oLt_int, oLe_int, oGt_int, oGe_int, oAdd_int, oSub_int, oIx_fz, oIx_lst, oIx_tup, oMax_int, oMin_int, oInt_bl, oInt_int, oIsi_bl, oNeg_int, oTuple_lst, oTuple_tup, iR1_eq, iR2_eq, iSq_eq, iStrM_eq, srcOf_tup, srcOf_lst, srcOf_fz, if_true, if_false, Bool.false_eq_true, Bool.true_eq_false, reduceIte, Nat.reduceAdd, Nat.reduceLeDiff, Nat.reduceEqDiff, Bool.not_true, Bool.not_false, decide_true, decide_false, and_self, and_true, true_and, oMod_int, oMul_r, oMul_l, oLen_str, oAdd_str, oSl_str, oSl_tup, oSl_lst, oSl_fz, rngOk_of, oEq_int, oEq_bl, beq_self_eq_true, Int.toNat_natCast, mFor_eq, mLc_eq, app_get0, app_get1, app_set0, app_set1, tyOk, oTuple_ref, oList_ref, oLen_refM, oIx_refM, oAppM, oExtM, srcOf_refM, ifLt24, ifLe24, B_Table_put, mFld_eq, insOf_at h.ins, lk_known, e1, gIxA_eq, e2, mMth_eq, i1, lk_free, e3, lk_used, e4, b, i2, e5, mAugIx_eq, e6, oi, e7, i3, lk_there, e8]
  · rw [← hM3, ← hM2, ← hM1]
    split <;> simp
  · rw [← hM3, ← hM2, ← hM1]
    split <;> simp [List.getElem?_set_ne, Ne.symm j1, Ne.symm j2, Ne.symm j3]
def hD (e : En) : D := .tup [.int e.p, .int e.t]
def pairsOk (l : List D) : Prop := ∀ d ∈ l, ∃ a b : Int, d = .tup [.int a, .int b]
theorem sortOk_pairs {l : List D} (h : pairsOk l) : sortOk l := by
  refine ⟨fun d hd => ?_, fun d hd d' hd' => ?_, .inl fun d hd => ?_⟩
  · obtain ⟨a, b, rfl⟩ := h d hd
    refine ⟨rfl, ?_⟩
    show (PyData.tuple [.int a, .int b]).depth ≤ 60
    simp [PyData.depth, PyData.depthAll]
  · obtain ⟨a, b, rfl⟩ := h d hd
    obtain ⟨a', b', rfl⟩ := h d' hd'
    rfl
  · obtain ⟨a, b, rfl⟩ := h d hd
    rfl
theorem sorted_pairs {l : List D} {M : Mem} (h : pairsOk l) : oSorted false [.lst l] M = .ok (.lst (sortD l)) M := by
  simp only [oSorted, lstOf, if_pos (sortOk_pairs h), mkL_f]
theorem set_back {M : Mem} {t : Nat} {c d : Cell} (h : M[t]? = some c) : (M.set t d).set t c = M := by
  rw [List.set_set]
  obtain ⟨h1, h2⟩ := List.getElem?_eq_some_iff.mp h
  rw [← h2, List.set_getElem_self]
theorem handles_eq {M : Mem} {i u t k : Nat} {T : Tab} (h : TabAt M i u t k T) (hl : T.there.length < 1000000) : g_Table_handles [.ref i] M = .ok (.lst (sortD (T.there.map hD))) M := by
  refine runB_rt (N := 4) ?_
  show B_Table_handles [some (.ref i), none, none, none] M = _
  have hi := insOf_at h.ins
  have ht : t < M.length := h.lt.2.2.1
  have hit := h.it
  have fd : (mFld 0 "there" (mVar 0)) [some (.ref i), none, none, none] M = .ok (.ref t) M := by push_cast [mFld_eq, hi, lk_there]
  obtain ⟨M', hM'⟩ : ∃ M', M.set t (.dk true (thereK T.there)) = M' := ⟨_, rfl⟩
  have hi' : insOf 0 M' (.ref i) = some (i, tabF u t k) := insOf_at (by rw [← hM', List.getElem?_set_ne (Ne.symm hit)]; exact h.ins)
  have hlk : M'[t]? = some (.dk true (thereK T.there)) := by rw [← hM']; exact List.getElem?_set_self ht
  have c := compL_m (P := fun _ => True) (M := M') trivial (g := gT 2 (gsCons (gN 1) (gsCons (gT 2 (gsCons (gN 2) (gsCons (gN 3) gsNil))) gsNil))) (f := C_Table_handles_0) (env := wipeE [some (.ref i), none, none, none] [1, 2, 3]) (fun e : En => .tup [keyD (En.kv e).1, (En.kv e).2]) hD T.there fun e _ =>
    ⟨[some (.ref i), some (.int e.p), some (.int e.t), some (thD e.x)], rfl, rfl⟩
  have hs : ((thereK T.there).map fun kv => D.tup [keyD kv.1, kv.2]) = T.there.map fun e : En => .tup [keyD (En.kv e).1, (En.kv e).2] := by unfold thereK; rw [List.map_map]; rfl
  have fi : iItemsA (mFld 0 "there" (mVar 0)) [some (.ref i), none, none, none] M' = .ok ⟨T.there.map fun e : En => .tup [keyD (En.kv e).1, (En.kv e).2], fun _ => True⟩ M' := by
    have fd' : (mFld 0 "there" (mVar 0)) [some (.ref i), none, none, none] M' = .ok (.ref t) M' := by push_cast [mFld_eq, hi', lk_there]
    simp only [iItemsA, fd', R.bind_ok, hlk, hs]
  have hlen : (T.there.map fun e : En => D.tup [keyD (En.kv e).1, (En.kv e).2]).length < 16777216 := by rw [List.length_map]; omega
  have e1 : (mLc false [1, 2, 3] (iItemsA (mFld 0 "there" (mVar 0))) (gT 2 (gsCons (gN 1) (gsCons (gT 2 (gsCons (gN 2) (gsCons (gN 3) gsNil))) gsNil))) tsYes C_Table_handles_0) [some (.ref i), none, none, none] M' = .ok (.lst (T.there.map hD)) M' := by
    simp only [mLc_eq, fi, R.bind_ok, hlen, if_true, c, R.nox_ok, mkL_f]
  have e2 := lock_dk (f := mLc false [1, 2, 3] (iItemsA (mFld 0 "there" (mVar 0))) (gT 2 (gsCons (gN 1) (gsCons (gT 2 (gsCons (gN 2) (gsCons (gN 3) gsNil))) gsNil))) tsYes C_Table_handles_0) fd h.th (by rw [hM']; exact e1) hlk
  rw [← hM', set_back h.th] at e2
  have e3 : mLockE (mFld 0 "there" (mVar 0)) (mLc false [1, 2, 3] (iItemsA (mFld 0 "there" (mVar 0))) (gT 2 (gsCons (gN 1) (gsCons (gT 2 (gsCons (gN 2) (gsCons (gN 3) gsNil))) gsNil))) tsYes C_Table_handles_0) [some (.ref i), none, none, none] M = .ok (.lst (T.there.map hD)) M := e2
  have e4 : oSorted false [.lst (T.there.map hD)] M = .ok (.lst (sortD (T.there.map hD))) M := sorted_pairs fun d hd => by obtain ⟨e, _, rfl⟩ := List.mem_map.mp hd; exact ⟨_, _, rfl⟩
  simp -implicitDefEqProofs (disch := first | assumption | omega | (simp only [List.length_cons, List.length_nil, List.length_append, List.length_map, List.length_take, List.length_drop, rngItems_len]; omega)) only [mSeq_eq, mIfS_eq, mSet_eq, mRet_eq, mRetN_eq, mExpr_eq, mPass_eq, mAsg_eq, mPar_eq, mAug_eq, bOf_eq, tOf_eq, tAndM_eq, tOrM_eq, tNotM_eq, tsYes_eq, mOp_eq, mUn_eq, mVar_eq, mC_eq, mCall_eq, mFun_eq, mFunKw_eq, mMeth_eq, mAnd_eq, mOr_eq, mNot_eq, mIf_eq, mChain_eq, mSl_eq, pNone_eq, pSome_eq, aCons_eq, aNil_eq, mTup_eq, mLst_eq, gN_eq, gT_eq, gsNil_eq, gsCons_eq, mkL_t, mkL_f, R.bind_ok, R.bind_no, R.nox_ok, List.getElem?_cons_zero, List.getElem?_cons_succ, List.set_cons_zero, List.set_cons_succ, List.length_cons, List.length_nil, List.append_nil, List.nil_append, List.cons_append, piApp_on, oLen_fz, oLen_lst, oLen_tup, oLt_int, oLe_int, oGt_int, oGe_int, oAdd_int, oSub_int, oIx_fz, oIx_lst, oIx_tup, oMax_int, oMin_int, oInt_bl, oInt_int, oIsi_bl, oNeg_int, oTuple_lst, oTuple_tup, iR1_eq, iR2_eq, iSq_eq, iStrM_eq, srcOf_tup, srcOf_lst, srcOf_fz, if_true, if_false, Bool.false_eq_true, Bool.true_eq_false, reduceIte, Nat.reduceAdd, Nat.reduceLeDiff, Nat.reduceEqDiff, Bool.not_true, Bool.not_false, decide_true, decide_false, and_self, and_true, true_and, oMod_int, oMul_r, oMul_l, oLen_str, oAdd_str, oSl_str, oSl_tup, oSl_lst, oSl_fz, rngOk_of, oEq_int, oEq_bl, beq_self_eq_true, Int.toNat_natCast, mFor_eq, mLc_eq, app_get0, app_get1, app_set0, app_set1, tyOk, oTuple_ref, oList_ref, oLen_refM, oIx_refM, oAppM, oExtM, srcOf_refM, ifLt24, ifLe24, B_Table_handles, e3, e4]
theorem init_eq (M : Mem) : g_Table___init__ [.ref M.length] (M ++ [.ins 0 []]) = .ok .non (M ++ [.ins 0 (tabF (M.length + 1) (M.length + 2) (M.length + 3)), .lst [], .dk false [], .dt false []]) := by
  have hg : ∀ {c : Cell} {B : Mem}, (M ++ c :: B)[M.length]? = some c := fun {c B} => app_get0 rfl
  have hs : ∀ {c d : Cell} {B : Mem}, (M ++ c :: B).set M.length d = M ++ d :: B := fun {c d B} => app_set0 rfl
  have n1 : ¬ (("used" : Str) = "there") := by decide +kernel
  have n2 : ¬ (("used" : Str) = "known") := by decide +kernel
  have n3 : ¬ (("there" : Str) = "known") := by decide +kernel
  have k0 : (0 < 1000) = True := by simp
  have k1 : (1 < 1000) = True := by simp
  have k2 : (2 < 1000) = True := by simp
  have e1 : putD "used" (.ref (M.length + 1)) [] = ([("used", .ref (M.length + 1))] : List (Str × D)) := rfl
  have e2 : putD "there" (.ref (M.length + 2)) ([("used", .ref (M.length + 1))] : List (Str × D)) = ([("used", .ref (M.length + 1)), ("there", .ref (M.length + 2))] : List (Str × D)) := by simp only [putD, n1, if_false]
  have e3 : putD "known" (.ref (M.length + 3)) ([("used", .ref (M.length + 1)), ("there", .ref (M.length + 2))] : List (Str × D)) = tabF (M.length + 1) (M.length + 2) (M.length + 3) := by simp only [putD, tabF, n2, n3, if_false]
  refine runB_nx (N := 1) (env := [some (.ref M.length)]) ?_
  show B_Table___init__ [some (.ref M.length)] (M ++ [.ins 0 []]) = _
  push_cast [B_Table___init__, mFldSet_eq, insOf_at hg, hs, e1, e2, e3, mDNewK_eq, mDNewT_eq, List.length_append, List.append_assoc, k0, k1, k2]
def le2 (x y : Int × Int) : Bool := decide (x.1 < y.1 ∨ (x.1 = y.1 ∧ x.2 ≤ y.2))
def prD2 (x : Int × Int) : D := .tup [.int x.1, .int x.2]
theorem leD_pairs (a b : Int × Int) : leD (prD2 a) (prD2 b) = le2 a b := by
  have h := congrFun (congrFun (PySem.W.dataLe_ii (β := Int × Int) (fun x => x.1) (fun x => x.2)) a) b
  show PySem.W.dataLe false (fun x : Int × Int => .tuple [.int x.1, .int x.2]) a b = _
  rw [h]
  rfl
theorem sortD_pairs (l : List (Int × Int)) : sortD (l.map prD2) = (l.mergeSort le2).map prD2 := by
  unfold sortD
  symm
  apply List.map_mergeSort
  intro a _ b _
  exact (leD_pairs a b).symm
def enF (o : Nat) : List Th → List En
  | [] => []
  | x :: r => ⟨o, 0, x⟩ :: enF (o + 1) r
theorem enF_app : ∀ (o : Nat) (a b : List Th), enF o (a ++ b) = enF o a ++ enF (o + a.length) b
  | _, [], _ => rfl
  | o, x :: r, b => by
    simp only [List.cons_append, enF, enF_app (o + 1) r b, List.length_cons]
    rw [show o + 1 + r.length = o + (r.length + 1) by omega]
theorem enF_len : ∀ (o : Nat) (a : List Th), (enF o a).length = a.length
  | _, [] => rfl
  | o, x :: r => by simp [enF, enF_len (o + 1) r]
theorem enF_find : ∀ (o : Nat) (a : List Th) (p : Nat), (enF o a).find? (fun e => decide (e.p = o + p)) = (a[p]?).map fun x => ⟨o + p, 0, x⟩
  | _, [], p => by simp [enF]
  | o, x :: r, 0 => by simp [enF]
  | o, x :: r, p + 1 => by
    rw [enF, List.find?_cons, List.getElem?_cons_succ]
    have : decide (o = o + (p + 1)) = false := decide_eq_false (by omega)
    simp only [this]
    have ih := enF_find (o + 1) r p
    rw [show o + 1 + p = o + (p + 1) by omega] at ih
    exact ih
def tabN (xs : List Th) : Tab := ⟨List.replicate xs.length 1, enF 0 xs, xs⟩
theorem tabN_find (xs : List Th) (p : Nat) : (tabN xs).there.find? (fun e => decide (e.p = p)) = (xs[p]?).map fun x => ⟨p, 0, x⟩ := by
  have := enF_find 0 xs p
  rw [Nat.zero_add] at this
  exact this
theorem tabN_has (xs : List Th) (p : Nat) : (tabN xs).has p = decide (p < xs.length) := by
  unfold Tab.has
  rw [tabN_find, Option.isSome_map]
  by_cases h : p < xs.length
  · rw [List.getElem?_eq_getElem h, decide_eq_true h]; rfl
  · rw [List.getElem?_eq_none (by omega), decide_eq_false h]; rfl
theorem tabN_leads {xs : List Th} {p : Nat} {x : Th} (h : xs[p]? = some x) : (tabN xs).leads p 0 = some x := by
  unfold Tab.leads
  rw [tabN_find, h]
  rfl
theorem tabN_put (xs : List Th) (x : Th) : (tabN xs).putAt xs.length x = tabN (xs ++ [x]) := by
  have hu : (tabN xs).us xs.length = List.replicate xs.length 1 ++ [0] := by
    unfold Tab.us
    rw [if_pos (by unfold tabN; simp)]; rfl
  have hg : (List.replicate xs.length 1 ++ [0]).getD xs.length 0 = 0 := by
    rw [List.getD_eq_getElem?_getD, List.getElem?_append_right (by simp)]
    simp
  unfold Tab.putAt
  rw [hu, hg]
  unfold tabN
  rw [enF_app]
  congr 1
  · rw [List.set_append_right _ _ (by simp), List.length_append, List.length_replicate, Nat.sub_self]
    simp [List.replicate_succ']
  · simp [enF]
theorem put_step {M : Mem} {i u t k : Nat} {xs : List Th} (h : TabAt M i u t k (tabN xs)) (x : Th) (hx : ¬ x ∈ xs) (hl : xs.length < 1000) :
    ∃ M' d, g_Table_put [.ref i, .str x.1, .int x.2] M = .ok d M' ∧ TabAt M' i u t k (tabN (xs ++ [x])) ∧ M'.length = M.length ∧ ∀ j, j ≠ u → j ≠ t → j ≠ k → M'[j]? = M[j]? := by
  obtain ⟨M', e, h1, h2, h3⟩ := put_new h x hx (by unfold tabN; rw [enF_len]; omega) (by unfold tabN; rw [List.length_replicate]; omega) (by unfold tabN; show xs.length < _; omega) (f := xs.length) (by unfold tabN; rw [enF_len]; exact Nat.le_refl _) (fun q hq => by rw [tabN_has, decide_eq_true hq]) (by rw [tabN_has, decide_eq_false (by omega)]) (by unfold tabN; rw [List.length_replicate]; exact Nat.le_refl _)
  rw [tabN_put] at h1
  exact ⟨M', _, e, h1, h2, h3⟩
theorem TabAt.same {M M' : Mem} {i u t k : Nat} {T : Tab} (h : TabAt M i u t k T) (hi : M'[i]? = M[i]?) (hu : M'[u]? = M[u]?) (ht : M'[t]? = M[t]?) (hk : M'[k]? = M[k]?) : TabAt M' i u t k T :=
  ⟨by rw [hi]; exact h.ins, by rw [hu]; exact h.us, by rw [ht]; exact h.th, by rw [hk]; exact h.kn, h.iu, h.it, h.ik, h.ut, h.uk, h.tk⟩
theorem enF_hD : ∀ (o : Nat) (xs : List Th), (enF o xs).map hD = ((List.range' o xs.length).map fun p : Nat => ((p : Int), (0 : Int))).map prD2
  | _, [] => rfl
  | o, x :: r => by
    rw [enF, List.map_cons, enF_hD (o + 1) r, List.length_cons, List.range'_succ, List.map_cons, List.map_cons]
    rfl
theorem sort_enF (xs : List Th) : sortD ((enF 0 xs).map hD) = (enF 0 xs).map hD := by
  rw [enF_hD, sortD_pairs]
  congr 1
  apply List.mergeSort_of_pairwise
  rw [List.pairwise_map]
  refine (List.pairwise_lt_range' (s := 0) (n := xs.length)).imp fun {a b} hab => ?_
  unfold le2
  exact decide_eq_true (.inl (by show (a : Int) < (b : Int); omega))
theorem hands_eq {M : Mem} {i u t k : Nat} {xs : List Th} (h : TabAt M i u t k (tabN xs)) (hl : xs.length < 1000) : g_Table_handles [.ref i] M = .ok (.lst ((enF 0 xs).map hD)) M := by
  rw [handles_eq h (by unfold tabN; rw [enF_len]; omega)]
  rw [show (tabN xs).there = enF 0 xs from rfl, sort_enF]
structure Pu where
  h : Nm
  n : Nat
  pl : Pt
  rs : List Nm
  far : Nat
  a : Option Ak
def puL (ho : Pt) (x : Pu) : List D := [ptD ho, .str x.h, .int x.n, ptD x.pl, strT x.rs, .int x.far, oAsk x.a]
theorem strT_inj {a b : List Nm} (h : strT a = strT b) : a = b := by
  unfold strT at h
  injection h with h
  exact map_inj (fun a b e => by injection e) h
theorem oAsk_inj {a b : Option Ak} (h : oAsk a = oAsk b) : a = b := by
  cases a <;> cases b
  · rfl
  · cases h
  · cases h
  · rw [askD_inj h]
theorem puL_inj {a b : Pt} {x y : Pu} (h : puL a x = puL b y) : a = b ∧ x = y := by
  unfold puL at h
  simp only [List.cons.injEq, D.str.injEq, D.int.injEq, and_true] at h
  obtain ⟨h1, h2, h3, h4, h5, h6, h7⟩ := h
  refine ⟨pt_inj h1, ?_⟩
  cases x; cases y
  simp only [Pu.mk.injEq]
  exact ⟨h2, Int.ofNat_inj.mp h3, pt_inj h4, strT_inj h5, Int.ofNat_inj.mp h6, oAsk_inj h7⟩
abbrev dropN : Nm := [100, 114, 111, 112]
def PutOk : Rw5 → Prop
  | .oth w _ ps => w ≠ dropN ∧ (w = putN → ∃ ho x, ps = puL ho x)
  | _ => True
open Classical in
noncomputable def putOf (b : Pt) : Rw5 → Option Pu
  | .oth w _ ps => if h : w = putN ∧ ∃ x, ps = puL b x then some h.2.choose else none
  | _ => none
open Classical in
theorem putOf_put (b : Pt) (t : Nat) (x : Pu) : putOf b (.oth putN t (puL b x)) = some x := by
  have h : putN = putN ∧ ∃ y, puL b x = puL b y := ⟨rfl, x, rfl⟩
  show (if h : putN = putN ∧ ∃ y, puL b x = puL b y then some h.2.choose else none) = some x
  rw [dif_pos h]
  exact congrArg some (puL_inj h.2.choose_spec).2.symm
open Classical in
theorem putOf_other {b c : Pt} (t : Nat) (x : Pu) (h : c ≠ b) : putOf b (.oth putN t (puL c x)) = none := by
  show (if h : putN = putN ∧ ∃ y, puL c x = puL b y then some h.2.choose else none) = none
  exact dif_neg (fun z => by obtain ⟨y, hy⟩ := z.2; exact h (puL_inj hy).1)
open Classical in
theorem putOf_no {b : Pt} {w : Nm} (t : Nat) (ps : List D) (h : w ≠ putN) : putOf b (.oth w t ps) = none := by
  show (if h : w = putN ∧ ∃ y, ps = puL b y then some h.2.choose else none) = none
  exact dif_neg (fun z => h z.1)
noncomputable def putsOf (l : List Rw5) (b : Pt) : List Pu := l.filterMap (putOf b)
def puT (x : Pu) : Th := (x.h, (x.n : Int))
def vPu (x : Pu) : D := .tup [ptD x.pl, strT x.rs, .int x.far]
def thgK (E : List Pu) : List (List KK × D) := E.map fun x => (tkk (puT x), vPu x)
theorem gA_thg : ∀ {E : List Pu}, (E.map puT).Nodup → ∀ {x : Pu}, x ∈ E → gA (thgK E) (tkk (puT x)) = some (vPu x)
  | [], _, x, h => by cases h
  | y :: r, nd, x, h => by
    have nd' := List.pairwise_cons.mp (show (puT y :: r.map puT).Pairwise (· ≠ ·) from nd)
    unfold gA thgK
    rw [List.map_cons, List.find?_cons]
    by_cases c : puT y = puT x
    · have hxy : x = y := by
        rcases List.mem_cons.mp h with q | q
        · exact q
        · exact absurd c (nd'.1 _ (List.mem_map.mpr ⟨x, q, rfl⟩))
      subst hxy
      simp
    · have hx : x ∈ r := by
        rcases List.mem_cons.mp h with q | q
        · subst q; exact absurd rfl c
        · exact q
      have : decide (tkk (puT y) = tkk (puT x)) = false := decide_eq_false fun z => c (tkk_inj z)
      simp only [this]
      exact gA_thg nd'.2 hx
theorem pA_thg {E : List Pu} {x : Pu} (h : ¬ puT x ∈ E.map puT) : pA (thgK E) (tkk (puT x)) (vPu x) = thgK (E ++ [x]) := by
  unfold pA
  have : ((thgK E).any fun kv => decide (kv.1 = tkk (puT x))) = false := by
    rw [List.any_eq_false]
    intro kv hkv
    obtain ⟨y, hy, rfl⟩ := List.mem_map.mp hkv
    simp only [decide_eq_true_eq]
    intro z
    exact h (by rw [← tkk_inj z]; exact List.mem_map.mpr ⟨y, hy, rfl⟩)
  rw [this, if_neg Bool.false_ne_true]
  unfold thgK
  rw [List.map_append]; rfl
/-- the memory while it is replayed -/
structure RepAt (M0 m : Mem) (E : List Pu) : Prop where
  tab : TabAt m M0.length (M0.length + 1) (M0.length + 2) (M0.length + 3) (tabN (E.map puT))
  thg : m[M0.length + 4]? = some (.dt false (thgK E))
  len : m.length = M0.length + 5
  old : ∀ j, j < M0.length → m[j]? = M0[j]?
theorem rep_put {M0 m : Mem} {E : List Pu} (h : RepAt M0 m E) {b : Pt} {x : Pu} (hx : ¬ puT x ∈ E.map puT) (hl : E.length < 900) (x0 x5 x7 : Option D) :
    ∃ m', RepAt M0 m' (E ++ [x]) ∧ L_replayed_1 [x0, some (ptD b), some (.ref M0.length), some (.ref (M0.length + 4)), some (.str putN), x5, some (.lst (puL b x)), x7] m = .ok (.nx [x0, some (ptD b), some (.ref M0.length), some (.ref (M0.length + 4)), some (.str putN), x5, some (.lst (puL b x)), x7]) m' := by
  obtain ⟨M', d, e1, t1, l1, o1⟩ := put_step h.tab (puT x) hx (by rw [List.length_map]; omega)
  have e1 : g_Table_put [.ref M0.length, .str x.h, .int (x.n : Int)] m = .ok d M' := e1
  have hth : M'[M0.length + 4]? = some (.dt false (thgK E)) := by rw [o1 _ (by omega) (by omega) (by omega)]; exact h.thg
  have lK : (thgK E).length < 16777216 := by unfold thgK; rw [List.length_map]; omega
  have sp0 := sPut_dt (v := vPu x) hth (keyT_th (puT x)) lK
  rw [pA_thg hx] at sp0
  have sp : sPut M' (.ref (M0.length + 4)) (.tup [.str x.h, .int (x.n : Int)]) (.tup [ptD x.pl, strT x.rs, .int x.far]) = some (M'.set (M0.length + 4) (.dt false (thgK (E ++ [x])))) := sp0
  have ne : ∀ j, j ≠ M0.length + 4 → (M'.set (M0.length + 4) (.dt false (thgK (E ++ [x]))))[j]? = M'[j]? := fun j hj => List.getElem?_set_ne (Ne.symm hj)
  refine ⟨M'.set (M0.length + 4) (.dt false (thgK (E ++ [x]))), ⟨by rw [List.map_append]; exact t1.same (ne _ (by omega)) (ne _ (by omega)) (ne _ (by omega)) (ne _ (by omega)), List.getElem?_set_self (by rw [l1, h.len]; omega), by rw [List.length_set, l1, h.len], fun j hj => ?_⟩, ?_⟩
  · rw [ne j (by omega), o1 j (by omega) (by omega) (by omega)]; exact h.old j hj
  have hi := insOf_at h.tab.ins
  have q1 : ∀ M, oEq false (.str putN) (.str [112, 117, 116]) M = .ok (.bl true) M := fun M => oEq_exT rfl (Nat.zero_le _)
  have q2 : ∀ M, oEq false (.str putN) (.str [100, 114, 111, 112]) M = .ok (.bl false) M := fun M => by rw [str_eq]; rfl
  have q3 : ∀ M, oEq false (ptD b) (ptD b) M = .ok (.bl true) M := fun M => by rw [pt_eqD, decide_eq_true rfl]; rfl
  obtain ⟨PD, hPD⟩ : ∃ P, D.lst (puL b x) = P := ⟨_, rfl⟩
  have j0 : ∀ M, oIxA PD (.int 0) M = .ok (ptD b) M := fun M => by rw [← hPD]; rfl
  have j1 : ∀ M, oIxA PD (.int 1) M = .ok (.str x.h) M := fun M => by rw [← hPD]; rfl
  have j2 : ∀ M, oIxA PD (.int 2) M = .ok (.int (x.n : Int)) M := fun M => by rw [← hPD]; rfl
  have j3 : ∀ M, oSl false PD (some 3) (some 6) M = .ok (.lst [ptD x.pl, strT x.rs, .int x.far]) M := fun M => by rw [← hPD]; rfl
  rw [hPD]
  push_cast [L_replayed_1, q1, j0, q3, mMth_eq, hi, lk_put, j1, j2, e1, j3, gIxA_eq, sp, q2]
theorem rep_no {m : Mem} (w : Nm) (b : Pt) (ps : List D) (hd : w ≠ dropN) (hw : w ≠ putN ∨ ∃ c x, ps = puL c x ∧ c ≠ b) (x0 x2 x3 x5 x7 : Option D) :
    L_replayed_1 [x0, some (ptD b), x2, x3, some (.str w), x5, some (.lst ps), x7] m = .ok (.nx [x0, some (ptD b), x2, x3, some (.str w), x5, some (.lst ps), x7]) m := by
  have q1 : ∀ M, oEq false (.str w) (.str [112, 117, 116]) M = .ok (.bl (decide (w = putN))) M := fun M => str_eq _ _ M
  have q2 : ∀ M, oEq false (.str w) (.str [100, 114, 111, 112]) M = .ok (.bl (decide (w = dropN))) M := fun M => str_eq _ _ M
  rw [decide_eq_false hd] at q2
  by_cases hp : w = putN
  · rcases hw with h | ⟨c, x, rfl, hc⟩
    · exact absurd hp h
    · rw [decide_eq_true hp] at q1
      have q3 : ∀ M, oEq false (ptD c) (ptD b) M = .ok (.bl false) M := fun M => by rw [pt_eqD, decide_eq_false hc]; rfl
      obtain ⟨PD, hPD⟩ : ∃ P, D.lst (puL c x) = P := ⟨_, rfl⟩
      have j0 : ∀ M, oIxA PD (.int 0) M = .ok (ptD c) M := fun M => by rw [← hPD]; rfl
      rw [hPD]
      push_cast [L_replayed_1, q1, j0, q3, q2]
  · rw [decide_eq_false hp] at q1
    push_cast [L_replayed_1, q1, q2]
theorem rep_tgt {r : Rw5} (ok : RwOk r) (x0 x1 x2 x3 x4 x5 x6 x7 : Option D) (M : Mem) : (gS 3 2 (gsCons (gN 4) (gsCons (gN 5) (gsCons (gN 6) gsNil)))) (rwD r) [x0, x1, x2, x3, x4, x5, x6, x7] M = .ok [x0, x1, x2, x3, some (.str r.w), some (.int r.t), some (.lst r.ps), x7] M := by
  have pl := ps_len ok
  have d1 : (3 ≤ (D.str r.w :: D.int r.t :: r.ps).length + 1 ∧ (D.str r.w :: D.int r.t :: r.ps).length ≤ 16384) := by simp; omega
  have tk : (List.drop 2 (D.str r.w :: D.int r.t :: r.ps)).take ((D.str r.w :: D.int r.t :: r.ps).length + 1 - 3) = r.ps := List.take_of_length_le (by simp)
  have dr : (List.drop 2 (D.str r.w :: D.int r.t :: r.ps)).drop ((D.str r.w :: D.int r.t :: r.ps).length + 1 - 3) = [] := List.drop_of_length_le (by simp)
  have t2 : (D.str r.w :: D.int r.t :: r.ps).take 2 = [D.str r.w, D.int r.t] := rfl
  rw [rwD_ps, gS_eq, if_pos d1, tk, dr, t2]
  rfl
theorem rep_turn {M0 m : Mem} {E : List Pu} (h : RepAt M0 m E) {b : Pt} {r : Rw5} (ok : RwOk r) (po : PutOk r) (hx : ∀ x, putOf b r = some x → ¬ puT x ∈ E.map puT) (hl : E.length < 900) (x0 x7 : Option D) :
    ∃ m', RepAt M0 m' (E ++ (putOf b r).toList) ∧ L_replayed_1 [x0, some (ptD b), some (.ref M0.length), some (.ref (M0.length + 4)), some (.str r.w), some (.int r.t), some (.lst r.ps), x7] m = .ok (.nx [x0, some (ptD b), some (.ref M0.length), some (.ref (M0.length + 4)), some (.str r.w), some (.int r.t), some (.lst r.ps), x7]) m' := by
  have no : ∀ {w : Nm} {ps : List D} (t : D), w ≠ dropN → (w ≠ putN ∨ ∃ c x, ps = puL c x ∧ c ≠ b) → ∃ m', RepAt M0 m' (E ++ []) ∧ L_replayed_1 [x0, some (ptD b), some (.ref M0.length), some (.ref (M0.length + 4)), some (.str w), some t, some (.lst ps), x7] m = .ok (.nx [x0, some (ptD b), some (.ref M0.length), some (.ref (M0.length + 4)), some (.str w), some t, some (.lst ps), x7]) m' := fun {w ps} t h1 h2 =>
    ⟨m, by rw [List.append_nil]; exact h, rep_no w b ps h1 h2 _ _ _ _ _⟩
  cases r with
  | root t g => exact no (w := rootN) _ (by decide) (.inl (by decide))
  | grant t g a => exact no (w := grantN) _ (by decide) (.inl (by decide))
  | cut t n => exact no (w := cutN) _ (by decide) (.inl (by decide))
  | deed t a b c d e5 f g h => exact no (w := deedN) _ (by decide) (.inl (by decide))
  | oth w t ps =>
    obtain ⟨p1, p2⟩ := po
    by_cases hp : w = putN
    · subst hp
      obtain ⟨c, x, rfl⟩ := p2 rfl
      by_cases hc : c = b
      · subst hc
        rw [putOf_put] at hx ⊢
        exact rep_put h (hx x rfl) hl _ _ _
      · rw [putOf_other t x hc]
        exact no _ p1 (.inr ⟨c, x, rfl, hc⟩)
    · rw [putOf_no t ps hp]
      exact no _ p1 (.inl hp)
theorem putsOf_cons (r : Rw5) (l : List Rw5) (b : Pt) : putsOf (r :: l) b = (putOf b r).toList ++ putsOf l b := by
  unfold putsOf
  cases h : putOf b r with
  | none => rw [List.filterMap_cons_none h]; rfl
  | some x => rw [List.filterMap_cons_some h]; rfl
theorem rep_loop {M0 : Mem} {b : Pt} (x0 x7 : Option D) : ∀ (l : List Rw5) (E : List Pu) (m : Mem) (x4 x5 x6 : Option D), (∀ r ∈ l, RwOk r) → (∀ r ∈ l, PutOk r) → RepAt M0 m E → ((E ++ putsOf l b).map puT).Nodup → (E ++ putsOf l b).length ≤ 800 →
    ∃ m' y4 y5 y6, RepAt M0 m' (E ++ putsOf l b) ∧ forL (fun _ => True) (gS 3 2 (gsCons (gN 4) (gsCons (gN 5) (gsCons (gN 6) gsNil)))) L_replayed_1 (l.map rwD) [x0, some (ptD b), some (.ref M0.length), some (.ref (M0.length + 4)), x4, x5, x6, x7] m = .ok (.nx [x0, some (ptD b), some (.ref M0.length), some (.ref (M0.length + 4)), y4, y5, y6, x7]) m'
  | [], E, m, x4, x5, x6, _, _, h, _, _ => ⟨m, x4, x5, x6, by show RepAt M0 m (E ++ []); rw [List.append_nil]; exact h, forL_nil⟩
  | r :: l, E, m, x4, x5, x6, ok, po, h, nd, hl => by
    rw [putsOf_cons, ← List.append_assoc] at nd hl
    obtain ⟨m1, h1, e1⟩ := rep_turn (b := b) h (ok r (List.mem_cons_self ..)) (po r (List.mem_cons_self ..)) (fun x hx hm => by
      rw [hx, Option.toList_some, List.append_assoc, List.map_append] at nd
      have := (List.nodup_append.mp nd).2.2 _ hm (puT x) (by simp)
      exact this rfl) (by simp at hl; omega) x0 x7
    obtain ⟨m2, y4, y5, y6, h2, e2⟩ := rep_loop x0 x7 l _ m1 (some (.str r.w)) (some (.int r.t)) (some (.lst r.ps)) (fun q hq => ok q (List.mem_cons_of_mem _ hq)) (fun q hq => po q (List.mem_cons_of_mem _ hq)) h1 nd hl
    refine ⟨m2, y4, y5, y6, by rw [putsOf_cons, ← List.append_assoc]; exact h2, ?_⟩
    rw [List.map_cons, forL_cons, rep_tgt (ok r (List.mem_cons_self ..)), R.bind_ok, e1, R.bind_ok]
    exact e2
theorem rep_start (M : Mem) : RepAt M (M ++ [.ins 0 (tabF (M.length + 1) (M.length + 2) (M.length + 3)), .lst [], .dk false [], .dt false [], .dt false []]) [] := by
  refine ⟨⟨by simp, ?_, ?_, ?_, by omega, by omega, by omega, by omega, by omega, by omega⟩, ?_, by simp, fun j hj => by rw [List.getElem?_append_left hj]⟩
  · rw [List.getElem?_append_right (by omega), show M.length + 1 - M.length = 1 by omega]; rfl
  · rw [List.getElem?_append_right (by omega), show M.length + 2 - M.length = 2 by omega]; rfl
  · rw [List.getElem?_append_right (by omega), show M.length + 3 - M.length = 3 by omega]; rfl
  · rw [List.getElem?_append_right (by omega), show M.length + 4 - M.length = 4 by omega]; rfl
theorem replayed_eq {M : Mem} {l : List Rw5} {b : Pt} (ok : ∀ r ∈ l, RwOk r) (po : ∀ r ∈ l, PutOk r) (nd : ((putsOf l b).map puT).Nodup) (hl : (putsOf l b).length ≤ 800) :
    ∃ m, RepAt M m (putsOf l b) ∧ g_replayed [.tup (l.map rwD), ptD b] M = .ok (.tup [.ref M.length, .ref (M.length + 4)]) m := by
  obtain ⟨m, y4, y5, y6, h, e⟩ := rep_loop (b := b) (some (.tup (l.map rwD))) none l [] _ none none none ok po (rep_start M) (by rw [List.nil_append]; exact nd) (by rw [List.nil_append]; exact hl)
  rw [List.nil_append] at h
  refine ⟨m, h, runB_rt (N := 8) (?_ : B_replayed [some (.tup (l.map rwD)), some (ptD b), none, none, none, none, none, none] M = _)⟩
  have ie := init_eq M
  have e4 : (M ++ [Cell.ins 0 (tabF (M.length + 1) (M.length + 2) (M.length + 3)), .lst [], .dk false [], .dt false []]).length = M.length + 4 := by simp
  have ea : (M ++ [Cell.ins 0 (tabF (M.length + 1) (M.length + 2) (M.length + 3)), .lst [], .dk false [], .dt false []]) ++ [Cell.dt false []] = M ++ [.ins 0 (tabF (M.length + 1) (M.length + 2) (M.length + 3)), .lst [], .dk false [], .dt false [], .dt false []] := by simp
  obtain ⟨RD, hRD⟩ : ∃ X, l.map rwD = X := ⟨_, rfl⟩
  rw [hRD] at e ⊢
  obtain ⟨BD, hBD⟩ : ∃ X, ptD b = X := ⟨_, rfl⟩
  rw [hBD] at e ⊢
  unfold B_replayed
  push_cast [mMake_eq, ie, mDNewT_eq, e4, ea, mFor_eq, e]
def tblR (x : Pu × Nat) : D := .tup [.tup [.int (x.2 : Int), .int 0], .str x.1.h, .int x.1.n, ptD x.1.pl, strT x.1.rs, .int x.1.far]
theorem enF_zip : ∀ (o : Nat) (E : List Pu), (enF o (E.map puT)).map hD = (E.zipIdx o).map fun x => D.tup [.int (x.2 : Int), .int 0]
  | _, [] => rfl
  | o, x :: r => by
    rw [List.map_cons, enF, List.map_cons, enF_zip (o + 1) r, List.zipIdx_cons, List.map_cons]
    rfl
theorem tblR_pl (E : List Pu) : PlL 3 (E.zipIdx.map tblR) := fun d hd => by
  obtain ⟨x, _, rfl⟩ := List.mem_map.mp hd
  have pp : ∀ p : Pt, Pl 1 (ptD p) := fun p => Pl.tup (PlL.cons (Pl.str _) (PlL.cons (Pl.str _) PlL.nil))
  exact Pl.tup (PlL.cons (Pl.mono (Pl.tup (n := 0) (PlL.cons (Pl.int _) (PlL.cons (Pl.int _) PlL.nil))) (by omega)) (PlL.cons (Pl.str _) (PlL.cons (Pl.int _) (PlL.cons ((pp _).mono (by omega)) (PlL.cons ((Pl.tup (n := 1) (plL_str _)).mono (by omega)) (PlL.cons (Pl.int _) PlL.nil))))))
theorem table_eq {M : Mem} {l : List Rw5} {b : Pt} (ok : ∀ r ∈ l, RwOk r) (po : ∀ r ∈ l, PutOk r) (nd : ((putsOf l b).map puT).Nodup) (hl : (putsOf l b).length ≤ 800) :
    g_table [.tup (l.map rwD), ptD b] M = .ok (.lst ((putsOf l b).zipIdx.map tblR)) M := by
  obtain ⟨m, h, e⟩ := replayed_eq (M := M) ok po nd hl
  generalize hE : putsOf l b = E at *
  have he := hands_eq h.tab (by rw [List.length_map]; omega)
  rw [enF_zip] at he
  obtain ⟨J, hJ⟩ : ∃ J, m = M ++ J := by
    refine ⟨m.drop M.length, ?_⟩
    have : m.take M.length = M := by
      apply List.ext_getElem?
      intro j
      by_cases hj : j < M.length
      · rw [List.getElem?_take_of_lt hj, h.old j hj]
      · rw [List.getElem?_eq_none (by rw [List.length_take]; omega), List.getElem?_eq_none (by omega)]
    have t := List.take_append_drop M.length m
    rw [this] at t
    exact t.symm
  have cl : compL (fun _ => True) (gN 4) tsYes C_table_0 [some (.tup (l.map rwD)), some (ptD b), some (.ref M.length), some (.ref (M.length + 4)), none] ((E.zipIdx).map fun x => D.tup [.int (x.2 : Int), .int 0]) m = .ok (E.zipIdx.map tblR) m := by
    refine compL_m (P := fun _ => True) trivial (fun x : Pu × Nat => D.tup [.int (x.2 : Int), .int 0]) tblR _ fun x hx => ⟨[some (.tup (l.map rwD)), some (ptD b), some (.ref M.length), some (.ref (M.length + 4)), some (D.tup [.int (x.2 : Int), .int 0])], rfl, ?_⟩
    have hx2 : E[x.2]? = some x.1 := List.mem_zipIdx_iff_getElem?.mp hx
    have le := leads_eq h.tab x.2 0
    rw [tabN_leads (by rw [List.getElem?_map, hx2]; rfl)] at le
    have le : g_Table_leads [.ref M.length, .tup [.int (x.2 : Int), .int 0]] m = .ok (.tup [.str x.1.h, .int x.1.n]) m := le
    have gt := gA_thg nd (List.mem_of_getElem? hx2)
    have ix := oIxA_dt h.thg (keyT_th (puT x.1)) gt
    have ix : oIxA (.ref (M.length + 4)) (.tup [.str x.1.h, .int x.1.n]) m = .ok (vPu x.1) m := ix
    have hi := insOf_at h.tab.ins
    have a1 := fun m => oAddTT (c := false) [D.tup [.int (x.2 : Int), .int 0]] [.str x.1.h, .int x.1.n] m (by simp)
    have a2 := fun m => oAddTT (c := false) ([D.tup [.int (x.2 : Int), .int 0]] ++ [.str x.1.h, .int x.1.n]) [ptD x.1.pl, strT x.1.rs, .int x.1.far] m (by simp)
    have vp : vPu x.1 = .tup [ptD x.1.pl, strT x.1.rs, .int x.1.far] := rfl
    rw [vp] at ix
    push_cast [C_table_0, mMth_eq, hi, lk_leads, le, ix, a1, a2]
    rfl
  subst hJ
  obtain ⟨p, hp, _⟩ := Pl.lst (tblR_pl E)
  refine gc_val0 (junk := J) (runB_rt (N := 5) (?_ : B_table [some (.tup (l.map rwD)), some (ptD b), none, none, none] M = _)) hp
  have hi := insOf_at h.tab.ins
  have ll : ((E.zipIdx).map fun x => D.tup [.int (x.2 : Int), .int 0]).length < 16777216 := by simp; omega
  have wp : ∀ a b c d : Option D, wipeE [a, b, c, d, none] [4] = [a, b, c, d, none] := fun a b c d => rfl
  obtain ⟨RD, hRD⟩ : ∃ X, l.map rwD = X := ⟨_, rfl⟩
  rw [hRD] at e cl ⊢
  obtain ⟨BD, hBD⟩ : ∃ X, ptD b = X := ⟨_, rfl⟩
  rw [hBD] at e cl ⊢
  obtain ⟨HD, hHD⟩ : ∃ X, ((E.zipIdx).map fun x => D.tup [.int (x.2 : Int), .int 0]) = X := ⟨_, rfl⟩
  rw [hHD] at he cl ll
  obtain ⟨ED, hED⟩ : ∃ X, E.zipIdx.map tblR = X := ⟨_, rfl⟩
  rw [hED] at cl ⊢
  have ix0 : mkL false ED (M ++ J) = .ok (.lst ED) (M ++ J) := rfl
  unfold B_table
  push_cast [e, mMth_eq, hi, lk_handles, he, mLc_eq, if_pos ll, wp, cl, R.nox_ok]
structure Sv where
  nm : Nm
  how : Nm
  ws : D
structure Hu where
  nm : Nm
  ps : List Nm
  sv : List Sv
  th : List Nm
structure Rt where
  pl : Pt
  rs : List Nm
  far : Nat
  ho : Pt
  pa : Option Nat
def wsD (s : Sv) : D := s.ws
def sv3 (s : Sv) : D := .tup [.str s.nm, .str s.how, wsD s]
def huD (h : Hu) : D := .tup [.str h.nm, strT h.ps, .tup (h.sv.map sv3), strT h.th]
def rtD (r : Rt) : D := .tup [ptD r.pl, strT r.rs, .int r.far, ptD r.ho, parD r.pa]
def planD (H : List Hu) (Q : List Rt) : D := .tup [.tup (H.map huD), .tup (Q.map rtD)]
theorem pl0 (H : List Hu) (Q : List Rt) (M : Mem) : oIx (planD H Q) (.int 0) M = .ok (.tup (H.map huD)) M := rfl
theorem pl1 (H : List Hu) (Q : List Rt) (M : Mem) : oIx (planD H Q) (.int 1) M = .ok (.tup (Q.map rtD)) M := rfl
def servIn (h : Hu) (p : Pt) : Option Sv := h.sv.find? fun s => decide ((h.nm, s.nm) = p)
def servAt (H : List Hu) (p : Pt) : Option Sv := H.findSome? fun h => servIn h p
theorem sa_inner {M : Mem} (p : Pt) (h : Hu) (x0 x3 x4 x5 : Option D) : ∀ (l : List Sv) (x6 : Option D), ∃ y6,
    forL (fun _ => True) (gN 6) L_servant_at_0 (l.map sv3) [x0, some (ptD p), some (.str h.nm), x3, x4, x5, x6] M = .ok (match l.find? (fun s => decide ((h.nm, s.nm) = p)) with | some s => .rt (sv3 s) | none => .nx [x0, some (ptD p), some (.str h.nm), x3, x4, x5, y6]) M
  | [], x6 => ⟨x6, forL_nil⟩
  | s :: l, x6 => by
    obtain ⟨y6, e⟩ := sa_inner p h x0 x3 x4 x5 l (some (sv3 s))
    refine ⟨y6, ?_⟩
    rw [List.map_cons, forL_cons, gN_eq, R.bind_ok]
    have se : ([x0, some (ptD p), some (.str h.nm), x3, x4, x5, x6] : Fn.Env).set 6 (some (sv3 s)) = [x0, some (ptD p), some (.str h.nm), x3, x4, x5, some (sv3 s)] := rfl
    rw [se]
    have i0 : ∀ M, oIx (sv3 s) (.int 0) M = .ok (.str s.nm) M := fun _ => rfl
    have q := pt_eqD false (h.nm, s.nm) p M
    have q : oEq false (.tup [.str h.nm, .str s.nm]) (ptD p) M = _ := q
    cases hc : decide ((h.nm, s.nm) = p) with
    | true =>
      rw [hc] at q
      have b : L_servant_at_0 [x0, some (ptD p), some (.str h.nm), x3, x4, x5, some (sv3 s)] M = .ok (.rt (sv3 s)) M := by
        obtain ⟨SD, hSD⟩ : ∃ X, sv3 s = X := ⟨_, rfl⟩
        rw [hSD] at i0 ⊢
        push_cast [L_servant_at_0, i0, q, Bool.false_bne]
      rw [b, R.bind_ok]
      simp only [List.find?_cons, hc]
    | false =>
      rw [hc] at q
      have b : L_servant_at_0 [x0, some (ptD p), some (.str h.nm), x3, x4, x5, some (sv3 s)] M = .ok (.nx [x0, some (ptD p), some (.str h.nm), x3, x4, x5, some (sv3 s)]) M := by
        obtain ⟨SD, hSD⟩ : ∃ X, sv3 s = X := ⟨_, rfl⟩
        rw [hSD] at i0 ⊢
        push_cast [L_servant_at_0, i0, q, Bool.false_bne]
      rw [b, R.bind_ok]
      simp only [List.find?_cons, hc]
      exact e
theorem hu_tgt (g : FGs) (h : Hu) (env : Fn.Env) (M : Mem) : gT 4 g (huD h) env M = g [.str h.nm, strT h.ps, .tup (h.sv.map sv3), strT h.th] env M := rfl
theorem sa_outer {M : Mem} (p : Pt) (x0 : Option D) : ∀ (H : List Hu) (x2 x3 x4 x5 x6 : Option D), ∃ y2 y3 y4 y5 y6,
    forL (fun _ => True) (gT 4 (gsCons (gN 2) (gsCons (gN 3) (gsCons (gN 4) (gsCons (gN 5) gsNil))))) L_servant_at_1 (H.map huD) [x0, some (ptD p), x2, x3, x4, x5, x6] M = .ok (match servAt H p with | some s => .rt (sv3 s) | none => .nx [x0, some (ptD p), y2, y3, y4, y5, y6]) M
  | [], x2, x3, x4, x5, x6 => ⟨x2, x3, x4, x5, x6, forL_nil⟩
  | h :: H, x2, x3, x4, x5, x6 => by
    obtain ⟨z6, ei⟩ := sa_inner (M := M) p h x0 (some (strT h.ps)) (some (.tup (h.sv.map sv3))) (some (strT h.th)) h.sv x6
    obtain ⟨y2, y3, y4, y5, y6, e⟩ := sa_outer p x0 H (some (.str h.nm)) (some (strT h.ps)) (some (.tup (h.sv.map sv3))) (some (strT h.th)) z6
    refine ⟨y2, y3, y4, y5, y6, ?_⟩
    rw [List.map_cons, forL_cons, hu_tgt]
    have tg : gsCons (gN 2) (gsCons (gN 3) (gsCons (gN 4) (gsCons (gN 5) gsNil))) [.str h.nm, strT h.ps, .tup (h.sv.map sv3), strT h.th] [x0, some (ptD p), x2, x3, x4, x5, x6] M = .ok [x0, some (ptD p), some (.str h.nm), some (strT h.ps), some (.tup (h.sv.map sv3)), some (strT h.th), x6] M := rfl
    rw [tg, R.bind_ok]
    have fe : servIn h p = h.sv.find? (fun s => decide ((h.nm, s.nm) = p)) := rfl
    rw [← fe] at ei
    have b : L_servant_at_1 [x0, some (ptD p), some (.str h.nm), some (strT h.ps), some (.tup (h.sv.map sv3)), some (strT h.th), x6] M = .ok (match servIn h p with | some s => .rt (sv3 s) | none => .nx [x0, some (ptD p), some (.str h.nm), some (strT h.ps), some (.tup (h.sv.map sv3)), some (strT h.th), z6]) M := by
      obtain ⟨SL, hSL⟩ : ∃ X, h.sv.map sv3 = X := ⟨_, rfl⟩
      rw [hSL] at ei ⊢
      unfold L_servant_at_1
      push_cast [mFor_eq, ei]
    rw [b, R.bind_ok]
    unfold servAt
    cases hs : servIn h p with
    | none =>
      rw [List.findSome?_cons_of_isNone (by rw [hs]; rfl)]
      exact e
    | some s => rw [List.findSome?_cons_of_isSome (by rw [hs]; rfl), hs]
theorem servant_at_eq (H : List Hu) (Q : List Rt) (p : Pt) (M : Mem) : g_servant_at [planD H Q, ptD p] M = .ok (match servAt H p with | some s => sv3 s | none => .non) M := by
  obtain ⟨y2, y3, y4, y5, y6, e⟩ := sa_outer (M := M) p (some (planD H Q)) H none none none none none
  refine runB_rt (N := 7) (?_ : B_servant_at [some (planD H Q), some (ptD p), none, none, none, none, none] M = _)
  have p0 := pl0 H Q
  obtain ⟨PD, hPD⟩ : ∃ X, planD H Q = X := ⟨_, rfl⟩
  rw [hPD] at e p0 ⊢
  obtain ⟨HD, hHD⟩ : ∃ X, H.map huD = X := ⟨_, rfl⟩
  rw [hHD] at e p0
  unfold B_servant_at
  cases hs : servAt H p with
  | none =>
    rw [hs] at e
    push_cast [p0, mFor_eq, e]
  | some s =>
    rw [hs] at e
    push_cast [p0, mFor_eq, e]
def numO (h : Nm) (L : List Rt) : Nat := (L.filter fun g => decide (g.pl.1 = h)).length
def nmA (Q : List Rt) (i : Nat) : Nat := match Q[i]? with
  | some g => numO g.pl.1 (Q.take i)
  | none => 0
def numsK (Q : List Rt) (k : Nat) : List Nat := (List.range k).map (nmA Q)
theorem numsK_succ (Q : List Rt) (k : Nat) : numsK Q (k + 1) = numsK Q k ++ [nmA Q k] := by
  unfold numsK; rw [List.range_succ, List.map_append]; rfl
theorem numsK_len (Q : List Rt) (k : Nat) : (numsK Q k).length = k := by unfold numsK; simp
theorem numsK_get (Q : List Rt) {k i : Nat} (h : i < k) : (numsK Q k)[i]? = some (nmA Q i) := by
  unfold numsK; rw [List.getElem?_map, List.getElem?_range h]; rfl
theorem take_more {α : Type} {l : List α} {k : Nat} {x : α} (h : l[k]? = some x) : l.take (k + 1) = l.take k ++ [x] := by
  rw [List.take_succ, h]; rfl
theorem numO_more {h : Nm} {Q : List Rt} {k : Nat} {g : Rt} (hg : Q[k]? = some g) : numO h (Q.take (k + 1)) = numO h (Q.take k) + if g.pl.1 = h then 1 else 0 := by
  unfold numO
  rw [take_more hg, List.filter_append, List.length_append]
  congr 1
  by_cases q : g.pl.1 = h
  · rw [if_pos q, List.filter_cons_of_pos (by simpa using q)]; rfl
  · rw [if_neg q, List.filter_cons_of_neg (by simpa using q)]; rfl
theorem nmA_of {Q : List Rt} {k : Nat} {g : Rt} (h : Q[k]? = some g) : nmA Q k = numO g.pl.1 (Q.take k) := by unfold nmA; rw [h]
theorem oGetM_s2 {M : Mem} {i : Nat} {lk : Bool} {kvs : List (KK × D)} {x : List Nat} {z : D} (h : M[i]? = some (.dk lk kvs)) : oGetM (.ref i) [.str x, z] M = .ok ((gA kvs (.inr x)).getD z) M := by
  simp only [oGetM, dFind_dk h, keyK, Option.map_some]
  cases gA kvs (.inr x) <;> rfl
theorem ptA0 (x : Pt) (M : Mem) : oIxA (ptD x) (.int 0) M = .ok (.str x.1) M := rfl
theorem pt0 (x : Pt) (M : Mem) : oIx (ptD x) (.int 0) M = .ok (.str x.1) M := rfl
theorem natsD_len (l : List Nat) : (natsD l).length = l.length := by unfold natsD; rw [List.length_map]
theorem numbers_eq {Q : List Rt} (hl : Q.length < 1000) (H : List Hu) (M : Mem) : g_root_numbers [planD H Q] M = .ok (.lst (natsD (numsK Q Q.length))) M := by
  obtain ⟨env', m', e, kvs, y3, y4, y5, y6, y7, y8, rfl, rfl, hk, hkl⟩ := forL_inv (g := gT 5 (gsCons (gN 3) (gsCons (gN 4) (gsCons (gN 5) (gsCons (gN 6) (gsCons (gN 7) gsNil)))))) (body := L_root_numbers_0) (fun k env m => ∃ (kvs : List (KK × D)) (y3 y4 y5 y6 y7 y8 : Option D), env = [some (planD H Q), some (.ref M.length), some (.ref (M.length + 1)), y3, y4, y5, y6, y7, y8] ∧ m = M ++ [.lst (natsD (numsK Q k)), .dk false kvs] ∧ (∀ h, (gA kvs (.inr h)).getD (.int 0) = .int (numO h (Q.take k) : Int)) ∧ kvs.length ≤ k) (Q.map rtD) 0 [some (planD H Q), some (.ref M.length), some (.ref (M.length + 1)), none, none, none, none, none, none] (M ++ [.lst [], .dk false []])
    ⟨[], _, _, _, _, _, _, rfl, rfl, fun h => rfl, Nat.le_refl _⟩ (by
      rintro k d env m hk ⟨kvs, y3, y4, y5, y6, y7, y8, rfl, rfl, hv, hkl⟩
      rw [List.getElem?_map] at hk
      obtain ⟨g, hg, rfl⟩ := Option.map_eq_some_iff.mp hk
      have hkq : k < Q.length := (List.getElem?_eq_some_iff.mp hg).1
      rw [Nat.zero_add] at hv hkl ⊢
      have gL : ∀ C B, (M ++ [Cell.lst C, B])[M.length]? = some (.lst C) := fun C B => app_get0 rfl
      have gD2 : ∀ C k2, (M ++ [C, Cell.dk false k2])[M.length + 1]? = some (.dk false k2) := fun C k2 => app_get1 rfl
      have sL : ∀ C B E, (M ++ [Cell.lst C, B]).set M.length (.lst E) = M ++ [.lst E, B] := fun C B E => app_set0 rfl
      have sD : ∀ C k2 k3, (M ++ [C, Cell.dk false k2]).set (M.length + 1) (.dk false k3) = M ++ [C, .dk false k3] := fun C k2 k3 => app_set1 rfl
      have gm : ∀ C, oGetM (.ref (M.length + 1)) [.str g.pl.1, .int 0] (M ++ [C, .dk false kvs]) = .ok (.int (numO g.pl.1 (Q.take k) : Int)) (M ++ [C, .dk false kvs]) := fun C => by rw [oGetM_s2 (gD2 _ _), hv]
      have il : (natsD (numsK Q k)).length < 16777216 := by rw [natsD_len, numsK_len]; omega
      have ap : natsD (numsK Q k) ++ [.int (numO g.pl.1 (Q.take k) : Int)] = natsD (numsK Q (k + 1)) := by
        rw [numsK_succ, nmA_of hg]; unfold natsD; rw [List.map_append]; rfl
      have sp : ∀ C, sPut (M ++ [C, Cell.dk false kvs]) (.ref (M.length + 1)) (.str g.pl.1) (.int ((numO g.pl.1 (Q.take k) : Int) + 1)) = some (M ++ [C, .dk false (pA kvs (.inr g.pl.1) (.int ((numO g.pl.1 (Q.take k) : Int) + 1)))]) := fun C => by
        rw [sPut_dkS (gD2 _ _) (by omega), sD]
      refine ⟨[some (planD H Q), some (.ref M.length), some (.ref (M.length + 1)), some (ptD g.pl), some (strT g.rs), some (.int g.far), some (ptD g.ho), some (parD g.pa), some (.str g.pl.1)], M ++ [.lst (natsD (numsK Q (k + 1))), .dk false (pA kvs (.inr g.pl.1) (.int ((numO g.pl.1 (Q.take k) : Int) + 1)))], ?_, pA kvs (.inr g.pl.1) (.int ((numO g.pl.1 (Q.take k) : Int) + 1)), _, _, _, _, _, _, rfl, rfl, fun h => ?_, Nat.le_trans (pA_len _ _ _) (by omega)⟩
      · obtain ⟨PD, hPD⟩ : ∃ PD, planD H Q = PD := ⟨_, rfl⟩
        rw [hPD]
        have tyd : ∀ C k2, tyOk "dict" (M ++ [C, Cell.dk false k2]) (.ref (M.length + 1)) = true := fun C k2 => tyOk_dk (gD2 _ _)
        have tyl : ∀ C B, tyOk "list" (M ++ [Cell.lst C, B]) (.ref M.length) = true := fun C B => by simp only [tyOk, gL]; rfl
        have ea : ∀ B, oAppend (.ref M.length) [.int (numO g.pl.1 (Q.take k) : Int)] (M ++ [Cell.lst (natsD (numsK Q k)), B]) = .ok .non (M ++ [.lst (natsD (numsK Q (k + 1))), B]) := fun B => by rw [oAppend_at (gL _ _) il, sL, ap]
        show ((gT 5 (gsCons (gN 3) (gsCons (gN 4) (gsCons (gN 5) (gsCons (gN 6) (gsCons (gN 7) gsNil)))))) (.tup [ptD g.pl, strT g.rs, .int g.far, ptD g.ho, parD g.pa]) _ _).bind _ = _
        push_cast [L_root_numbers_0, ptA0, tyl, tyd, gm, ea, gIxA_eq, sp]
      · rw [gA_put, numO_more hg]
        by_cases q : g.pl.1 = h
        · subst q
          rw [if_pos rfl, if_pos rfl]
          show D.int _ = D.int _
          congr 1
        · rw [if_neg (fun z => q (by injection z with z; exact z.symm)), if_neg q, Nat.add_zero]; exact hv h)
  rw [List.length_map, Nat.zero_add] at e
  have hB : B_root_numbers [some (planD H Q), none, none, none, none, none, none, none, none] M = .ok (.rt (.ref M.length)) (M ++ [.lst (natsD (numsK Q Q.length)), .dk false kvs]) := by
    have p1 : ∀ M, oIxA (planD H Q) (.int 1) M = .ok (.tup (Q.map rtD)) M := fun M => rfl
    obtain ⟨PD, hPD⟩ : ∃ PD, planD H Q = PD := ⟨_, rfl⟩
    rw [hPD] at e p1 ⊢
    obtain ⟨QD, hQD⟩ : ∃ QD, Q.map rtD = QD := ⟨_, rfl⟩
    rw [hQD] at e p1
    have ml : (M ++ [Cell.lst []]).length = M.length + 1 := by simp
    have ma : (M ++ [Cell.lst []]) ++ [Cell.dk false []] = M ++ [.lst [], .dk false []] := by simp
    simp -implicitDefEqProofs (disch := first | assumption | omega | (simp only [List.length_cons, List.length_nil, List.length_append, List.length_map, List.length_take, List.length_drop, rngItems_len]; omega)) only [mSeq_eq, mIfS_eq, mSet_eq, mRet_eq, mRetN_eq, mExpr_eq, mPass_eq, mAsg_eq, mPar_eq, mAug_eq, bOf_eq, tOf_eq, tAndM_eq, tOrM_eq, tNotM_eq, tsYes_eq, mOp_eq, mUn_eq, mVar_eq, mC_eq, mCall_eq, mFun_eq, mFunKw_eq, mMeth_eq, mAnd_eq, mOr_eq, mNot_eq, mIf_eq, mChain_eq, mSl_eq, pNone_eq, pSome_eq, aCons_eq, aNil_eq, mTup_eq, mLst_eq, gN_eq, gT_eq, gsNil_eq, gsCons_eq, mkL_t, mkL_f, R.bind_ok, R.bind_no, R.nox_ok, List.getElem?_cons_zero, List.getElem?_cons_succ, List.set_cons_zero, List.set_cons_succ, List.length_cons, List.length_nil, List.append_nil, List.nil_append, List.cons_append, piApp_on, oLen_fz, oLen_lst, oLen_tup, oLt_int, oLe_int, oGt_int, oGe_int, oAdd_int, oSub_int, oIx_fz, oIx_lst, oIx_tup, oMax_int, oMin_int, oInt_bl, oInt_int, oIsi_bl, oNeg_int, oTuple_lst, oTuple_tup, iR1_eq, iR2_eq, iSq_eq, iStrM_eq, srcOf_tup, srcOf_lst, srcOf_fz, if_true, if_false, Bool.false_eq_true, Bool.true_eq_false, reduceIte, Nat.reduceAdd, Nat.reduceLeDiff, Nat.reduceEqDiff, Bool.not_true, Bool.not_false, decide_true, decide_false, and_self, and_true, true_and, oMod_int, oMul_r, oMul_l, oLen_str, oAdd_str, oSl_str, oSl_tup, oSl_lst, oSl_fz, rngOk_of, oEq_int, oEq_bl, beq_self_eq_true, Int.toNat_natCast, mFor_eq, mLc_eq, app_get0, app_get1, app_set0, app_set1, tyOk, oTuple_ref, oList_ref, oLen_refM, oIx_refM, oAppM, oExtM, srcOf_refM, ifLt24, ifLe24, B_root_numbers, mDNewK_eq, ml, ma, p1, e]
  obtain ⟨ps, hps, _⟩ := (natsD_pl (numsK Q Q.length)).py
  exact gc_ref0 (junk := [.dk false kvs]) (runB_rt (N := 9) hB) hps
theorem exL_natsD (l : List Nat) : exL (natsD l) = true := by
  have := exL_ints (l.map fun n : Nat => (n : Int))
  rw [List.map_map] at this
  exact this
theorem dpL_natsD (l : List Nat) : dpL (natsD l) = 0 := by
  have : dpL (natsD l) ≤ 0 := dpL_le fun d hd => by obtain ⟨n, _, rfl⟩ := List.mem_map.mp hd; exact Nat.le_refl _
  omega
theorem ex_oPt (p : Option Pt) : exD (oPt p) = true ∧ dpD (oPt p) ≤ 1 := by cases p <;> exact ⟨rfl, by simp [oPt, ptD, dpD, dpL]⟩
theorem ex_oAsk (p : Option Ak) : exD (oAsk p) = true ∧ dpD (oAsk p) ≤ 1 := by cases p <;> exact ⟨rfl, by simp [oAsk, askD, dpD, dpL]⟩
theorem ex_par (p : Option Nat) : exD (parD p) = true ∧ dpD (parD p) = 0 := by cases p <;> exact ⟨rfl, rfl⟩
theorem ex_rw {r : Rw5} (ok : RwOk r) : exD (rwD r) = true ∧ dpD (rwD r) ≤ 8 := by
  cases r with
  | root t g =>
    have h1 := ex_par g.par
    refine ⟨by simp [rwD, gL, exD, exL, ptD, strT, exL_strs, h1.1], ?_⟩
    simp only [rwD, gL, dpD, dpL, ptD, strT, dpL_strs, h1.2]; omega
  | grant t g a =>
    have h1 := ex_par g.par
    refine ⟨by simp [rwD, gL, exD, exL, ptD, strT, exL_strs, h1.1, askD], ?_⟩
    simp only [rwD, gL, List.cons_append, List.nil_append, dpD, dpL, ptD, strT, dpL_strs, h1.2, askD]; omega
  | cut t n => exact ⟨rfl, by simp only [rwD, dpD, dpL]; omega⟩
  | deed t a b c d e5 f g h =>
    have h1 := ex_oPt g
    have h2 := ex_oAsk h
    refine ⟨by simp [rwD, exD, exL, ptD, exL_natsD, h1.1, h2.1], ?_⟩
    simp only [rwD, dpD, dpL, ptD, dpL_natsD]; omega
  | oth w t ps =>
    obtain ⟨_, _, _, _, h5, h6, _⟩ := ok
    refine ⟨by simp [rwD, exD, exL, h5], ?_⟩
    simp only [rwD, dpD, dpL]; omega
structure KAt (ev : Nat) (M : Mem) (k st w lt : Nat) (plan : D) (house : Nm) (l : List Rw5) (firm : Nat) (L : List D) : Prop where
  ker : ∃ kp op : D, M[k]? = some (.ins 3 (knF plan (.str house) (.int 6) (.int (ev : Int)) (.ref st) (.ref lt) kp op))
  sto : M[st]? = some (.ins 2 (snF (.ref w) (.int (firm : Int))))
  wri : M[w]? = some (.lst (l.map rwD))
  let_ : M[lt]? = some (.lst L)
  ne : w ≠ lt
section
variable {ev : Nat} {M : Mem} {k st w lt : Nat} {plan : D} {house : Nm} {l : List Rw5} {firm : Nat} {L : List D}
theorem KAt.lts (h : KAt ev M k st w lt plan house l firm L) : k < M.length ∧ st < M.length ∧ w < M.length ∧ lt < M.length := by
  obtain ⟨kp, op, h1⟩ := h.ker
  exact ⟨lt_of_get h1, lt_of_get h.sto, lt_of_get h.wri, lt_of_get h.let_⟩
theorem KAt.nes (h : KAt ev M k st w lt plan house l firm L) : k ≠ st ∧ k ≠ w ∧ k ≠ lt ∧ st ≠ w ∧ st ≠ lt := by
  obtain ⟨kp, op, h1⟩ := h.ker
  refine ⟨fun e => ?_, fun e => ?_, fun e => ?_, fun e => ?_, fun e => ?_⟩
  · rw [e, h.sto] at h1; cases h1
  · rw [e, h.wri] at h1; cases h1
  · rw [e, h.let_] at h1; cases h1
  · have := h.sto; rw [e, h.wri] at this; cases this
  · have := h.sto; rw [e, h.let_] at this; cases this
theorem KAt.write (h : KAt ev M k st w lt plan house l firm L) (r : Rw5) : KAt ev (M.set w (.lst (l.map rwD ++ [rwD r]))) k st w lt plan house (l ++ [r]) firm L := by
  obtain ⟨n1, n2, n3, n4, n5⟩ := h.nes
  obtain ⟨kp, op, h1⟩ := h.ker
  refine ⟨⟨kp, op, ?_⟩, ?_, ?_, ?_, h.ne⟩
  · rw [List.getElem?_set_ne (Ne.symm n2)]; exact h1
  · rw [List.getElem?_set_ne (Ne.symm n4)]; exact h.sto
  · rw [List.getElem?_set_self h.lts.2.2.1, List.map_append]; rfl
  · rw [List.getElem?_set_ne h.ne]; exact h.let_
theorem KAt.same {M' : Mem} (h : KAt ev M k st w lt plan house l firm L) (h1 : M'[k]? = M[k]?) (h2 : M'[st]? = M[st]?) (h3 : M'[w]? = M[w]?) (h4 : M'[lt]? = M[lt]?) : KAt ev M' k st w lt plan house l firm L := by
  obtain ⟨kp, op, q⟩ := h.ker
  exact ⟨⟨kp, op, by rw [h1]; exact q⟩, by rw [h2]; exact h.sto, by rw [h3]; exact h.wri, by rw [h4]; exact h.let_, h.ne⟩
theorem KAt.app (h : KAt ev M k st w lt plan house l firm L) (B : Mem) : KAt ev (M ++ B) k st w lt plan house l firm L := by
  obtain ⟨l1, l2, l3, l4⟩ := h.lts
  exact h.same (List.getElem?_append_left l1) (List.getElem?_append_left l2) (List.getElem?_append_left l3) (List.getElem?_append_left l4)
theorem stone_rows_eq (h : KAt ev M k st w lt plan house l firm L) : g_Stone_rows [.ref st] M = .ok (.tup (l.map rwD)) M := by
  refine runB_rt (N := 1) (?_ : B_Stone_rows [some (.ref st)] M = _)
  have ot : oTuple [.ref w] M = .ok (.tup (l.map rwD)) M := by rw [oTuple_ref, h.wri]
  push_cast [B_Stone_rows, mFld_eq, insOf_at h.sto, lk_sn_written, ot]
theorem stone_write_eq (h : KAt ev M k st w lt plan house l firm L) (hl : l.length ≤ 5000) (r : Rw5) : g_Stone_write [.ref st, rwD r] M = .ok .non (M.set w (.lst (l.map rwD ++ [rwD r]))) := by
  refine runB_nx (N := 2) (env := [some (.ref st), some (rwD r)]) ?_
  show B_Stone_write [some (.ref st), some (rwD r)] M = _
  push_cast [B_Stone_write, mFld_eq, insOf_at h.sto, lk_sn_written, tyOk_at h.wri, oAppend_at h.wri (show (l.map rwD).length < 16777216 by rw [List.length_map]; omega)]
theorem rows_eq (h : KAt ev M k st w lt plan house l firm L) : g_Kernel_rows [.ref k] M = .ok (.tup (l.map rwD)) M := by
  obtain ⟨kp, op, h1⟩ := h.ker
  have sr := stone_rows_eq h
  refine runB_rt (N := 1) (?_ : B_Kernel_rows [some (.ref k)] M = _)
  push_cast [B_Kernel_rows, mMth_eq, mFld_eq, insOf_at h1, lk_kn_stone, insOf_at h.sto, lk_sn_rows, sr]
end
open Classical in
theorem any_ex : ∀ {l : List D} {ps : List PyData} {a : D} {p : PyData}, exL l = true → exD a = true → pyL l = some ps → pyD a = some p → (ps.any fun z => PyData.eqv z p) = decide (a ∈ l)
  | [], ps, a, p, _, _, h, _ => by cases h; simp
  | d :: r, ps, a, p, hl, ha, h, hp => by
    simp only [exL, Bool.and_eq_true] at hl
    simp only [pyL] at h
    split at h
    · rename_i x xs k1 k2
      cases h
      have h1 := eqv_ex d a x p hl.1 ha k1 hp
      have h2 := any_ex (a := a) (p := p) hl.2 ha k2 hp
      rw [List.any_cons, h2, Bool.eq_iff_iff]
      simp only [Bool.or_eq_true, decide_eq_true_eq, h1, List.mem_cons]
      constructor
      · rintro (h | h)
        · exact .inl h.symm
        · exact .inr h
      · rintro (h | h)
        · exact .inl h.symm
        · exact .inr h
    · cases h
open Classical in
theorem oInD_tup {neg : Bool} {a : D} {l : List D} {M : Mem} (hl : exL l = true) (ha : exD a = true) (hd : dpD a ≤ 60) : oInD neg a (.tup l) M = .ok (.bl (neg != decide (a ∈ l))) M := by
  obtain ⟨p, p1, p2⟩ := ex_py a ha
  obtain ⟨ps, q1, q2⟩ := ex_pyL l hl
  have k1 : pyM M a = some p := pyGo_of p1
  have k2 : pyM M (.tup l) = some (.tuple ps) := by
    show pyGo (kN M 4) (.tup l) = _
    simp only [pyGo, pyGoL_of q1, Option.map_some]
  simp only [oInD, k1, k2]
  rw [if_pos (by omega), any_ex hl ha q1 p1]
  cases neg <;> simp
theorem rows_pl {l : List Rw5} (ok : ∀ r ∈ l, RwOk r) : PlL 8 (l.map rwD) := fun d hd => by
  obtain ⟨r, hr, rfl⟩ := List.mem_map.mp hd
  obtain ⟨p, h1, h2⟩ := ex_pl (ex_rw (ok r hr)).1
  exact ⟨p, h1, Nat.le_trans h2 (ex_rw (ok r hr)).2⟩
def RowH : Rw5 → Prop
  | .deed _ _ _ _ _ _ _ _ a => a ≠ none
  | .oth w _ ps => (w = putN ∧ ∃ ho x, ps = puL ho x) ∨ (w = noN ∧ ∃ (a : Ak) (x : Nm), ps = [askD a, .str x])
  | _ => True
theorem ex_puL (ho : Pt) (x : Pu) : exL (puL ho x) = true ∧ dpL (puL ho x) ≤ 2 := by
  have h2 := ex_oAsk x.a
  refine ⟨by simp [puL, exL, exD, ptD, strT, exL_strs, h2.1], ?_⟩
  simp only [puL, dpD, dpL, ptD, strT, dpL_strs]; omega
theorem rowh_ok {r : Rw5} (h : RowH r) : RwOk r := by
  cases r with
  | root => trivial
  | grant => trivial
  | cut => trivial
  | deed => trivial
  | oth w t ps =>
    rcases h with ⟨rfl, ho, x, rfl⟩ | ⟨rfl, a, x, rfl⟩
    · have := ex_puL ho x
      exact ⟨by decide, by decide, by decide, by decide, this.1, by omega, by simp [puL]⟩
    · exact ⟨by decide, by decide, by decide, by decide, rfl, by simp [dpL, dpD, askD], by simp⟩
theorem rowh_po {r : Rw5} (h : RowH r) : PutOk r := by
  cases r with
  | root => trivial
  | grant => trivial
  | cut => trivial
  | deed => trivial
  | oth w t ps =>
    rcases h with ⟨rfl, ho, x, rfl⟩ | ⟨rfl, a, x, rfl⟩
    · exact ⟨by decide, fun _ => ⟨ho, x, rfl⟩⟩
    · exact ⟨by decide, fun z => absurd z (by decide)⟩
def rootW (Q : List Rt) (x : Rt × Nat) : Rw5 := .root 0 ⟨nmA Q x.2, x.1.pl, x.1.rs, x.1.far, x.1.ho, x.1.pa.map (nmA Q)⟩
def putW (Q : List Rt) (x : Rt × Nat) : Rw5 := .oth putN 0 (puL x.1.ho ⟨x.1.pl.1, nmA Q x.2, x.1.pl, x.1.rs, x.1.far, none⟩)
def rtsO (Q : List Rt) (hn : Nm) (k : Nat) : List (Rt × Nat) := (Q.take k).zipIdx.filter fun x => decide (x.1.pl.1 = hn)
def ptsO (Q : List Rt) (hn : Nm) (k : Nat) : List (Rt × Nat) := (Q.take k).zipIdx.filter fun x => decide (x.1.ho.1 = hn)
def bgW (Q : List Rt) (hn : Nm) : List Rw5 := (rtsO Q hn Q.length).map (rootW Q) ++ (ptsO Q hn Q.length).map (putW Q)
def PaOk (Q : List Rt) : Prop := ∀ (k : Nat) (g : Rt), Q[k]? = some g → ∀ p, g.pa = some p → p < k
theorem zip_more {Q : List Rt} {k : Nat} {g : Rt} (h : Q[k]? = some g) : (Q.take (k + 1)).zipIdx = (Q.take k).zipIdx ++ [(g, k)] := by
  have hk := (List.getElem?_eq_some_iff.mp h).1
  rw [take_more h, List.zipIdx_append, List.length_take, Nat.min_eq_left (by omega)]
  simp
theorem rtsO_more {Q : List Rt} {hn : Nm} {k : Nat} {g : Rt} (h : Q[k]? = some g) : rtsO Q hn (k + 1) = rtsO Q hn k ++ if g.pl.1 = hn then [(g, k)] else [] := by
  unfold rtsO
  rw [zip_more h, List.filter_append]
  congr 1
  by_cases q : g.pl.1 = hn
  · rw [if_pos q, List.filter_cons_of_pos (by simpa using q)]; rfl
  · rw [if_neg q, List.filter_cons_of_neg (by simpa using q)]; rfl
theorem ptsO_more {Q : List Rt} {hn : Nm} {k : Nat} {g : Rt} (h : Q[k]? = some g) : ptsO Q hn (k + 1) = ptsO Q hn k ++ if g.ho.1 = hn then [(g, k)] else [] := by
  unfold ptsO
  rw [zip_more h, List.filter_append]
  congr 1
  by_cases q : g.ho.1 = hn
  · rw [if_pos q, List.filter_cons_of_pos (by simpa using q)]; rfl
  · rw [if_neg q, List.filter_cons_of_neg (by simpa using q)]; rfl
theorem rtsO_len {Q : List Rt} {hn : Nm} {k : Nat} : (rtsO Q hn k).length ≤ Q.length := by
  unfold rtsO
  refine Nat.le_trans (List.length_filter_le _ _) ?_
  rw [List.length_zipIdx, List.length_take]; omega
theorem ptsO_len {Q : List Rt} {hn : Nm} {k : Nat} : (ptsO Q hn k).length ≤ Q.length := by
  unfold ptsO
  refine Nat.le_trans (List.length_filter_le _ _) ?_
  rw [List.length_zipIdx, List.length_take]; omega
theorem num_ix {Q : List Rt} {p n : Nat} (h : p < n) (M : Mem) : oIx (.lst (natsD (numsK Q n))) (.int (p : Int)) M = .ok (.int (nmA Q p : Int)) M := by
  rw [oIx_lst, atI_nat (v := D.int (nmA Q p : Int)) (by unfold natsD; rw [List.getElem?_map, numsK_get Q h]; rfl)]
theorem bg_rowh {Q : List Rt} {hn : Nm} : ∀ r ∈ bgW Q hn, RowH r := fun r hr => by
  rcases List.mem_append.mp hr with h | h
  · obtain ⟨x, _, rfl⟩ := List.mem_map.mp h; trivial
  · obtain ⟨x, _, rfl⟩ := List.mem_map.mp h; exact .inl ⟨rfl, _, _, rfl⟩
theorem add_refs {M : Mem} {i j : Nat} {a b : List D} (hi : M[i]? = some (.lst a)) (hj : M[j]? = some (.lst b)) (hl : a.length + b.length ≤ 16777216) : oAdd false (.ref i) (.ref j) M = .ok (.lst (a ++ b)) M := by
  have e : oAdd false (.ref i) (.ref j) M = oAddL false (.ref i) (.ref j) M := rfl
  rw [e]
  simp only [oAddL, Fn.ownOf, hi, hj]
  rw [if_pos hl]; rfl
theorem fr_turn {Q : List Rt} (hl : Q.length ≤ 1000) {hn : Nm} {k : Nat} {g : Rt} (hg : Q[k]? = some g) (kg : PaOk Q) (M : Mem) (x0 x11 : Option D) :
    L_first_rows_0 [x0, some (.str hn), some (.lst (natsD (numsK Q Q.length))), some (.ref M.length), some (.ref (M.length + 1)), some (.int (k : Int)), some (ptD g.pl), some (strT g.rs), some (.int g.far), some (ptD g.ho), some (parD g.pa), x11] (M ++ [.lst ((rtsO Q hn k).map fun x => rwD (rootW Q x)), .lst ((ptsO Q hn k).map fun x => rwD (putW Q x))]) =
      .ok (.nx [x0, some (.str hn), some (.lst (natsD (numsK Q Q.length))), some (.ref M.length), some (.ref (M.length + 1)), some (.int (k : Int)), some (ptD g.pl), some (strT g.rs), some (.int g.far), some (ptD g.ho), some (parD g.pa), some (parD (g.pa.map (nmA Q)))]) (M ++ [.lst ((rtsO Q hn (k + 1)).map fun x => rwD (rootW Q x)), .lst ((ptsO Q hn (k + 1)).map fun x => rwD (putW Q x))]) := by
  have hk := (List.getElem?_eq_some_iff.mp hg).1
  have g0 : ∀ C B, (M ++ [Cell.lst C, B])[M.length]? = some (.lst C) := fun C B => app_get0 rfl
  have g1 : ∀ C B, (M ++ [B, Cell.lst C])[M.length + 1]? = some (.lst C) := fun C B => app_get1 rfl
  have s0 : ∀ C B E, (M ++ [Cell.lst C, B]).set M.length (.lst E) = M ++ [.lst E, B] := fun C B E => app_set0 rfl
  have s1 : ∀ C B E, (M ++ [B, Cell.lst C]).set (M.length + 1) (.lst E) = M ++ [B, .lst E] := fun C B E => app_set1 rfl
  obtain ⟨A, hA⟩ : ∃ A, ((rtsO Q hn k).map fun x => rwD (rootW Q x)) = A := ⟨_, rfl⟩
  obtain ⟨B, hB⟩ : ∃ B, ((ptsO Q hn k).map fun x => rwD (putW Q x)) = B := ⟨_, rfl⟩
  have la : A.length ≤ 1000 := by rw [← hA, List.length_map]; have := rtsO_len (Q := Q) (hn := hn) (k := k); omega
  have lb : B.length ≤ 1000 := by rw [← hB, List.length_map]; have := ptsO_len (Q := Q) (hn := hn) (k := k); omega
  have nk := fun M => num_ix (Q := Q) hk M
  have hA2 : ((rtsO Q hn (k + 1)).map fun x => rwD (rootW Q x)) = A ++ if g.pl.1 = hn then [rwD (rootW Q (g, k))] else [] := by
    rw [rtsO_more hg, List.map_append, hA]; split <;> rfl
  have hB2 : ((ptsO Q hn (k + 1)).map fun x => rwD (putW Q x)) = B ++ if g.ho.1 = hn then [rwD (putW Q (g, k))] else [] := by
    rw [ptsO_more hg, List.map_append, hB]; split <;> rfl
  rw [hA, hB, hA2, hB2]
  have hab : (mIf (bOf (mUn (oIsN false) (mVar 10))) (mC .non) (mOp oIx (mVar 2) (mVar 10))) [x0, some (.str hn), some (.lst (natsD (numsK Q Q.length))), some (.ref M.length), some (.ref (M.length + 1)), some (.int (k : Int)), some (ptD g.pl), some (strT g.rs), some (.int g.far), some (ptD g.ho), some (parD g.pa), x11] (M ++ [.lst A, .lst B]) = .ok (parD (g.pa.map (nmA Q))) (M ++ [.lst A, .lst B]) := by
    cases hp : g.pa with
    | none =>
      have n1 : ∀ M, oIsN false (parD none) M = .ok (.bl true) M := fun M => rfl
      push_cast [n1]
      rfl
    | some p =>
      have p1 := kg k g hg p hp
      have n1 : ∀ M, oIsN false (parD (some p)) M = .ok (.bl false) M := fun M => rfl
      have np : ∀ M, oIx (.lst (natsD (numsK Q Q.length))) (parD (some p)) M = .ok (.int (nmA Q p : Int)) M := fun M => num_ix (Q := Q) (Nat.lt_trans p1 hk) M
      push_cast [n1, np]
      rfl
  obtain ⟨ZI, hZI⟩ : ∃ Z : FE, mIf (bOf (mUn (oIsN false) (mVar 10))) (mC .non) (mOp oIx (mVar 2) (mVar 10)) = Z := ⟨_, rfl⟩
  rw [hZI] at hab
  obtain ⟨ND, hND⟩ : ∃ N, D.lst (natsD (numsK Q Q.length)) = N := ⟨_, rfl⟩
  rw [hND] at hab nk ⊢
  have d0 := pt0 g.pl
  have d1 := pt0 g.ho
  have q0 := fun M => str_eq g.pl.1 hn M
  have q1 := fun M => str_eq g.ho.1 hn M
  have lA : A.length < 16777216 := by omega
  have lB : B.length < 16777216 := by omega
  have ap0 : ∀ B', oAppend (.ref M.length) [.tup [.str [114, 111, 111, 116], .int 0, .int (nmA Q k : Int), ptD g.pl, strT g.rs, .int g.far, ptD g.ho, parD (g.pa.map (nmA Q))]] (M ++ [Cell.lst A, B']) = .ok .non (M ++ [.lst (A ++ [rwD (rootW Q (g, k))]), B']) := fun B' => by rw [oAppend_at (g0 _ _) lA, s0]; rfl
  have ap1 : ∀ B', oAppend (.ref (M.length + 1)) [.tup [.str [112, 117, 116], .int 0, ptD g.ho, .str g.pl.1, .int (nmA Q k : Int), ptD g.pl, strT g.rs, .int g.far, .non]] (M ++ [B', Cell.lst B]) = .ok .non (M ++ [B', .lst (B ++ [rwD (putW Q (g, k))])]) := fun B' => by rw [oAppend_at (g1 _ _) lB, s1]; rfl
  have t0 : ∀ C B', tyOk "list" (M ++ [Cell.lst C, B']) (.ref M.length) = true := fun C B' => tyOk_at (g0 _ _)
  have t1 : ∀ C B', tyOk "list" (M ++ [B', Cell.lst C]) (.ref (M.length + 1)) = true := fun C B' => tyOk_at (g1 _ _)
  unfold L_first_rows_0
  rw [hZI]
  by_cases c1 : g.pl.1 = hn
  · rw [decide_eq_true c1] at q0
    rw [if_pos c1]
    by_cases c2 : g.ho.1 = hn
    · rw [decide_eq_true c2] at q1
      rw [if_pos c2]
      push_cast [hab, d0, q0, nk, t0, ap0, d1, q1, t1, ap1]
    · rw [decide_eq_false c2] at q1
      rw [if_neg c2]
      push_cast [hab, d0, q0, nk, t0, ap0, d1, q1]
  · rw [decide_eq_false c1] at q0
    rw [if_neg c1]
    by_cases c2 : g.ho.1 = hn
    · rw [decide_eq_true c2] at q1
      rw [if_pos c2]
      push_cast [hab, d0, q0, nk, d1, q1, t1, ap1]
    · rw [decide_eq_false c2] at q1
      rw [if_neg c2]
      push_cast [hab, d0, q0, nk, d1, q1]
theorem numb_get {α : Type} (f : α → D) (l : List α) {k : Nat} {d : D} (h : (numb (l.map f))[k]? = some d) : ∃ x, l[k]? = some x ∧ d = .tup [.int (k : Int), f x] := by
  unfold numb at h
  cases hk : l[k]? with
  | none =>
    have hge : l.length ≤ k := by simpa using hk
    rw [List.getElem?_eq_none (by simp; omega)] at h
    cases h
  | some x =>
    have hlt : k < l.length := (List.getElem?_eq_some_iff.mp hk).1
    rw [List.getElem?_zipWith, List.length_map, List.getElem?_range hlt, List.getElem?_map, hk] at h
    refine ⟨x, rfl, ?_⟩
    simpa using h.symm
theorem numb_len (l : List D) : (numb l).length = l.length := by unfold numb; simp
theorem bg_map (Q : List Rt) (hn : Nm) : (bgW Q hn).map rwD = ((rtsO Q hn Q.length).map fun x => rwD (rootW Q x)) ++ ((ptsO Q hn Q.length).map fun x => rwD (putW Q x)) := by
  unfold bgW
  rw [List.map_append, List.map_map, List.map_map]; rfl
theorem first_rows_eq {Q : List Rt} (hl : Q.length ≤ 900) (kQ : PaOk Q) (H : List Hu) (hn : Nm) (M : Mem) : g_first_rows [planD H Q, .str hn] M = .ok (.lst ((bgW Q hn).map rwD)) M := by
  have e0 := numbers_eq (Q := Q) (by omega) H M
  obtain ⟨env', m', e, y5, y6, y7, y8, y9, y10, y11, rfl, rfl⟩ := forL_inv (g := gT 2 (gsCons (gN 5) (gsCons (gT 5 (gsCons (gN 6) (gsCons (gN 7) (gsCons (gN 8) (gsCons (gN 9) (gsCons (gN 10) gsNil)))))) gsNil))) (body := L_first_rows_0) (fun k env m => ∃ y5 y6 y7 y8 y9 y10 y11, env = [some (planD H Q), some (.str hn), some (.lst (natsD (numsK Q Q.length))), some (.ref M.length), some (.ref (M.length + 1)), y5, y6, y7, y8, y9, y10, y11] ∧ m = M ++ [.lst ((rtsO Q hn k).map fun x => rwD (rootW Q x)), .lst ((ptsO Q hn k).map fun x => rwD (putW Q x))]) (numb (Q.map rtD)) 0 [some (planD H Q), some (.str hn), some (.lst (natsD (numsK Q Q.length))), some (.ref M.length), some (.ref (M.length + 1)), none, none, none, none, none, none, none] (M ++ [.lst [], .lst []]) ⟨_, _, _, _, _, _, _, rfl, rfl⟩ (by
    rintro k d env m hk ⟨y5, y6, y7, y8, y9, y10, y11, rfl, rfl⟩
    obtain ⟨g, hg, rfl⟩ := numb_get rtD Q hk
    rw [Nat.zero_add]
    exact ⟨_, _, fr_turn (by omega) hg kQ M (some (planD H Q)) y11, _, _, _, _, _, _, _, rfl, rfl⟩)
  rw [numb_len, List.length_map, Nat.zero_add] at e
  have l1 := rtsO_len (Q := Q) (hn := hn) (k := Q.length)
  have l2 := ptsO_len (Q := Q) (hn := hn) (k := Q.length)
  have hB : runB B_first_rows 12 [planD H Q, .str hn] M = .ok (.lst ((bgW Q hn).map rwD)) (M ++ [.lst ((rtsO Q hn Q.length).map fun x => rwD (rootW Q x)), .lst ((ptsO Q hn Q.length).map fun x => rwD (putW Q x))]) := by
    refine runB_rt (N := 12) ?_
    show B_first_rows [some (planD H Q), some (.str hn), none, none, none, none, none, none, none, none, none, none] M = _
    have ad := add_refs (M := M ++ [Cell.lst ((rtsO Q hn Q.length).map fun x => rwD (rootW Q x)), .lst ((ptsO Q hn Q.length).map fun x => rwD (putW Q x))]) (i := M.length) (j := M.length + 1) (app_get0 rfl) (app_get1 rfl) (by rw [List.length_map, List.length_map]; omega)
    rw [← bg_map] at ad
    have p1 := pl1 H Q
    obtain ⟨PD, hPD⟩ : ∃ PD, planD H Q = PD := ⟨_, rfl⟩
    rw [hPD] at e0 e p1 ⊢
    obtain ⟨QD, hQD⟩ : ∃ QD, Q.map rtD = QD := ⟨_, rfl⟩
    rw [hQD] at e p1
    obtain ⟨ND, hND⟩ : ∃ N, D.lst (natsD (numsK Q Q.length)) = N := ⟨_, rfl⟩
    rw [hND] at e0 e
    have ml : (M ++ [Cell.lst []]).length = M.length + 1 := by simp
    have ma : (M ++ [Cell.lst []]) ++ [Cell.lst []] = M ++ [.lst [], .lst []] := by simp
    push_cast [B_first_rows, e0, ml, ma, p1, iEnumX_eq, enX_tup, mFor_eq, e, ad]
  obtain ⟨p, hp, _⟩ := Pl.lst (rows_pl (l := bgW Q hn) fun r hr => rowh_ok (bg_rowh r hr))
  exact gc_val0 hB hp
theorem kp0 (v : D) : putD "plan" v ([] : List (Str × D)) = ([("plan", v)] : List (Str × D)) := rfl
theorem kp1 (x0 v : D) : putD "house" v ([("plan", x0)] : List (Str × D)) = ([("plan", x0), ("house", v)] : List (Str × D)) := by simp only [putD, kn_nplan_house, if_false]
theorem kp2 (x0 x1 v : D) : putD "lease" v ([("plan", x0), ("house", x1)] : List (Str × D)) = ([("plan", x0), ("house", x1), ("lease", v)] : List (Str × D)) := by simp only [putD, kn_nplan_lease, kn_nhouse_lease, if_false]
theorem kp3 (x0 x1 x2 v : D) : putD "every" v ([("plan", x0), ("house", x1), ("lease", x2)] : List (Str × D)) = ([("plan", x0), ("house", x1), ("lease", x2), ("every", v)] : List (Str × D)) := by simp only [putD, kn_nplan_every, kn_nhouse_every, kn_nlease_every, if_false]
theorem kp4 (x0 x1 x2 x3 v : D) : putD "stone" v ([("plan", x0), ("house", x1), ("lease", x2), ("every", x3)] : List (Str × D)) = ([("plan", x0), ("house", x1), ("lease", x2), ("every", x3), ("stone", v)] : List (Str × D)) := by simp only [putD, kn_nplan_stone, kn_nhouse_stone, kn_nlease_stone, kn_nevery_stone, if_false]
theorem kp5 (x0 x1 x2 x3 x4 v : D) : putD "letters" v ([("plan", x0), ("house", x1), ("lease", x2), ("every", x3), ("stone", x4)] : List (Str × D)) = ([("plan", x0), ("house", x1), ("lease", x2), ("every", x3), ("stone", x4), ("letters", v)] : List (Str × D)) := by simp only [putD, kn_nplan_letters, kn_nhouse_letters, kn_nlease_letters, kn_nevery_letters, kn_nstone_letters, if_false]
theorem kp6 (x0 x1 x2 x3 x4 x5 v : D) : putD "kept" v ([("plan", x0), ("house", x1), ("lease", x2), ("every", x3), ("stone", x4), ("letters", x5)] : List (Str × D)) = ([("plan", x0), ("house", x1), ("lease", x2), ("every", x3), ("stone", x4), ("letters", x5), ("kept", v)] : List (Str × D)) := by simp only [putD, kn_nplan_kept, kn_nhouse_kept, kn_nlease_kept, kn_nevery_kept, kn_nstone_kept, kn_nletters_kept, if_false]
theorem kp7 (x0 x1 x2 x3 x4 x5 x6 v : D) : putD "opened" v ([("plan", x0), ("house", x1), ("lease", x2), ("every", x3), ("stone", x4), ("letters", x5), ("kept", x6)] : List (Str × D)) = ([("plan", x0), ("house", x1), ("lease", x2), ("every", x3), ("stone", x4), ("letters", x5), ("kept", x6), ("opened", v)] : List (Str × D)) := by simp only [putD, kn_nplan_opened, kn_nhouse_opened, kn_nlease_opened, kn_nevery_opened, kn_nstone_opened, kn_nletters_opened, kn_nkept_opened, if_false]
theorem stone_init (m : Mem) (l : List Rw5) : g_Stone___init__ [.ref m.length, .lst (l.map rwD)] (m ++ [.ins 2 []]) = .ok .non (m ++ [.ins 2 (snF (.ref (m.length + 1)) (.int (l.length : Int))), .lst (l.map rwD)]) := by
  refine runB_nx (N := 2) (env := [some (.ref m.length), some (.lst (l.map rwD))]) ?_
  show B_Stone___init__ [some (.ref m.length), some (.lst (l.map rwD))] (m ++ [.ins 2 []]) = _
  have z1 : ∀ v, putD "written" v [] = ([("written", v)] : List (Str × D)) := fun v => rfl
  have z2 : ∀ v u, putD "firm" u [("written", v)] = snF v u := fun v u => by simp only [putD, snF, sn_nwritten_firm, if_false]
  have lkw : ∀ v, ([("written", v)] : List (Str × D)).lookup ("written" : Str) = some v := fun v => by simp only [List.lookup, beq_self_eq_true]
  have ol : ∀ (M : Mem), oList true [.lst (l.map rwD)] M = .ok (.ref M.length) (M ++ [.lst (l.map rwD)]) := fun M => rfl
  have gt : ∀ c (B : Mem), (m ++ c :: B)[m.length]? = some c := fun c B => app_get0 rfl
  have st : ∀ c d (B : Mem), (m ++ c :: B).set m.length d = m ++ d :: B := fun c d B => app_set0 rfl
  have le : ∀ c : Cell, (m ++ [c]).length = m.length + 1 := fun c => by simp
  have ap : ∀ c d : Cell, (m ++ [c]) ++ [d] = m ++ [c, d] := fun c d => by simp
  have g1 : ∀ c, (m ++ [c, Cell.lst (l.map rwD)])[m.length + 1]? = some (.lst (l.map rwD)) := fun c => app_get1 rfl
  have on : ∀ c, oLen [.ref (m.length + 1)] (m ++ [c, Cell.lst (l.map rwD)]) = .ok (.int (l.length : Int)) (m ++ [c, Cell.lst (l.map rwD)]) := fun c => by rw [oLen_ref (g1 c), List.length_map]
  have lt0 : (0 < 1000) = True := by simp
  have lt1 : (1 < 1000) = True := by simp
  obtain ⟨RL, hRL⟩ : ∃ X, l.map rwD = X := ⟨_, rfl⟩
  rw [hRL] at ol on ⊢
  push_cast [B_Stone___init__, mFldSet_eq, mFld_eq, insOf_at (gt _ _), st, ol, le, ap, on, z1, z2, lkw, lt0, lt1]
abbrev askN : Nm := [97, 115, 107]
abbrev answerN : Nm := [97, 110, 115, 119, 101, 114]
theorem leD_nat (a b : Nat) : leD (.int (a : Int)) (.int (b : Int)) = decide (a ≤ b) := by
  have h := congrFun (congrFun (PySem.W.dataLe_int (β := Nat) (fun x : Nat => (x : Int))) a) b
  show PySem.W.dataLe false (fun x : Nat => PyData.int (x : Int)) a b = _
  rw [h]
  simp
def zipK {α : Type} (f : α → D) (S : List α) : List (KK × D) := S.zipIdx.map fun x => ((.inl (x.2 : Int) : KK), f x.1)
theorem zipK_len {α : Type} (f : α → D) (S : List α) : (zipK f S).length = S.length := by unfold zipK; simp
theorem gA_zip0 {α : Type} (f : α → D) (p : Nat) : ∀ (S : List α) (o : Nat), gA ((S.zipIdx o).map fun x => ((.inl (x.2 : Int) : KK), f x.1)) (.inl (p : Int)) = if o ≤ p then (S[p - o]?).map f else none
  | [], o => by simp [gA]
  | a :: S, o => by
    rw [List.zipIdx_cons, List.map_cons]
    by_cases c : o = p
    · subst c
      rw [if_pos (Nat.le_refl _), Nat.sub_self]
      simp [gA]
    · have hne : ¬ ((Sum.inl (o : Int) : KK) = .inl (p : Int)) := fun z => by injection z with z; omega
      have g1 : gA (((.inl (o : Int) : KK), f a) :: (S.zipIdx (o + 1)).map fun x => ((.inl (x.2 : Int) : KK), f x.1)) (.inl (p : Int)) = gA ((S.zipIdx (o + 1)).map fun x => ((.inl (x.2 : Int) : KK), f x.1)) (.inl (p : Int)) := by
        unfold gA
        rw [List.find?_cons_of_neg (by simpa using hne)]
      show gA (((.inl (o : Int) : KK), f a) :: (S.zipIdx (o + 1)).map fun x => ((.inl (x.2 : Int) : KK), f x.1)) (.inl (p : Int)) = _
      rw [g1, gA_zip0 f p S (o + 1)]
      by_cases d : o ≤ p
      · rw [if_pos (by omega), if_pos d, show p - o = (p - (o + 1)) + 1 by omega, List.getElem?_cons_succ]
      · rw [if_neg (by omega), if_neg d]
theorem gA_zip {α : Type} (f : α → D) (S : List α) (p : Nat) : gA (zipK f S) (.inl (p : Int)) = (S[p]?).map f := by
  have := gA_zip0 f p S 0
  unfold zipK
  rw [this, if_pos (Nat.zero_le _), Nat.sub_zero]
theorem pA_none {κ : Type} [DecidableEq κ] {kvs : List (κ × D)} {k : κ} {v : D} (h : gA kvs k = none) : pA kvs k v = kvs ++ [(k, v)] := by
  unfold pA
  have hn : (kvs.any fun kv => decide (kv.1 = k)) = false := by
    rw [Bool.eq_false_iff]
    intro z
    unfold gA at h
    rw [Option.map_eq_none_iff] at h
    obtain ⟨kv, hk, hd⟩ := List.any_eq_true.mp z
    have : (kvs.find? fun kv => decide (kv.1 = k)).isSome = true := List.find?_isSome.mpr ⟨kv, hk, hd⟩
    rw [h] at this; cases this
  rw [if_neg (by rw [hn]; simp)]
theorem pA_zip_new {α : Type} (f : α → D) (S : List α) (a : α) : pA (zipK f S) (.inl (S.length : Int)) (f a) = zipK f (S ++ [a]) := by
  have h : gA (zipK f S) (.inl (S.length : Int)) = none := by rw [gA_zip, List.getElem?_eq_none (Nat.le_refl _)]; rfl
  rw [pA_none h]
  unfold zipK
  rw [List.zipIdx_append, List.map_append]
  simp
theorem pA_zip_set {α : Type} (f : α → D) (S : List α) {c : Nat} (hc : c < S.length) (a : α) : pA (zipK f S) (.inl (c : Int)) (f a) = zipK f (S.set c a) := by
  have hs : (gA (zipK f S) (.inl (c : Int))).isSome = true := by rw [gA_zip, List.getElem?_eq_getElem hc]; rfl
  unfold pA
  have hn : ((zipK f S).any fun kv => decide (kv.1 = (.inl (c : Int) : KK))) = true := by
    unfold gA at hs
    rw [Option.isSome_map] at hs
    obtain ⟨kv, h1, h2⟩ := List.find?_isSome.mp hs
    exact List.any_eq_true.mpr ⟨kv, h1, h2⟩
  rw [if_pos hn]
  apply List.ext_getElem?
  intro j
  unfold zipK
  rw [List.map_map, List.getElem?_map, List.getElem?_map, List.getElem?_zipIdx, List.getElem?_zipIdx, List.getElem?_set]
  by_cases hj : c = j
  · subst hj
    rw [if_pos rfl, if_pos hc, List.getElem?_eq_getElem hc]
    simp
  · rw [if_neg hj]
    cases h : S[j]? with
    | none => rfl
    | some x =>
      have : ¬ (j = c) := fun z => hj z.symm
      simp
      omega
structure As where
  t : Nat
  what : D
  ans : D
def asV (a : As) : D := .tup [.int (a.t : Int), a.what, a.ans]
def askR (t c : Nat) (what : D) : Rw5 := .oth askN t [.int (c : Int), what]
def answerR (t c : Nat) (a : D) : Rw5 := .oth answerN t [.int (c : Int), a]
/-- how a row changes what is asked -/
def askF (S : List As) : Rw5 → List As
  | .oth w t ps => if w = askN then S ++ [⟨t, ps.getD 1 .non, .non⟩] else if w = answerN then (match ps with
    | .int c :: a :: _ => match S[c.toNat]? with
      | some x => S.set c.toNat ⟨x.t, x.what, a⟩
      | none => S
    | _ => S) else S
  | _ => S
def asksL (l : List Rw5) : List As := l.foldl askF []
inductive AskS (S : List As) : Rw5 → Prop where
  | ask (t : Nat) (what : D) : AskS S (askR t S.length what)
  | answer (t : Nat) (c : Nat) (a : D) (h : c < S.length) : AskS S (answerR t c a)
  | other (r : Rw5) (h1 : r.w ≠ askN) (h2 : r.w ≠ answerN) : AskS S r
def AskL (l : List Rw5) : Prop := ∀ k r, l[k]? = some r → AskS (asksL (l.take k)) r
theorem asksL_snoc (l : List Rw5) (r : Rw5) : asksL (l ++ [r]) = askF (asksL l) r := by unfold asksL; rw [List.foldl_append]; rfl
theorem askF_ask (S : List As) (t c : Nat) (what : D) : askF S (askR t c what) = S ++ [⟨t, what, .non⟩] := by
  simp only [askR, askF, if_true]; rfl
theorem askF_answer (S : List As) (t c : Nat) (a : D) {x : As} (h : S[c]? = some x) : askF S (answerR t c a) = S.set c ⟨x.t, x.what, a⟩ := by
  simp only [answerR, askF]
  rw [if_neg (by decide), if_pos trivial]
  simp [h]
theorem askF_other (S : List As) (r : Rw5) (h1 : r.w ≠ askN) (h2 : r.w ≠ answerN) : askF S r = S := by
  cases r with
  | oth w t ps => simp only [askF]; rw [if_neg (show w ≠ askN from h1), if_neg (show w ≠ answerN from h2)]
  | _ => rfl
theorem askF_len (S : List As) (r : Rw5) : (askF S r).length ≤ S.length + 1 := by
  cases r with
  | oth w t ps =>
    simp only [askF]
    split
    · simp
    · split
      · split
        · split
          · simp
          · omega
        · omega
      · omega
  | _ => simp only [askF]; omega
theorem asksL_len (l : List Rw5) : (asksL l).length ≤ l.length := by
  suffices ∀ (l : List Rw5) (S : List As), (l.foldl askF S).length ≤ S.length + l.length by
    have := this l []
    simpa [asksL] using this
  intro l
  induction l with
  | nil => intro S; simp
  | cons r l ih => intro S; have h1 := ih (askF S r); have h2 := askF_len S r; rw [List.foldl_cons, List.length_cons]; omega
theorem AskL.nil : AskL [] := fun k r h => by simp at h
theorem AskL.snoc {l : List Rw5} {r : Rw5} (h : AskL l) (hr : AskS (asksL l) r) : AskL (l ++ [r]) := fun k q hk => by
  by_cases hl : k < l.length
  · rw [List.getElem?_append_left hl] at hk
    rw [List.take_append_of_le_length (by omega)]
    exact h k q hk
  · rw [List.getElem?_append_right (by omega)] at hk
    have hk0 : k - l.length = 0 := by have := (List.getElem?_eq_some_iff.mp hk).1; simp at this; omega
    rw [hk0] at hk
    have hk : some r = some q := hk
    cases hk
    have : k = l.length := by omega
    rw [this, List.take_append_of_le_length (Nat.le_refl _), List.take_length]
    exact hr
theorem ask_turn {M0 : Mem} {S : List As} {r : Rw5} (h : AskS S r) (hl : S.length ≤ 10000) (x0 x2 x3 x4 x5 : Option D) (hx2 : x2 = some (.str r.w)) (hx3 : x3 = some (.int (r.t : Int))) (hx4 : x4 = some (.lst r.ps)) :
    L_asks_0 [x0, some (.ref M0.length), x2, x3, x4, x5] (M0 ++ [.dk false (zipK asV S)]) = .ok (.nx [x0, some (.ref M0.length), x2, x3, x4, x5]) (M0 ++ [.dk false (zipK asV (askF S r))]) := by
  subst hx2 hx3 hx4
  have q1 : ∀ M, oEq false (.str r.w) (.str [97, 115, 107]) M = .ok (.bl (decide (r.w = askN))) M := fun M => str_eq _ _ M
  have q2 : ∀ M, oEq false (.str r.w) (.str [97, 110, 115, 119, 101, 114]) M = .ok (.bl (decide (r.w = answerN))) M := fun M => str_eq _ _ M
  have g0 : ∀ C, (M0 ++ [Cell.dk false C])[M0.length]? = some (.dk false C) := fun C => app_get0 rfl
  have s0 : ∀ C E, (M0 ++ [Cell.dk false C]).set M0.length (.dk false E) = M0 ++ [.dk false E] := fun C E => app_set0 rfl
  have zl : (zipK asV S).length < 16777216 := by rw [zipK_len]; omega
  cases h with
  | ask t what =>
    rw [askF_ask]
    have q1 : ∀ M, oEq false (.str (askR t S.length what).w) (.str [97, 115, 107]) M = .ok (.bl true) M := fun M => by rw [q1, decide_eq_true (show (askR t S.length what).w = askN from rfl)]
    have q2 : ∀ M, oEq false (.str (askR t S.length what).w) (.str [97, 110, 115, 119, 101, 114]) M = .ok (.bl false) M := fun M => by rw [q2, decide_eq_false (show ¬ (askR t S.length what).w = answerN from (by decide : ¬ askN = answerN))]
    have ps : D.lst (askR t S.length what).ps = .lst [.int (S.length : Int), what] := rfl
    have i0 : ∀ M, oIxA (.lst [.int (S.length : Int), what]) (.int 0) M = .ok (.int (S.length : Int)) M := fun _ => rfl
    have i1 : ∀ M, oIxA (.lst [.int (S.length : Int), what]) (.int 1) M = .ok what M := fun _ => rfl
    have sp : sPut (M0 ++ [.dk false (zipK asV S)]) (.ref M0.length) (.int (S.length : Int)) (.tup [.int ((askR t S.length what).t : Int), what, .non]) = some (M0 ++ [.dk false (zipK asV (S ++ [⟨t, what, .non⟩]))]) := by
      rw [sPut_dk (g0 _) zl, s0]
      have := pA_zip_new asV S ⟨t, what, .non⟩
      rw [← this]; rfl
    rw [ps]
    obtain ⟨WD, hWD⟩ : ∃ X, (askR t S.length what).w = X := ⟨_, rfl⟩
    rw [hWD] at q1 q2 ⊢
    obtain ⟨PS, hPS⟩ : ∃ X, D.lst [.int (S.length : Int), what] = X := ⟨_, rfl⟩
    rw [hPS] at i0 i1 ⊢
    push_cast [L_asks_0, q1, i1, i0, gIxA_eq, sp, q2]
  | answer t c a hcl =>
    have hx := List.getElem?_eq_getElem hcl
    rw [askF_answer S t c a hx]
    obtain ⟨x, hxx⟩ : ∃ x, S[c] = x := ⟨_, rfl⟩
    rw [hxx] at hx
    rw [hxx]
    have q1 : ∀ M, oEq false (.str (answerR t c a).w) (.str [97, 115, 107]) M = .ok (.bl false) M := fun M => by rw [q1, decide_eq_false (show ¬ (answerR t c a).w = askN from (by decide : ¬ answerN = askN))]
    have q2 : ∀ M, oEq false (.str (answerR t c a).w) (.str [97, 110, 115, 119, 101, 114]) M = .ok (.bl true) M := fun M => by rw [q2, decide_eq_true (show (answerR t c a).w = answerN from rfl)]
    have ps : D.lst (answerR t c a).ps = .lst [.int (c : Int), a] := rfl
    have i0 : ∀ M, oIxA (.lst [.int (c : Int), a]) (.int 0) M = .ok (.int (c : Int)) M := fun _ => rfl
    have i1 : ∀ M, oIxA (.lst [.int (c : Int), a]) (.int 1) M = .ok a M := fun _ => rfl
    have ix : oIxA (.ref M0.length) (.int (c : Int)) (M0 ++ [.dk false (zipK asV S)]) = .ok (asV x) (M0 ++ [.dk false (zipK asV S)]) := oIxA_dk (g0 _) (by rw [gA_zip, hx]; rfl)
    have sl : ∀ M, oSl false (asV x) none (some 2) M = .ok (.tup [.int (x.t : Int), x.what]) M := fun M => by unfold asV; rw [oSl_tup]; rfl
    have ad : ∀ M, oAdd false (.tup [.int (x.t : Int), x.what]) (.tup [a]) M = .ok (asV ⟨x.t, x.what, a⟩) M := fun M => by rw [oAddTT _ _ _ (by simp)]; rfl
    have sp : sPut (M0 ++ [.dk false (zipK asV S)]) (.ref M0.length) (.int (c : Int)) (asV ⟨x.t, x.what, a⟩) = some (M0 ++ [.dk false (zipK asV (S.set c ⟨x.t, x.what, a⟩))]) := by
      rw [sPut_dk (g0 _) zl, s0, pA_zip_set asV S hcl]
    rw [ps]
    obtain ⟨WD, hWD⟩ : ∃ X, (answerR t c a).w = X := ⟨_, rfl⟩
    rw [hWD] at q1 q2 ⊢
    obtain ⟨PS, hPS⟩ : ∃ X, D.lst [.int (c : Int), a] = X := ⟨_, rfl⟩
    rw [hPS] at i0 i1 ⊢
    push_cast [L_asks_0, q1, q2, i0, ix, sl, i1, ad, gIxA_eq, sp]
  | other _ h1 h2 =>
    rw [askF_other S r h1 h2]
    rw [decide_eq_false h1] at q1
    rw [decide_eq_false h2] at q2
    push_cast [L_asks_0, q1, q2]
theorem as_tgt {r : Rw5} (ok : RwOk r) (x0 x1 x2 x3 x4 x5 : Option D) (M : Mem) : (gS 3 2 (gsCons (gN 2) (gsCons (gN 3) (gsCons (gN 4) gsNil)))) (rwD r) [x0, x1, x2, x3, x4, x5] M = .ok [x0, x1, some (.str r.w), some (.int r.t), some (.lst r.ps), x5] M := by
  have pl := ps_len ok
  have d1 : (3 ≤ (D.str r.w :: D.int r.t :: r.ps).length + 1 ∧ (D.str r.w :: D.int r.t :: r.ps).length ≤ 16384) := by simp; omega
  have tk : (List.drop 2 (D.str r.w :: D.int r.t :: r.ps)).take ((D.str r.w :: D.int r.t :: r.ps).length + 1 - 3) = r.ps := List.take_of_length_le (by simp)
  have dr : (List.drop 2 (D.str r.w :: D.int r.t :: r.ps)).drop ((D.str r.w :: D.int r.t :: r.ps).length + 1 - 3) = [] := List.drop_of_length_le (by simp)
  have t2 : (D.str r.w :: D.int r.t :: r.ps).take 2 = [D.str r.w, D.int r.t] := rfl
  rw [rwD_ps, gS_eq, if_pos d1, tk, dr, t2]
  rfl
theorem ask_loop {M0 : Mem} (x0 x5 : Option D) {l : List Rw5} (h : AskL l) (ok : ∀ r ∈ l, RwOk r) (hl : l.length ≤ 10000) : ∃ y2 y3 y4,
    forL (fun _ => True) (gS 3 2 (gsCons (gN 2) (gsCons (gN 3) (gsCons (gN 4) gsNil)))) L_asks_0 (l.map rwD) [x0, some (.ref M0.length), none, none, none, x5] (M0 ++ [.dk false []]) = .ok (.nx [x0, some (.ref M0.length), y2, y3, y4, x5]) (M0 ++ [.dk false (zipK asV (asksL l))]) := by
  obtain ⟨env', m', e, y2, y3, y4, rfl, rfl⟩ := forL_inv (g := gS 3 2 (gsCons (gN 2) (gsCons (gN 3) (gsCons (gN 4) gsNil)))) (body := L_asks_0) (fun k env m => ∃ (y2 y3 y4 : Option D), env = [x0, some (.ref M0.length), y2, y3, y4, x5] ∧ m = M0 ++ [.dk false (zipK asV (asksL (l.take k)))]) (l.map rwD) 0 [x0, some (.ref M0.length), none, none, none, x5] (M0 ++ [.dk false []]) ⟨none, none, none, rfl, rfl⟩ (by
    rintro k d env m hk ⟨y2, y3, y4, rfl, rfl⟩
    rw [Nat.zero_add]
    rw [List.getElem?_map] at hk
    obtain ⟨r, hr, rfl⟩ := Option.map_eq_some_iff.mp hk
    have hkl := (List.getElem?_eq_some_iff.mp hr).1
    have sl := asksL_len (l.take k)
    rw [List.length_take] at sl
    have ht : l.take (k + 1) = l.take k ++ [r] := by rw [List.take_succ, hr]; rfl
    have tu := ask_turn (M0 := M0) (h k r hr) (by omega) x0 (some (.str r.w)) (some (.int (r.t : Int))) (some (.lst r.ps)) x5 rfl rfl rfl
    rw [ht, asksL_snoc]
    refine ⟨_, _, ?_, some (.str r.w), some (.int (r.t : Int)), some (.lst r.ps), rfl, rfl⟩
    rw [as_tgt (ok r (List.mem_of_getElem? hr)), R.bind_ok]
    exact tu)
  rw [List.length_map, Nat.zero_add, List.take_length] at e
  exact ⟨y2, y3, y4, e⟩
theorem take_sn {α : Type} {S : List α} {k : Nat} (h : k < S.length) : S.take (k + 1) = S.take k ++ [S[k]] := by rw [List.take_succ, List.getElem?_eq_getElem h]; rfl
theorem dc_asks {M : Mem} {c : Nat} {S : List As} (hc : M[c]? = some (.dk false (zipK asV S))) (hS : S.length ≤ 10000) (x0 x2 x3 x4 : Option D) : ∀ (n k : Nat), k + n = S.length →
    dcL (fun _ => True) (gN 5) tsYes C_asks_2 C_asks_1 [x0, some (.ref c), x2, x3, x4, none] M.length (natsD ((List.range n).map (k + ·))) (M ++ [.dk false (zipK asV (S.take k))]) = .ok () (M ++ [.dk false (zipK asV S)])
  | 0, k, h => by
    have : S.take k = S := List.take_of_length_le (by omega)
    rw [this]
    show dcL (fun _ => True) (gN 5) tsYes C_asks_2 C_asks_1 _ _ [] _ = _
    unfold dcL; rw [if_pos trivial]
  | n + 1, k, h => by
    have hk : k < S.length := by omega
    have ih := dc_asks hc hS x0 x2 x3 x4 n (k + 1) (by omega)
    have er : natsD ((List.range (n + 1)).map (k + ·)) = .int (k : Int) :: natsD ((List.range n).map (k + 1 + ·)) := by
      rw [List.range_succ_eq_map, List.map_cons, List.map_map]
      show natsD ((k + 0) :: _) = _
      unfold natsD
      rw [List.map_cons, List.map_map, List.map_map, Nat.add_zero]
      congr 1
      apply List.map_congr_left
      intro a _
      show D.int ((k + (a + 1) : Nat) : Int) = D.int ((k + 1 + a : Nat) : Int)
      congr 2
      omega
    rw [er]
    have c2 : C_asks_2 [x0, some (.ref c), x2, x3, x4, some (.int (k : Int))] (M ++ [.dk false (zipK asV (S.take k))]) = .ok (.int (k : Int)) (M ++ [.dk false (zipK asV (S.take k))]) := by unfold C_asks_2; push_cast [if_true]
    have hc' : (M ++ [Cell.dk false (zipK asV (S.take k))])[c]? = some (.dk false (zipK asV S)) := by rw [List.getElem?_append_left (lt_of_get hc)]; exact hc
    have i1 : oIxA (.ref c) (.int (k : Int)) (M ++ [.dk false (zipK asV (S.take k))]) = .ok (asV S[k]) (M ++ [.dk false (zipK asV (S.take k))]) := oIxA_dk hc' (by rw [gA_zip, List.getElem?_eq_getElem hk]; rfl)
    have c1 : C_asks_1 [x0, some (.ref c), x2, x3, x4, some (.int (k : Int))] (M ++ [.dk false (zipK asV (S.take k))]) = .ok (asV S[k]) (M ++ [.dk false (zipK asV (S.take k))]) := by unfold C_asks_1; push_cast [i1]
    have g0 : (M ++ [Cell.dk false (zipK asV (S.take k))])[M.length]? = some (.dk false (zipK asV (S.take k))) := app_get0 rfl
    have kk : keyK (.int (k : Int)) = some (.inl (k : Int)) := rfl
    have la : (zipK asV (S.take k)).length < 16777216 := by rw [zipK_len, List.length_take]; omega
    have pz : pA (zipK asV (S.take k)) (.inl (k : Int)) (asV S[k]) = zipK asV (S.take (k + 1)) := by
      have := pA_zip_new asV (S.take k) S[k]
      rw [List.length_take, Nat.min_eq_left (Nat.le_of_lt hk)] at this
      rw [this, take_sn hk]
    unfold dcL
    rw [if_pos trivial, gN_eq, R.bind_ok, tsYes_eq, R.bind_ok, if_pos rfl]
    have se : ([x0, some (.ref c), x2, x3, x4, none] : Fn.Env).set 5 (some (.int (k : Int))) = [x0, some (.ref c), x2, x3, x4, some (.int (k : Int))] := rfl
    rw [se, c2, R.bind_ok, c1, R.bind_ok, g0, kk]
    simp only
    rw [if_pos la, app_set0 rfl, pz, ih]
theorem sort_range (n : Nat) : sortD (natsD (List.range n)) = natsD (List.range n) := by
  have e : sortD (natsD (List.range n)) = natsD ((List.range n).mergeSort fun a b => decide (a ≤ b)) := by
    unfold sortD natsD
    symm
    apply List.map_mergeSort
    intro a _ b _
    exact (leD_nat a b).symm
  have h := List.pairwise_mergeSort (le := fun a b : Nat => decide (a ≤ b)) (fun a b c h1 h2 => by simp at *; omega) (fun a b => by simp; omega) (List.range n)
  rw [e, List.Perm.eq_of_pairwise (le := fun a b : Nat => a ≤ b) (fun a b _ _ h1 h2 => Nat.le_antisymm h1 h2) (h.imp fun h => by simpa using h) List.pairwise_le_range (List.mergeSort_perm _ _)]
theorem asks_eq {M : Mem} {l : List Rw5} (h : AskL l) (ok : ∀ r ∈ l, RwOk r) (hl : l.length ≤ 5000) : g_asks [.tup (l.map rwD)] M = .ok (.ref (M.length + 1)) (M ++ [.dk false (zipK asV (asksL l)), .dk false (zipK asV (asksL l))]) := by
  obtain ⟨y2, y3, y4, e⟩ := ask_loop (M0 := M) (some (.tup (l.map rwD))) none h ok (by omega)
  have sl := asksL_len l
  obtain ⟨S, hS⟩ : ∃ X, asksL l = X := ⟨_, rfl⟩
  rw [hS] at e sl ⊢
  have g0 : (M ++ [Cell.dk false (zipK asV S)])[M.length]? = some (.dk false (zipK asV S)) := app_get0 rfl
  have km : (zipK asV S).map (fun kv => keyD kv.1) = natsD (List.range S.length) := by
    unfold zipK natsD
    rw [List.map_map]
    apply List.ext_getElem?
    intro j
    by_cases hj : j < S.length
    · rw [List.getElem?_map, List.getElem?_map, List.getElem?_range hj, List.getElem?_zipIdx, List.getElem?_eq_getElem hj]; simp [keyD]
    · rw [List.getElem?_eq_none (by simp; omega), List.getElem?_eq_none (by simp; omega)]
  have so : oSortS false [.ref M.length] (M ++ [Cell.dk false (zipK asV S)]) = .ok (.lst (natsD (List.range S.length))) (M ++ [Cell.dk false (zipK asV S)]) := by
    have sk : sortOk ((zipK asV S).map fun kv => keyD kv.1) := by rw [km]; exact sortOk_nats _
    simp only [oSortS, g0, sk, if_true, mkL_f]
    rw [km, sort_range]
  have dc := dc_asks (M := M ++ [Cell.dk false (zipK asV S)]) g0 (by omega) (some (.tup (l.map rwD))) y2 y3 y4 S.length 0 (by omega)
  have e0 : natsD ((List.range S.length).map (0 + ·)) = natsD (List.range S.length) := by
    congr 1
    exact (List.map_congr_left (fun a _ => Nat.zero_add a)).trans (List.map_id _)
  rw [e0, List.take_zero] at dc
  have lM : (M ++ [Cell.dk false (zipK asV S)]).length = M.length + 1 := by rw [List.length_append]; rfl
  have ap : M ++ [Cell.dk false (zipK asV S)] ++ [Cell.dk false (zipK asV S)] = M ++ [.dk false (zipK asV S), .dk false (zipK asV S)] := by rw [List.append_assoc]; rfl
  rw [ap, lM] at dc
  refine runB_rt (N := 6) (?_ : B_asks [some (.tup (l.map rwD)), none, none, none, none, none] M = _)
  have wp : wipeE [some (D.tup (l.map rwD)), some (.ref M.length), y2, y3, y4, none] [5] = [some (D.tup (l.map rwD)), some (.ref M.length), y2, y3, y4, none] := rfl
  have zn : zipK asV [] = [] := rfl
  rw [zn] at dc
  obtain ⟨RD, hRD⟩ : ∃ X, l.map rwD = X := ⟨_, rfl⟩
  rw [hRD] at e dc wp ⊢
  obtain ⟨M2, hM2⟩ : ∃ X, M ++ [Cell.dk false (zipK asV S)] = X := ⟨_, rfl⟩
  rw [hM2] at e so dc lM ap
  unfold B_asks
  push_cast [mDNewK_eq, mFor_eq, e, mDc_eq, so, wp, lM, dc]
section
variable (x0 x1 x2 x3 x4 x5 x6 x7 : D)
theorem lk_kn_wrote : (knF x0 x1 x2 x3 x4 x5 x6 x7).lookup ("wrote" : Str) = none := by simp only [knF, List.lookup, show (("wrote" : Str) == "plan") = false from by decide +kernel, show (("wrote" : Str) == "house") = false from by decide +kernel, show (("wrote" : Str) == "lease") = false from by decide +kernel, show (("wrote" : Str) == "every") = false from by decide +kernel, show (("wrote" : Str) == "stone") = false from by decide +kernel, show (("wrote" : Str) == "letters") = false from by decide +kernel, show (("wrote" : Str) == "kept") = false from by decide +kernel, show (("wrote" : Str) == "opened") = false from by decide +kernel]
theorem lk_kn_led : (knF x0 x1 x2 x3 x4 x5 x6 x7).lookup ("led" : Str) = none := by simp only [knF, List.lookup, show (("led" : Str) == "plan") = false from by decide +kernel, show (("led" : Str) == "house") = false from by decide +kernel, show (("led" : Str) == "lease") = false from by decide +kernel, show (("led" : Str) == "every") = false from by decide +kernel, show (("led" : Str) == "stone") = false from by decide +kernel, show (("led" : Str) == "letters") = false from by decide +kernel, show (("led" : Str) == "kept") = false from by decide +kernel, show (("led" : Str) == "opened") = false from by decide +kernel]
theorem lk_kn_asked : (knF x0 x1 x2 x3 x4 x5 x6 x7).lookup ("asked" : Str) = none := by simp only [knF, List.lookup, show (("asked" : Str) == "plan") = false from by decide +kernel, show (("asked" : Str) == "house") = false from by decide +kernel, show (("asked" : Str) == "lease") = false from by decide +kernel, show (("asked" : Str) == "every") = false from by decide +kernel, show (("asked" : Str) == "stone") = false from by decide +kernel, show (("asked" : Str) == "letters") = false from by decide +kernel, show (("asked" : Str) == "kept") = false from by decide +kernel, show (("asked" : Str) == "opened") = false from by decide +kernel]
theorem lk_kn_take_said : (knF x0 x1 x2 x3 x4 x5 x6 x7).lookup ("take_said" : Str) = none := by simp only [knF, List.lookup, show (("take_said" : Str) == "plan") = false from by decide +kernel, show (("take_said" : Str) == "house") = false from by decide +kernel, show (("take_said" : Str) == "lease") = false from by decide +kernel, show (("take_said" : Str) == "every") = false from by decide +kernel, show (("take_said" : Str) == "stone") = false from by decide +kernel, show (("take_said" : Str) == "letters") = false from by decide +kernel, show (("take_said" : Str) == "kept") = false from by decide +kernel, show (("take_said" : Str) == "opened") = false from by decide +kernel]
theorem lk_kn_hand : (knF x0 x1 x2 x3 x4 x5 x6 x7).lookup ("hand" : Str) = none := by simp only [knF, List.lookup, show (("hand" : Str) == "plan") = false from by decide +kernel, show (("hand" : Str) == "house") = false from by decide +kernel, show (("hand" : Str) == "lease") = false from by decide +kernel, show (("hand" : Str) == "every") = false from by decide +kernel, show (("hand" : Str) == "stone") = false from by decide +kernel, show (("hand" : Str) == "letters") = false from by decide +kernel, show (("hand" : Str) == "kept") = false from by decide +kernel, show (("hand" : Str) == "opened") = false from by decide +kernel]
theorem lk_kn_cut : (knF x0 x1 x2 x3 x4 x5 x6 x7).lookup ("cut" : Str) = none := by simp only [knF, List.lookup, show (("cut" : Str) == "plan") = false from by decide +kernel, show (("cut" : Str) == "house") = false from by decide +kernel, show (("cut" : Str) == "lease") = false from by decide +kernel, show (("cut" : Str) == "every") = false from by decide +kernel, show (("cut" : Str) == "stone") = false from by decide +kernel, show (("cut" : Str) == "letters") = false from by decide +kernel, show (("cut" : Str) == "kept") = false from by decide +kernel, show (("cut" : Str) == "opened") = false from by decide +kernel]
theorem lk_kn_call : (knF x0 x1 x2 x3 x4 x5 x6 x7).lookup ("call" : Str) = none := by simp only [knF, List.lookup, show (("call" : Str) == "plan") = false from by decide +kernel, show (("call" : Str) == "house") = false from by decide +kernel, show (("call" : Str) == "lease") = false from by decide +kernel, show (("call" : Str) == "every") = false from by decide +kernel, show (("call" : Str) == "stone") = false from by decide +kernel, show (("call" : Str) == "letters") = false from by decide +kernel, show (("call" : Str) == "kept") = false from by decide +kernel, show (("call" : Str) == "opened") = false from by decide +kernel]
end
section
variable (x0 x1 : D)
theorem lk_sn_write : (snF x0 x1).lookup ("write" : Str) = none := by simp only [snF, List.lookup, show (("write" : Str) == "written") = false from by decide +kernel, show (("write" : Str) == "firm") = false from by decide +kernel]
end
section
variable {ev : Nat} {M : Mem} {k st w lt : Nat} {plan : D} {house : Nm} {l : List Rw5} {firm : Nat} {L : List D}
def settM (M : Mem) (st w : Nat) (n : Nat) : Mem := M.set st (.ins 2 (snF (.ref w) (.int (n : Int))))
theorem settM_old {M : Mem} {st w n j : Nat} (h : j ≠ st) : (settM M st w n)[j]? = M[j]? := by unfold settM; rw [List.getElem?_set_ne (Ne.symm h)]
theorem settM_len {M : Mem} {st w n : Nat} : (settM M st w n).length = M.length := by unfold settM; rw [List.length_set]
theorem stone_settle (h : KAt ev M k st w lt plan house l firm L) : g_Stone_settle [.ref st] M = .ok .non (settM M st w l.length) := by
  refine runB_nx (N := 1) (env := [some (.ref st)]) (?_ : B_Stone_settle [some (.ref st)] M = _)
  have hi := insOf_at h.sto
  have ol : oLen [.ref w] M = .ok (.int (l.length : Int)) M := by rw [oLen_ref h.wri, List.length_map]
  have l2 := h.lts.2.1
  push_cast [B_Stone_settle, mFld_eq, mFldSet_eq, hi, lk_sn_written, ol, snF_len, put_sn_firm]
  rfl
theorem KAt.settle (h : KAt ev M k st w lt plan house l firm L) : KAt ev (settM M st w l.length) k st w lt plan house l l.length L := by
  obtain ⟨n1, n2, n3, n4, n5⟩ := h.nes
  obtain ⟨kp, op, h1⟩ := h.ker
  exact ⟨⟨kp, op, by rw [settM_old n1]; exact h1⟩, List.getElem?_set_self h.lts.2.1, by rw [settM_old (Ne.symm n4)]; exact h.wri, by rw [settM_old (Ne.symm n5)]; exact h.let_, h.ne⟩
/-- a row written and settled -/
def wroteM (M : Mem) (st w : Nat) (l : List Rw5) (r : Rw5) : Mem := settM (M.set w (.lst (l.map rwD ++ [rwD r]))) st w (l.length + 1)
theorem wroteM_old {M : Mem} {st w j : Nat} {r : Rw5} (h : j ≠ st) (h2 : j ≠ w) : (wroteM M st w l r)[j]? = M[j]? := by unfold wroteM; rw [settM_old h, List.getElem?_set_ne (Ne.symm h2)]
theorem wroteM_len {M : Mem} {st w : Nat} {r : Rw5} : (wroteM M st w l r).length = M.length := by unfold wroteM; rw [settM_len, List.length_set]
theorem wrote_eq (h : KAt ev M k st w lt plan house l firm L) (hl : l.length ≤ 5000) (r : Rw5) : g_Kernel_wrote [.ref k, rwD r] M = .ok .non (wroteM M st w l r) ∧ KAt ev (wroteM M st w l r) k st w lt plan house (l ++ [r]) (l.length + 1) L := by
  have sw := stone_write_eq h hl r
  have h1 := h.write r
  have s1 := stone_settle h1
  have k1 := h1.settle
  have ll : (l ++ [r]).length = l.length + 1 := by simp
  rw [ll] at s1 k1
  refine ⟨?_, k1⟩
  obtain ⟨kp, op, hk⟩ := h.ker
  obtain ⟨kp1, op1, hk1⟩ := h1.ker
  have i0 := insOf_at hk
  have i1 := insOf_at hk1
  have j0 := insOf_at h.sto
  have j1 := insOf_at h1.sto
  have ls0 := lk_kn_stone plan (.str house) (.int 6) (.int (ev : Int)) (.ref st) (.ref lt) kp op
  have ls1 := lk_kn_stone plan (.str house) (.int 6) (.int (ev : Int)) (.ref st) (.ref lt) kp1 op1
  refine runB_nx (N := 2) (env := [some (.ref k), some (rwD r)]) (?_ : B_Kernel_wrote [some (.ref k), some (rwD r)] M = _)
  have e : settM (M.set w (.lst (l.map rwD ++ [rwD r]))) st w (l.length + 1) = wroteM M st w l r := rfl
  rw [e] at s1
  obtain ⟨M1, hM1⟩ : ∃ X, M.set w (.lst (l.map rwD ++ [rwD r])) = X := ⟨_, rfl⟩
  rw [hM1] at sw s1 i1 j1
  obtain ⟨RD, hRD⟩ : ∃ X, rwD r = X := ⟨_, rfl⟩
  rw [hRD] at sw ⊢
  push_cast [B_Kernel_wrote, mMth_eq, mFld_eq, i0, ls0, j0, lk_sn_write, sw, i1, ls1, j1, lk_sn_settle, s1]
theorem asked_eq (h : KAt ev M k st w lt plan house l firm L) (ha : AskL l) (ok : ∀ r ∈ l, RwOk r) (hl : l.length ≤ 5000) (t : Nat) (what : D) :
    ∃ M', g_Kernel_asked [.ref k, .int t, what] M = .ok (.int ((asksL l).length : Int)) M' ∧ KAt ev M' k st w lt plan house (l ++ [askR t (asksL l).length what]) (l.length + 1) L ∧ M.length ≤ M'.length ∧ ∀ j, j < M.length → j ≠ st → j ≠ w → M'[j]? = M[j]? := by
  have as := asks_eq (M := M) ha ok hl
  obtain ⟨S, hS⟩ : ∃ X, asksL l = X := ⟨_, rfl⟩
  rw [hS] at as ⊢
  have h1 := h.app [.dk false (zipK asV S), .dk false (zipK asV S)]
  obtain ⟨M1, hM1⟩ : ∃ X, M ++ [Cell.dk false (zipK asV S), .dk false (zipK asV S)] = X := ⟨_, rfl⟩
  have g1 : M1[M.length + 1]? = some (.dk false (zipK asV S)) := by rw [← hM1]; exact app_get1 rfl
  have m1l : M1.length = M.length + 2 := by rw [← hM1]; simp
  have old1 : ∀ j, j < M.length → M1[j]? = M[j]? := fun j hj => by rw [← hM1, List.getElem?_append_left hj]
  rw [hM1] at as h1
  obtain ⟨we, k2⟩ := wrote_eq h1 hl (askR t S.length what)
  have sr := stone_rows_eq h
  have ol : oLenA [.ref (M.length + 1)] M1 = .ok (.int (S.length : Int)) M1 := by simp only [oLenA, dLen, g1, zipK_len]
  have rd : rwD (askR t S.length what) = .tup [.str askN, .int t, .int (S.length : Int), what] := rfl
  rw [rd] at we
  obtain ⟨kp, op, hk⟩ := h.ker
  obtain ⟨kp1, op1, hk1⟩ := h1.ker
  have i0 := insOf_at hk
  have i1 := insOf_at hk1
  have ls0 := lk_kn_stone plan (.str house) (.int 6) (.int (ev : Int)) (.ref st) (.ref lt) kp op
  have lw1 := lk_kn_wrote plan (.str house) (.int 6) (.int (ev : Int)) (.ref st) (.ref lt) kp1 op1
  refine ⟨wroteM M1 st w l (askR t S.length what), runB_rt (N := 4) (?_ : B_Kernel_asked [some (.ref k), some (.int (t : Int)), some what, none] M = _), k2, by rw [wroteM_len]; omega, fun j hj a b => by rw [wroteM_old a b, old1 j hj]⟩
  obtain ⟨RD, hRD⟩ : ∃ X, D.tup (l.map rwD) = X := ⟨_, rfl⟩
  rw [hRD] at sr as
  push_cast [B_Kernel_asked, mMth_eq, mFld_eq, i0, ls0, insOf_at h.sto, lk_sn_rows, sr, as, ol, i1, lw1, we]
theorem led_loop (x0 x1 : Option D) (M : Mem) (j : Nat) : ∀ (E : List Pu) (o : Nat) (x3 : Option D) (x : Pu), o ≤ j → E[j - o]? = some x →
    forL (fun _ => True) (gN 3) L_Kernel_led_0 ((E.zipIdx o).map tblR) [x0, x1, some (.tup [.int (j : Int), .int 0]), x3] M = .ok (.rt (tblR (x, j))) M
  | [], o, x3, x, _, h => by simp at h
  | e :: E, o, x3, x, ho, h => by
    rw [List.zipIdx_cons, List.map_cons]
    have r0 : ∀ M, oIx (tblR (e, o)) (.int 0) M = .ok (.tup [.int (o : Int), .int 0]) M := fun _ => rfl
    have q : ∀ M, oEq false (.tup [.int (o : Int), .int 0]) (.tup [.int (j : Int), .int 0]) M = .ok (.bl (decide (o = j))) M := fun M => by
      by_cases c : o = j
      · subst c; rw [decide_eq_true rfl]; exact oEq_exT (by rfl) (by simp [dpD, dpL])
      · rw [decide_eq_false c]
        exact oEq_exF (by rfl) (by rfl) (by simp [dpD, dpL]) (fun z => by injection z with z; injection z with z; injection z with z; omega)
    rw [forL_cons, gN_eq, R.bind_ok]
    have se : ([x0, x1, some (.tup [.int (j : Int), .int 0]), x3] : Fn.Env).set 3 (some (tblR (e, o))) = [x0, x1, some (.tup [.int (j : Int), .int 0]), some (tblR (e, o))] := rfl
    rw [se]
    by_cases c : o = j
    · subst c
      rw [Nat.sub_self] at h
      have h : some e = some x := h
      cases h
      rw [decide_eq_true rfl] at q
      have b : L_Kernel_led_0 [x0, x1, some (.tup [.int (o : Int), .int 0]), some (tblR (e, o))] M = .ok (.rt (tblR (e, o))) M := by
        obtain ⟨TD, hTD⟩ : ∃ X, tblR (e, o) = X := ⟨_, rfl⟩
        rw [hTD] at r0 ⊢
        push_cast [L_Kernel_led_0, r0, q]
      rw [b]; rfl
    · rw [decide_eq_false c] at q
      have b : L_Kernel_led_0 [x0, x1, some (.tup [.int (j : Int), .int 0]), some (tblR (e, o))] M = .ok (.nx [x0, x1, some (.tup [.int (j : Int), .int 0]), some (tblR (e, o))]) M := by
        obtain ⟨TD, hTD⟩ : ∃ X, tblR (e, o) = X := ⟨_, rfl⟩
        rw [hTD] at r0 ⊢
        push_cast [L_Kernel_led_0, r0, q]
      rw [b, R.bind_ok]
      simp only
      rw [show j - o = (j - (o + 1)) + 1 by omega, List.getElem?_cons_succ] at h
      exact led_loop x0 x1 M j E (o + 1) _ x (by omega) h
theorem led_eq (h : KAt ev M k st w lt plan house l firm L) (ok : ∀ r ∈ l, RwOk r) (po : ∀ r ∈ l, PutOk r) {who : Nm} (nd : ((putsOf l (house, who)).map puT).Nodup) (hl : (putsOf l (house, who)).length ≤ 800) {j : Nat} {x : Pu} (hx : (putsOf l (house, who))[j]? = some x) :
    g_Kernel_led [.ref k, .str who, .tup [.int (j : Int), .int 0]] M = .ok (tblR (x, j)) (settM M st w l.length) := by
  have s1 := stone_settle h
  have h1 := h.settle
  have te := table_eq (M := settM M st w l.length) ok po nd hl
  have sr := stone_rows_eq h1
  have lo := led_loop (some (.ref k)) (some (.str who)) (settM M st w l.length) j (putsOf l (house, who)) 0 none x (Nat.zero_le _) (by rw [Nat.sub_zero]; exact hx)
  obtain ⟨M1, hM1⟩ : ∃ X, settM M st w l.length = X := ⟨_, rfl⟩
  rw [hM1] at s1 h1 te sr lo ⊢
  obtain ⟨kp, op, hk⟩ := h.ker
  obtain ⟨kp1, op1, hk1⟩ := h1.ker
  have i0 := insOf_at hk
  have i1 := insOf_at hk1
  have ls0 := lk_kn_stone plan (.str house) (.int 6) (.int (ev : Int)) (.ref st) (.ref lt) kp op
  have ls1 := lk_kn_stone plan (.str house) (.int 6) (.int (ev : Int)) (.ref st) (.ref lt) kp1 op1
  have lh1 := lk_kn_house plan (.str house) (.int 6) (.int (ev : Int)) (.ref st) (.ref lt) kp1 op1
  have pe : D.tup [.str house, .str who] = ptD (house, who) := rfl
  refine runB_rt (N := 4) (?_ : B_Kernel_led [some (.ref k), some (.str who), some (.tup [.int (j : Int), .int 0]), none] M = _)
  obtain ⟨HD, hHD⟩ : ∃ X, D.tup [.int (j : Int), .int 0] = X := ⟨_, rfl⟩
  rw [hHD] at lo ⊢
  obtain ⟨RD, hRD⟩ : ∃ X, D.tup (l.map rwD) = X := ⟨_, rfl⟩
  rw [hRD] at te sr
  obtain ⟨TD, hTD⟩ : ∃ X, tblR (x, j) = X := ⟨_, rfl⟩
  rw [hTD] at lo ⊢
  push_cast [B_Kernel_led, mMth_eq, mFld_eq, i0, ls0, insOf_at h.sto, lk_sn_settle, s1, i1, ls1, insOf_at h1.sto, lk_sn_rows, sr, lh1, pe, te, mFor_eq, lo]
end
theorem app_own {M : Mem} {n : Nat} {a b : List D} (h : M[n]? = some (.lst a)) (hl : a.length + b.length ≤ 16777216) : oExtend (.ref n) [.lst b] M = .ok .non (M.set n (.lst (a ++ b))) := by
  rw [oExtM, h]
  show (if a.length + b.length ≤ 16777216 then _ else _) = _
  rw [if_pos hl]
def bengs (H : List Hu) : List Pt := H.flatMap fun h => (h.ps ++ h.sv.map (·.nm)).map fun n => (h.nm, n)
theorem be_turn {M : Mem} {T : List Pt} {h : Hu} (hl : T.length + (h.ps ++ h.sv.map (·.nm)).length ≤ 100000) (x0 x5 x6 x7 : Option D) :
    L_beings_2 [x0, some (.ref M.length), some (.str h.nm), some (strT h.ps), some (.tup (h.sv.map sv3)), x5, x6, x7] (M ++ [.lst (T.map ptD)]) = .ok (.nx [x0, some (.ref M.length), some (.str h.nm), some (strT h.ps), some (.tup (h.sv.map sv3)), x5, x6, x7]) (M ++ [.lst ((T ++ (h.ps ++ h.sv.map (·.nm)).map fun n => (h.nm, n)).map ptD)]) := by
  obtain ⟨m, hm⟩ : ∃ X, M ++ [Cell.lst (T.map ptD)] = X := ⟨_, rfl⟩
  have g0 : m[M.length]? = some (.lst (T.map ptD)) := by rw [← hm]; exact app_get0 rfl
  have c0 : ∀ x6, compL (fun _ => True) (gN 7) tsYes C_beings_0 [x0, some (.ref M.length), some (.str h.nm), some (strT h.ps), some (.tup (h.sv.map sv3)), x5, x6, none] (h.sv.map sv3) m = .ok ((h.sv.map (·.nm)).map .str) m := fun x6 => by
    have := compL_m (P := fun _ => True) (M := m) trivial (g := gN 7) (f := C_beings_0) (env := [x0, some (.ref M.length), some (.str h.nm), some (strT h.ps), some (.tup (h.sv.map sv3)), x5, x6, none]) sv3 (fun s => D.str s.nm) h.sv fun s _ => by
      have i0 : ∀ M, oIx (sv3 s) (.int 0) M = .ok (.str s.nm) M := fun _ => rfl
      refine ⟨_, rfl, ?_⟩
      obtain ⟨SD, hSD⟩ : ∃ X, sv3 s = X := ⟨_, rfl⟩
      rw [hSD] at i0 ⊢
      simp only [List.set_cons_succ, List.set_cons_zero]
      push_cast [C_beings_0, i0]
    rw [this, List.map_map]
    rfl
  have c1 := compL_m (P := fun _ => True) (M := m) trivial (g := gN 6) (f := C_beings_1) (env := [x0, some (.ref M.length), some (.str h.nm), some (strT h.ps), some (.tup (h.sv.map sv3)), x5, none, x7]) D.str (fun n => ptD (h.nm, n)) (h.ps ++ h.sv.map (·.nm)) fun n _ => by
    refine ⟨[x0, some (.ref M.length), some (.str h.nm), some (strT h.ps), some (.tup (h.sv.map sv3)), x5, some (.str n), x7], rfl, ?_⟩
    obtain ⟨A, hA⟩ : ∃ X, strT h.ps = X := ⟨_, rfl⟩
    obtain ⟨B, hB⟩ : ∃ X, D.tup (h.sv.map sv3) = X := ⟨_, rfl⟩
    rw [hA, hB]
    push_cast [C_beings_1]
    rfl
  rw [List.length_append, List.length_map] at hl
  have ol : oList false [strT h.ps] m = .ok (.lst (h.ps.map .str)) m := rfl
  have ad : oAdd false (.lst (h.ps.map .str)) (.lst ((h.sv.map (·.nm)).map .str)) m = .ok (.lst ((h.ps ++ h.sv.map (·.nm)).map .str)) m := by
    show oAddL false (.lst (h.ps.map .str)) (.lst ((h.sv.map (·.nm)).map .str)) m = _
    simp only [oAddL, Fn.ownOf]
    rw [if_pos (by simp; omega), mkL_f, List.map_append]
  have ex := app_own (b := ((h.ps ++ h.sv.map (·.nm)).map fun n => ptD (h.nm, n))) g0 (by simp; omega)
  have fin : m.set M.length (.lst (T.map ptD ++ (h.ps ++ h.sv.map (·.nm)).map fun n => ptD (h.nm, n))) = M ++ [.lst ((T ++ (h.ps ++ h.sv.map (·.nm)).map fun n => (h.nm, n)).map ptD)] := by
    have e1 : (((h.ps ++ h.sv.map (·.nm)).map fun n => (h.nm, n)).map ptD) = (h.ps ++ h.sv.map (·.nm)).map fun n => ptD (h.nm, n) := by rw [List.map_map]; rfl
    rw [← hm, app_set0 rfl, ← e1, ← List.map_append]
  rw [fin] at ex
  have ty := tyOk_at g0
  have l1 : (h.sv.map sv3).length < 16777216 := by rw [List.length_map]; omega
  have l2 : ((h.ps ++ h.sv.map (·.nm)).map D.str).length < 16777216 := by simp; omega
  have w1 : wipeE [x0, some (.ref M.length), some (.str h.nm), some (strT h.ps), some (.tup (h.sv.map sv3)), x5, x6, x7] [7] = [x0, some (.ref M.length), some (.str h.nm), some (strT h.ps), some (.tup (h.sv.map sv3)), x5, x6, none] := rfl
  have w2 : wipeE [x0, some (.ref M.length), some (.str h.nm), some (strT h.ps), some (.tup (h.sv.map sv3)), x5, x6, x7] [6] = [x0, some (.ref M.length), some (.str h.nm), some (strT h.ps), some (.tup (h.sv.map sv3)), x5, none, x7] := rfl
  have c0 := c0 x6
  obtain ⟨PS, hPS⟩ : ∃ X, strT h.ps = X := ⟨_, rfl⟩
  rw [hPS] at c0 c1 ol w1 w2 ⊢
  obtain ⟨SV, hSV⟩ : ∃ X, h.sv.map sv3 = X := ⟨_, rfl⟩
  rw [hSV] at c0 c1 l1 w1 w2 ⊢
  rw [hm]
  push_cast [L_beings_2, ty, ol, mLc_eq, if_pos l1, w1, c0, ad, if_pos l2, w2, c1, ex]
theorem beings_eq {H : List Hu} {Q : List Rt} (hl : (bengs H).length ≤ 50000) (M : Mem) : g_beings [planD H Q] M = .ok (.tup ((bengs H).map ptD)) M := by
  have bt : ∀ k, (bengs (H.take k)).length ≤ (bengs H).length := fun k => by
    have : bengs H = bengs (H.take k) ++ bengs (H.drop k) := by unfold bengs; rw [← List.flatMap_append, List.take_append_drop]
    rw [this, List.length_append]; omega
  obtain ⟨env', m', e, y2, y3, y4, y5, y6, y7, rfl, rfl⟩ := forL_inv (g := gT 4 (gsCons (gN 2) (gsCons (gN 3) (gsCons (gN 4) (gsCons (gN 5) gsNil))))) (body := L_beings_2) (fun k env m => ∃ (y2 y3 y4 y5 y6 y7 : Option D), env = [some (planD H Q), some (.ref M.length), y2, y3, y4, y5, y6, y7] ∧ m = M ++ [.lst ((bengs (H.take k)).map ptD)]) (H.map huD) 0 [some (planD H Q), some (.ref M.length), none, none, none, none, none, none] (M ++ [.lst []]) ⟨_, _, _, _, _, _, rfl, rfl⟩ (by
    rintro k d env m hk ⟨y2, y3, y4, y5, y6, y7, rfl, rfl⟩
    rw [Nat.zero_add]
    rw [List.getElem?_map] at hk
    obtain ⟨h, hh, rfl⟩ := Option.map_eq_some_iff.mp hk
    have ht : H.take (k + 1) = H.take k ++ [h] := by rw [List.take_succ, hh]; rfl
    have hb : bengs (H.take (k + 1)) = bengs (H.take k) ++ (h.ps ++ h.sv.map (·.nm)).map fun n => (h.nm, n) := by
      rw [ht]; unfold bengs; rw [List.flatMap_append]; simp
    have l1 := bt (k + 1)
    rw [hb, List.length_append, List.length_map] at l1
    have tu := be_turn (M := M) (T := bengs (H.take k)) (h := h) (by omega) (some (planD H Q)) (some (strT h.th)) y6 y7
    rw [hb]
    refine ⟨_, _, ?_, some (.str h.nm), some (strT h.ps), some (.tup (h.sv.map sv3)), some (strT h.th), y6, y7, rfl, rfl⟩
    rw [hu_tgt]
    exact tu)
  rw [List.length_map, Nat.zero_add, List.take_length] at e
  have pl : PlL 1 ((bengs H).map ptD) := fun d hd => by
    obtain ⟨p, _, rfl⟩ := List.mem_map.mp hd
    exact Pl.tup (PlL.cons (Pl.str _) (PlL.cons (Pl.str _) PlL.nil))
  obtain ⟨p, hp, _⟩ := Pl.tup pl
  refine gc_val0 (junk := [.lst ((bengs H).map ptD)]) (runB_rt (N := 8) (?_ : B_beings [some (planD H Q), none, none, none, none, none, none, none] M = _)) hp
  have p0 : ∀ M, oIx (planD H Q) (.int 0) M = .ok (.tup (H.map huD)) M := fun _ => rfl
  have ot : oTuple [.ref M.length] (M ++ [.lst ((bengs H).map ptD)]) = .ok (.tup ((bengs H).map ptD)) (M ++ [.lst ((bengs H).map ptD)]) := by rw [oTuple_ref, show (M ++ [Cell.lst ((bengs H).map ptD)])[M.length]? = some (.lst ((bengs H).map ptD)) from app_get0 rfl]
  obtain ⟨PD, hPD⟩ : ∃ X, planD H Q = X := ⟨_, rfl⟩
  rw [hPD] at p0 e ⊢
  obtain ⟨BD, hBD⟩ : ∃ X, (bengs H).map ptD = X := ⟨_, rfl⟩
  rw [hBD] at ot e ⊢
  push_cast [B_beings, p0, mFor_eq, e, ot]
section
variable {ev : Nat} {M : Mem} {k st w lt : Nat} {house : Nm} {l : List Rw5} {firm : Nat} {L : List D}
/-- what stands of the rows of a house that asks -/
structure RsOk (l : List Rw5) (house who : Nm) : Prop where
  ok : ∀ r ∈ l, RwOk r
  po : ∀ r ∈ l, PutOk r
  ask : AskL l
  nd : ((putsOf l (house, who)).map puT).Nodup
  np : (putsOf l (house, who)).length ≤ 800
  len : l.length ≤ 4000
theorem tb6 (x : Pu) (j : Nat) : tblR (x, j) = .tup [.tup [.int (j : Int), .int 0], .str x.h, .int x.n, ptD x.pl, strT x.rs, .int x.far] := rfl
theorem hand_eq {H : List Hu} {Q : List Rt} (h : KAt ev M k st w lt (planD H Q) house l firm L) {who : Nm} (rs : RsOk l house who) (hb : (bengs H).length ≤ 50000) {j j2 : Nat} {x y : Pu} (hx : (putsOf l (house, who))[j]? = some x) (hy : (putsOf l (house, who))[j2]? = some y) (hg : [103, 105, 118, 101] ∈ y.rs) (hy2 : y.pl ∈ bengs H) {rights : List Nm} (hr : ∀ r ∈ rights, r ∈ x.rs) {far : Nat} (hf : far < x.far) (t : Nat) :
    ∃ M', g_Kernel_hand [.ref k, .str who, .tup [.int (j : Int), .int 0], .tup [.int (j2 : Int), .int 0], strT rights, .int far, .int t] M = .ok (.int ((asksL l).length : Int)) M' ∧ KAt ev M' k st w lt (planD H Q) house (l ++ [askR t (asksL l).length (.tup [.str [104, 97, 110, 100], ptD (house, who), .str x.h, .int x.n, strT rights, .int far, .int y.n, ptD y.pl])]) (l.length + 1) L ∧ M.length ≤ M'.length ∧ ∀ i, i < M.length → i ≠ st → i ≠ w → M'[i]? = M[i]? := by
  have e1 := led_eq h rs.ok rs.po rs.nd rs.np hx
  have h1 := h.settle
  have e2 := led_eq h1 rs.ok rs.po rs.nd rs.np hy
  have h2 := h1.settle
  have old2 : ∀ i, i ≠ st → (settM (settM M st w l.length) st w l.length)[i]? = M[i]? := fun i hi => by rw [settM_old hi, settM_old hi]
  have m2l : (settM (settM M st w l.length) st w l.length).length = M.length := by rw [settM_len, settM_len]
  obtain ⟨M1, hM1⟩ : ∃ X, settM M st w l.length = X := ⟨_, rfl⟩
  rw [hM1] at e1 h1 e2 h2 old2 m2l
  obtain ⟨M2, hM2⟩ : ∃ X, settM M1 st w l.length = X := ⟨_, rfl⟩
  rw [hM2] at e2 h2 old2 m2l
  have be := beings_eq (Q := Q) hb M2
  obtain ⟨M3, e3, k3, le3, old3⟩ := asked_eq h2 rs.ask rs.ok (by have := rs.len; omega) t (.tup [.str [104, 97, 110, 100], ptD (house, who), .str x.h, .int x.n, strT rights, .int far, .int y.n, ptD y.pl])
  have gi : ∀ M, oInF true (.str [103, 105, 118, 101]) (strT y.rs) M = .ok (.bl false) M := fun M => by rw [oInF_strs (F := y.rs) rfl]; simp [hg]
  have bi : ∀ M, oInD true (ptD y.pl) (.tup ((bengs H).map ptD)) M = .ok (.bl false) M := fun M => by
    have ex : exL ((bengs H).map ptD) = true := by
      have : ∀ l : List Pt, exL (l.map ptD) = true := fun l => by
        induction l with
        | nil => rfl
        | cons p l ih => rw [List.map_cons]; simp only [exL, ih, Bool.and_true]; rfl
      exact this _
    rw [oInD_tup ex rfl (by simp [ptD, dpD, dpL])]
    simp only [Bool.true_bne]
    congr 2
    simp only [Bool.not_eq_false', decide_eq_true_eq]
    exact List.mem_map.mpr ⟨_, hy2, rfl⟩
  have ge : ∀ M, oGe (.int (far : Int)) (.int (x.far : Int)) M = .ok (.bl false) M := fun M => by
    rw [oGe_int]; congr 2; rw [decide_eq_false_iff_not]; omega
  obtain ⟨env', m', ef, y19, rfl, hm'⟩ := forL_inv (g := gN 19) (body := L_Kernel_hand_0) (fun i env m => ∃ (y19 : Option D), env = [some (.ref k), some (.str who), some (.tup [.int (j : Int), .int 0]), some (.tup [.int (j2 : Int), .int 0]), some (strT rights), some (.int (far : Int)), some (.int (t : Int)), some (.tup [.int (j : Int), .int 0]), some (.str x.h), some (.int x.n), some (ptD x.pl), some (strT x.rs), some (.int x.far), some (.tup [.int (j2 : Int), .int 0]), some (.str y.h), some (.int y.n), some (ptD y.pl), some (strT y.rs), some (.int y.far), y19] ∧ m = M2) (rights.map .str) 0 [some (.ref k), some (.str who), some (.tup [.int (j : Int), .int 0]), some (.tup [.int (j2 : Int), .int 0]), some (strT rights), some (.int (far : Int)), some (.int (t : Int)), some (.tup [.int (j : Int), .int 0]), some (.str x.h), some (.int x.n), some (ptD x.pl), some (strT x.rs), some (.int x.far), some (.tup [.int (j2 : Int), .int 0]), some (.str y.h), some (.int y.n), some (ptD y.pl), some (strT y.rs), some (.int y.far), none] M2 ⟨_, rfl, rfl⟩ (by
    rintro i d env m hi ⟨y19, rfl, rfl⟩
    rw [List.getElem?_map] at hi
    obtain ⟨r, hr1, rfl⟩ := Option.map_eq_some_iff.mp hi
    have hrx := hr r (List.mem_of_getElem? hr1)
    have ri : ∀ M, oInF true (.str r) (strT x.rs) M = .ok (.bl false) M := fun M => by rw [oInF_strs (F := x.rs) rfl]; simp [hrx]
    refine ⟨_, m, ?_, some (.str r), rfl, rfl⟩
    rw [gN_eq, R.bind_ok]
    simp only [List.set_cons_succ, List.set_cons_zero]
    obtain ⟨A1, hA1⟩ : ∃ X, strT x.rs = X := ⟨_, rfl⟩
    rw [hA1] at ri ⊢
    push_cast [L_Kernel_hand_0, ri])
  rw [hm'] at ef
  obtain ⟨kp, op, hk⟩ := h.ker
  obtain ⟨kp1, op1, hk1⟩ := h1.ker
  obtain ⟨kp2, op2, hk2⟩ := h2.ker
  have i0 := insOf_at hk
  have i1 := insOf_at hk1
  have i2 := insOf_at hk2
  have ld0 := lk_kn_led (planD H Q) (.str house) (.int 6) (.int (ev : Int)) (.ref st) (.ref lt) kp op
  have ld1 := lk_kn_led (planD H Q) (.str house) (.int 6) (.int (ev : Int)) (.ref st) (.ref lt) kp1 op1
  have lp2 := lk_kn_plan (planD H Q) (.str house) (.int 6) (.int (ev : Int)) (.ref st) (.ref lt) kp2 op2
  have la2 := lk_kn_asked (planD H Q) (.str house) (.int 6) (.int (ev : Int)) (.ref st) (.ref lt) kp2 op2
  have lh2 := lk_kn_house (planD H Q) (.str house) (.int 6) (.int (ev : Int)) (.ref st) (.ref lt) kp2 op2
  have pe : D.tup [.str house, .str who] = ptD (house, who) := rfl
  refine ⟨M3, runB_rt (N := 20) (?_ : B_Kernel_hand [some (.ref k), some (.str who), some (.tup [.int (j : Int), .int 0]), some (.tup [.int (j2 : Int), .int 0]), some (strT rights), some (.int (far : Int)), some (.int (t : Int)), none, none, none, none, none, none, none, none, none, none, none, none, none] M = _), k3, by omega, fun i hi a b => by rw [old3 i (by omega) a b, old2 i a]⟩
  rw [tb6] at e1 e2
  have sr : srcOf M2 (strT rights) = some ⟨rights.map .str, fun _ => True⟩ := rfl
  obtain ⟨HD, hHD⟩ : ∃ X, D.tup [.int (j : Int), .int 0] = X := ⟨_, rfl⟩
  obtain ⟨HD2, hHD2⟩ : ∃ X, D.tup [.int (j2 : Int), .int 0] = X := ⟨_, rfl⟩
  rw [hHD] at e1 ef ⊢
  rw [hHD2] at e2 ef ⊢
  obtain ⟨PD, hPD⟩ : ∃ X, planD H Q = X := ⟨_, rfl⟩
  rw [hPD] at lp2 la2 lh2 ld0 ld1 be i0 i1 i2
  obtain ⟨XP, hXP⟩ : ∃ X, ptD x.pl = X := ⟨_, rfl⟩
  rw [hXP] at e1 ef
  obtain ⟨YP, hYP⟩ : ∃ X, ptD y.pl = X := ⟨_, rfl⟩
  rw [hYP] at e2 bi e3 ef
  obtain ⟨XR, hXR⟩ : ∃ X, strT x.rs = X := ⟨_, rfl⟩
  rw [hXR] at e1 ef
  obtain ⟨YR, hYR⟩ : ∃ X, strT y.rs = X := ⟨_, rfl⟩
  rw [hYR] at e2 gi ef
  obtain ⟨RR, hRR⟩ : ∃ X, strT rights = X := ⟨_, rfl⟩
  rw [hRR] at e3 ef sr ⊢
  push_cast [B_Kernel_hand, mMth_eq, mFld_eq, i0, ld0, e1, i1, ld1, e2, gi, i2, lp2, be, bi, mFor_eq, sr, ef, ge, la2, lh2, pe, e3]
theorem cut_eq {plan : D} (h : KAt ev M k st w lt plan house l firm L) {who : Nm} (rs : RsOk l house who) {j : Nat} {x : Pu} (hx : (putsOf l (house, who))[j]? = some x) (n t : Nat) :
    ∃ M', g_Kernel_cut [.ref k, .str who, .tup [.int (j : Int), .int 0], .int n, .int t] M = .ok (.int ((asksL l).length : Int)) M' ∧ KAt ev M' k st w lt plan house (l ++ [askR t (asksL l).length (.tup [.str [99, 117, 116], ptD (house, who), .str x.h, .int x.n, .int n])]) (l.length + 1) L ∧ M.length ≤ M'.length ∧ ∀ i, i < M.length → i ≠ st → i ≠ w → M'[i]? = M[i]? := by
  have e1 := led_eq h rs.ok rs.po rs.nd rs.np hx
  have h1 := h.settle
  have old1 : ∀ i, i ≠ st → (settM M st w l.length)[i]? = M[i]? := fun i hi => settM_old hi
  have m1l : (settM M st w l.length).length = M.length := settM_len
  obtain ⟨M1, hM1⟩ : ∃ X, settM M st w l.length = X := ⟨_, rfl⟩
  rw [hM1] at e1 h1 old1 m1l
  obtain ⟨M3, e3, k3, le3, old3⟩ := asked_eq h1 rs.ask rs.ok (by have := rs.len; omega) t (.tup [.str [99, 117, 116], ptD (house, who), .str x.h, .int x.n, .int n])
  obtain ⟨kp, op, hk⟩ := h.ker
  obtain ⟨kp1, op1, hk1⟩ := h1.ker
  have i0 := insOf_at hk
  have i1 := insOf_at hk1
  have ld0 := lk_kn_led plan (.str house) (.int 6) (.int (ev : Int)) (.ref st) (.ref lt) kp op
  have la1 := lk_kn_asked plan (.str house) (.int 6) (.int (ev : Int)) (.ref st) (.ref lt) kp1 op1
  have lh1 := lk_kn_house plan (.str house) (.int 6) (.int (ev : Int)) (.ref st) (.ref lt) kp1 op1
  have pe : D.tup [.str house, .str who] = ptD (house, who) := rfl
  refine ⟨M3, runB_rt (N := 11) (?_ : B_Kernel_cut [some (.ref k), some (.str who), some (.tup [.int (j : Int), .int 0]), some (.int (n : Int)), some (.int (t : Int)), none, none, none, none, none, none] M = _), k3, by omega, fun i hi a b => by rw [old3 i (by omega) a b, old1 i a]⟩
  rw [tb6] at e1
  obtain ⟨HD, hHD⟩ : ∃ X, D.tup [.int (j : Int), .int 0] = X := ⟨_, rfl⟩
  rw [hHD] at e1 ⊢
  push_cast [B_Kernel_cut, mMth_eq, mFld_eq, i0, ld0, e1, i1, la1, lh1, pe, e3]
theorem kcall_eq {H : List Hu} {Q : List Rt} (h : KAt ev M k st w lt (planD H Q) house l firm L) {who : Nm} (rs : RsOk l house who) {j : Nat} {x : Pu} (hx : (putsOf l (house, who))[j]? = some x) (hg : [99, 97, 108, 108] ∈ x.rs) {s : Sv} (hs : servAt H x.pl = some s) (word : Nm) (what : D) (t : Nat) :
    ∃ M', g_Kernel_call [.ref k, .str who, .tup [.int (j : Int), .int 0], .str word, what, .int t] M = .ok (.int ((asksL l).length : Int)) M' ∧ KAt ev M' k st w lt (planD H Q) house (l ++ [askR t (asksL l).length (.tup [.str [99, 97, 108, 108], ptD (house, who), .int x.n, ptD x.pl, .str word, what])]) (l.length + 1) L ∧ M.length ≤ M'.length ∧ ∀ i, i < M.length → i ≠ st → i ≠ w → M'[i]? = M[i]? := by
  have e1 := led_eq h rs.ok rs.po rs.nd rs.np hx
  have h1 := h.settle
  have old1 : ∀ i, i ≠ st → (settM M st w l.length)[i]? = M[i]? := fun i hi => settM_old hi
  have m1l : (settM M st w l.length).length = M.length := settM_len
  obtain ⟨M1, hM1⟩ : ∃ X, settM M st w l.length = X := ⟨_, rfl⟩
  rw [hM1] at e1 h1 old1 m1l
  obtain ⟨M3, e3, k3, le3, old3⟩ := asked_eq h1 rs.ask rs.ok (by have := rs.len; omega) t (.tup [.str [99, 97, 108, 108], ptD (house, who), .int x.n, ptD x.pl, .str word, what])
  have se := servant_at_eq H Q x.pl M1
  rw [hs] at se
  simp only at se
  have ci : ∀ M, oInF true (.str [99, 97, 108, 108]) (strT x.rs) M = .ok (.bl false) M := fun M => by rw [oInF_strs (F := x.rs) rfl]; simp [hg]
  have sn : ∀ M, oIsN false (sv3 s) M = .ok (.bl false) M := fun _ => rfl
  obtain ⟨kp, op, hk⟩ := h.ker
  obtain ⟨kp1, op1, hk1⟩ := h1.ker
  have i0 := insOf_at hk
  have i1 := insOf_at hk1
  have ld0 := lk_kn_led (planD H Q) (.str house) (.int 6) (.int (ev : Int)) (.ref st) (.ref lt) kp op
  have lp1 := lk_kn_plan (planD H Q) (.str house) (.int 6) (.int (ev : Int)) (.ref st) (.ref lt) kp1 op1
  have la1 := lk_kn_asked (planD H Q) (.str house) (.int 6) (.int (ev : Int)) (.ref st) (.ref lt) kp1 op1
  have lh1 := lk_kn_house (planD H Q) (.str house) (.int 6) (.int (ev : Int)) (.ref st) (.ref lt) kp1 op1
  have pe : D.tup [.str house, .str who] = ptD (house, who) := rfl
  refine ⟨M3, runB_rt (N := 12) (?_ : B_Kernel_call [some (.ref k), some (.str who), some (.tup [.int (j : Int), .int 0]), some (.str word), some what, some (.int (t : Int)), none, none, none, none, none, none] M = _), k3, by omega, fun i hi a b => by rw [old3 i (by omega) a b, old1 i a]⟩
  rw [tb6] at e1
  obtain ⟨HD, hHD⟩ : ∃ X, D.tup [.int (j : Int), .int 0] = X := ⟨_, rfl⟩
  rw [hHD] at e1 ⊢
  obtain ⟨PD, hPD⟩ : ∃ X, planD H Q = X := ⟨_, rfl⟩
  rw [hPD] at lp1 la1 lh1 ld0 se i0 i1
  obtain ⟨XP, hXP⟩ : ∃ X, ptD x.pl = X := ⟨_, rfl⟩
  rw [hXP] at e1 se e3
  obtain ⟨XR, hXR⟩ : ∃ X, strT x.rs = X := ⟨_, rfl⟩
  rw [hXR] at e1 ci
  obtain ⟨SD, hSD⟩ : ∃ X, sv3 s = X := ⟨_, rfl⟩
  rw [hSD] at se sn
  push_cast [B_Kernel_call, mMth_eq, mFld_eq, i0, ld0, e1, ci, i1, lp1, se, sn, la1, lh1, pe, e3]
end
structure KO (ev : Nat) (M : Mem) (k st w lt op : Nat) (plan : D) (house : Nm) (l : List Rw5) (firm : Nat) (L : List D) (okv : List (KK × D)) : Prop where
  ka : KAt ev M k st w lt plan house l firm L
  at_ : ∃ kp, M[k]? = some (.ins 3 (knF plan (.str house) (.int 6) (.int (ev : Int)) (.ref st) (.ref lt) kp (.ref op)))
  opn : M[op]? = some (.dk false okv)
section
variable {ev : Nat} {M : Mem} {k st w lt op : Nat} {plan : D} {house : Nm} {l : List Rw5} {firm : Nat} {L : List D} {okv : List (KK × D)}
theorem KO.nes (h : KO ev M k st w lt op plan house l firm L okv) : op ≠ k ∧ op ≠ st ∧ op ≠ w ∧ op ≠ lt := by
  obtain ⟨kp, hk⟩ := h.at_
  refine ⟨fun e => ?_, fun e => ?_, fun e => ?_, fun e => ?_⟩
  · have := h.opn; rw [e, hk] at this; cases this
  · have := h.opn; rw [e, h.ka.sto] at this; cases this
  · have := h.opn; rw [e, h.ka.wri] at this; cases this
  · have := h.opn; rw [e, h.ka.let_] at this; cases this
theorem KO.go (h : KO ev M k st w lt op plan house l firm L okv) {M' : Mem} {l' : List Rw5} {firm' : Nat} {L' : List D} (k' : KAt ev M' k st w lt plan house l' firm' L') (old : ∀ i, i < M.length → i ≠ st → i ≠ w → M'[i]? = M[i]?) : KO ev M' k st w lt op plan house l' firm' L' okv := by
  obtain ⟨n1, n2, n3, n4⟩ := h.nes
  obtain ⟨m1, m2, _⟩ := h.ka.nes
  obtain ⟨kp, hk⟩ := h.at_
  exact ⟨k', ⟨kp, by rw [old k (lt_of_get hk) m1 m2]; exact hk⟩, by rw [old op (lt_of_get h.opn) n2 n3]; exact h.opn⟩
theorem take_pre (h : KO ev M k st w lt op plan house l firm L okv) (ha : AskL l) (ok : ∀ r ∈ l, RwOk r) (hl : l.length ≤ 4000) :
    ∃ M1, M1 = M ++ [Cell.dk false (zipK asV (asksL l)), .dk false (zipK asV (asksL l))] ∧ g_asks [.tup (l.map rwD)] M = .ok (.ref (M.length + 1)) M1 ∧ M1[M.length + 1]? = some (.dk false (zipK asV (asksL l))) ∧ KO ev M1 k st w lt op plan house l firm L okv ∧ M1.length = M.length + 2 ∧ ∀ i, i < M.length → M1[i]? = M[i]? := by
  have as := asks_eq (M := M) ha ok (by omega)
  refine ⟨_, rfl, as, app_get1 rfl, ?_, by simp, fun i hi => List.getElem?_append_left hi⟩
  exact h.go (h.ka.app _) fun i hi _ _ => List.getElem?_append_left hi
theorem said_tg (word : Nm) (a : Ak) (more : List D) (hm : more.length ≤ 10) (env : Fn.Env) (M : Mem) : gS 3 2 (gsCons (gN 4) (gsCons (gT 2 (gsCons (gN 5) (gsCons (gN 6) gsNil))) (gsCons (gN 7) gsNil))) (.tup (.str word :: askD a :: more)) env M = .ok ((((env.set 4 (some (.str word))).set 5 (some (.str a.1))).set 6 (some (.int (a.2 : Int)))).set 7 (some (.lst more))) M := by
  have d1 : (3 ≤ (D.str word :: askD a :: more).length + 1 ∧ (D.str word :: askD a :: more).length ≤ 16384) := by simp; omega
  have tk : (List.drop 2 (D.str word :: askD a :: more)).take ((D.str word :: askD a :: more).length + 1 - 3) = more := List.take_of_length_le (by simp)
  have dr : (List.drop 2 (D.str word :: askD a :: more)).drop ((D.str word :: askD a :: more).length + 1 - 3) = [] := List.drop_of_length_le (by simp)
  have t2 : (D.str word :: askD a :: more).take 2 = [D.str word, askD a] := rfl
  rw [gS_eq, if_pos d1, tk, dr, t2]
  rfl
end
theorem kn_every_plan : (("every" : Str) == "plan") = false := by decide +kernel
theorem kn_every_house : (("every" : Str) == "house") = false := by decide +kernel
theorem kn_every_lease : (("every" : Str) == "lease") = false := by decide +kernel
theorem kn_letters_plan : (("letters" : Str) == "plan") = false := by decide +kernel
theorem kn_letters_house : (("letters" : Str) == "house") = false := by decide +kernel
theorem kn_letters_lease : (("letters" : Str) == "lease") = false := by decide +kernel
theorem kn_letters_every : (("letters" : Str) == "every") = false := by decide +kernel
theorem kn_letters_stone : (("letters" : Str) == "stone") = false := by decide +kernel
section
variable (x0 x1 x2 x3 x4 x5 x6 x7 : D)
theorem lk_kn_every : (knF x0 x1 x2 x3 x4 x5 x6 x7).lookup ("every" : Str) = some x3 := by simp only [knF, List.lookup, kn_every_plan, kn_every_house, kn_every_lease, beq_self_eq_true]
theorem lk_kn_letters : (knF x0 x1 x2 x3 x4 x5 x6 x7).lookup ("letters" : Str) = some x5 := by simp only [knF, List.lookup, kn_letters_plan, kn_letters_house, kn_letters_lease, kn_letters_every, kn_letters_stone, beq_self_eq_true]
theorem knF_len : ((knF x0 x1 x2 x3 x4 x5 x6 x7).length < 1000) = True := by simp [knF]
theorem put_kn_letters (v : D) : putD "letters" v (knF x0 x1 x2 x3 x4 x5 x6 x7) = knF x0 x1 x2 x3 x4 v x6 x7 := by simp only [knF, putD, kn_nplan_letters, kn_nhouse_letters, kn_nlease_letters, kn_nevery_letters, kn_nstone_letters, if_false, if_true]
theorem put_kn_kept (v : D) : putD "kept" v (knF x0 x1 x2 x3 x4 x5 x6 x7) = knF x0 x1 x2 x3 x4 x5 v x7 := by simp only [knF, putD, kn_nplan_kept, kn_nhouse_kept, kn_nlease_kept, kn_nevery_kept, kn_nstone_kept, kn_nletters_kept, if_false, if_true]
theorem lk_kn_say : (knF x0 x1 x2 x3 x4 x5 x6 x7).lookup ("say" : Str) = none := by simp only [knF, List.lookup, show (("say" : Str) == "plan") = false from by decide +kernel, show (("say" : Str) == "house") = false from by decide +kernel, show (("say" : Str) == "lease") = false from by decide +kernel, show (("say" : Str) == "every") = false from by decide +kernel, show (("say" : Str) == "stone") = false from by decide +kernel, show (("say" : Str) == "letters") = false from by decide +kernel, show (("say" : Str) == "kept") = false from by decide +kernel, show (("say" : Str) == "opened") = false from by decide +kernel]
theorem lk_kn_waits : (knF x0 x1 x2 x3 x4 x5 x6 x7).lookup ("waits" : Str) = none := by simp only [knF, List.lookup, show (("waits" : Str) == "plan") = false from by decide +kernel, show (("waits" : Str) == "house") = false from by decide +kernel, show (("waits" : Str) == "lease") = false from by decide +kernel, show (("waits" : Str) == "every") = false from by decide +kernel, show (("waits" : Str) == "stone") = false from by decide +kernel, show (("waits" : Str) == "letters") = false from by decide +kernel, show (("waits" : Str) == "kept") = false from by decide +kernel, show (("waits" : Str) == "opened") = false from by decide +kernel]
theorem lk_kn_settled : (knF x0 x1 x2 x3 x4 x5 x6 x7).lookup ("settled" : Str) = none := by simp only [knF, List.lookup, show (("settled" : Str) == "plan") = false from by decide +kernel, show (("settled" : Str) == "house") = false from by decide +kernel, show (("settled" : Str) == "lease") = false from by decide +kernel, show (("settled" : Str) == "every") = false from by decide +kernel, show (("settled" : Str) == "stone") = false from by decide +kernel, show (("settled" : Str) == "letters") = false from by decide +kernel, show (("settled" : Str) == "kept") = false from by decide +kernel, show (("settled" : Str) == "opened") = false from by decide +kernel]
theorem lk_kn_fall : (knF x0 x1 x2 x3 x4 x5 x6 x7).lookup ("fall" : Str) = none := by simp only [knF, List.lookup, show (("fall" : Str) == "plan") = false from by decide +kernel, show (("fall" : Str) == "house") = false from by decide +kernel, show (("fall" : Str) == "lease") = false from by decide +kernel, show (("fall" : Str) == "every") = false from by decide +kernel, show (("fall" : Str) == "stone") = false from by decide +kernel, show (("fall" : Str) == "letters") = false from by decide +kernel, show (("fall" : Str) == "kept") = false from by decide +kernel, show (("fall" : Str) == "opened") = false from by decide +kernel]
theorem lk_kn_leave : (knF x0 x1 x2 x3 x4 x5 x6 x7).lookup ("leave" : Str) = none := by simp only [knF, List.lookup, show (("leave" : Str) == "plan") = false from by decide +kernel, show (("leave" : Str) == "house") = false from by decide +kernel, show (("leave" : Str) == "lease") = false from by decide +kernel, show (("leave" : Str) == "every") = false from by decide +kernel, show (("leave" : Str) == "stone") = false from by decide +kernel, show (("leave" : Str) == "letters") = false from by decide +kernel, show (("leave" : Str) == "kept") = false from by decide +kernel, show (("leave" : Str) == "opened") = false from by decide +kernel]
theorem lk_kn_want : (knF x0 x1 x2 x3 x4 x5 x6 x7).lookup ("want" : Str) = none := by simp only [knF, List.lookup, show (("want" : Str) == "plan") = false from by decide +kernel, show (("want" : Str) == "house") = false from by decide +kernel, show (("want" : Str) == "lease") = false from by decide +kernel, show (("want" : Str) == "every") = false from by decide +kernel, show (("want" : Str) == "stone") = false from by decide +kernel, show (("want" : Str) == "letters") = false from by decide +kernel, show (("want" : Str) == "kept") = false from by decide +kernel, show (("want" : Str) == "opened") = false from by decide +kernel]
theorem lk_kn_write_ask : (knF x0 x1 x2 x3 x4 x5 x6 x7).lookup ("write_ask" : Str) = none := by simp only [knF, List.lookup, show (("write_ask" : Str) == "plan") = false from by decide +kernel, show (("write_ask" : Str) == "house") = false from by decide +kernel, show (("write_ask" : Str) == "lease") = false from by decide +kernel, show (("write_ask" : Str) == "every") = false from by decide +kernel, show (("write_ask" : Str) == "stone") = false from by decide +kernel, show (("write_ask" : Str) == "letters") = false from by decide +kernel, show (("write_ask" : Str) == "kept") = false from by decide +kernel, show (("write_ask" : Str) == "opened") = false from by decide +kernel]
end
theorem sn_firm_written : (("firm" : Str) == "written") = false := by decide +kernel
section
variable (x0 x1 : D)
theorem lk_sn_firm : (snF x0 x1).lookup ("firm" : Str) = some x1 := by simp only [snF, List.lookup, sn_firm_written, beq_self_eq_true]
theorem lk_sn_fall : (snF x0 x1).lookup ("fall" : Str) = none := by simp only [snF, List.lookup, show (("fall" : Str) == "written") = false from by decide +kernel, show (("fall" : Str) == "firm") = false from by decide +kernel]
theorem lk_sn_settled : (snF x0 x1).lookup ("settled" : Str) = none := by simp only [snF, List.lookup, show (("settled" : Str) == "written") = false from by decide +kernel, show (("settled" : Str) == "firm") = false from by decide +kernel]
end
section
variable {ev : Nat} {M : Mem} {k st w lt : Nat} {plan : D} {house : Nm} {l : List Rw5} {firm : Nat} {L : List D}
theorem KAt.say (h : KAt ev M k st w lt plan house l firm L) (d : D) : KAt ev (M.set lt (.lst (L ++ [d]))) k st w lt plan house l firm (L ++ [d]) := by
  obtain ⟨n1, n2, n3, n4, n5⟩ := h.nes
  obtain ⟨kp, op, h1⟩ := h.ker
  refine ⟨⟨kp, op, ?_⟩, ?_, ?_, ?_, h.ne⟩
  · rw [List.getElem?_set_ne (Ne.symm n3)]; exact h1
  · rw [List.getElem?_set_ne (Ne.symm n5)]; exact h.sto
  · rw [List.getElem?_set_ne (Ne.symm h.ne)]; exact h.wri
  · rw [List.getElem?_set_self h.lts.2.2.2]
theorem settled_eq (h : KAt ev M k st w lt plan house l firm L) : g_Kernel_settled [.ref k] M = .ok (.int (firm : Int)) M := by
  obtain ⟨kp, op, h1⟩ := h.ker
  have sr : g_Stone_settled [.ref st] M = .ok (.int (firm : Int)) M := by
    refine runB_rt (N := 1) (?_ : B_Stone_settled [some (.ref st)] M = _)
    push_cast [B_Stone_settled, mFld_eq, insOf_at h.sto, lk_sn_firm]
  refine runB_rt (N := 1) (?_ : B_Kernel_settled [some (.ref k)] M = _)
  push_cast [B_Kernel_settled, mMth_eq, mFld_eq, insOf_at h1, lk_kn_stone, insOf_at h.sto, lk_sn_settled, sr]
theorem waits_eq (h : KAt ev M k st w lt plan house l firm L) : g_Kernel_waits [.ref k] M = .ok (.int (L.length : Int)) M := by
  obtain ⟨kp, op, h1⟩ := h.ker
  refine runB_rt (N := 1) (?_ : B_Kernel_waits [some (.ref k)] M = _)
  push_cast [B_Kernel_waits, mFld_eq, insOf_at h1, lk_kn_letters, oLen_ref h.let_]
theorem say_eq (h : KAt ev M k st w lt plan house l firm L) (hL : L.length ≤ 100000) (to what : D) : g_Kernel_say [.ref k, to, what] M = .ok .non (M.set lt (.lst (L ++ [.tup [.str house, to, what]]))) := by
  obtain ⟨kp, op, h1⟩ := h.ker
  refine runB_nx (N := 3) (env := [some (.ref k), some to, some what]) ?_
  show B_Kernel_say [some (.ref k), some to, some what] M = _
  push_cast [B_Kernel_say, mFld_eq, insOf_at h1, lk_kn_letters, lk_kn_house, tyOk_at h.let_, oAppend_at h.let_ (show L.length < 16777216 by omega)]
end
inductive Wh where
  | hand (pe : Pt) (h : Nm) (n : Nat) (rs : List Nm) (far w : Nat) (to : Pt)
  | cut (pe : Pt) (h : Nm) (n m : Nat)
  | call (pe : Pt) (n : Nat) (pl : Pt) (word : Nm) (x : D)
abbrev handN : Nm := [104, 97, 110, 100]
abbrev makeN : Nm := [109, 97, 107, 101]
abbrev offerN : Nm := [111, 102, 102, 101, 114]
abbrev wcutN : Nm := [99, 117, 116]
abbrev wcallN : Nm := [99, 97, 108, 108]
def whL : Wh → List D
  | .hand pe h n rs far w to => [.str handN, ptD pe, .str h, .int n, strT rs, .int far, .int w, ptD to]
  | .cut pe h n m => [.str wcutN, ptD pe, .str h, .int n, .int m]
  | .call pe n pl word x => [.str wcallN, ptD pe, .int n, ptD pl, .str word, x]
def whD (x : Wh) : D := .tup (whL x)
/-- the letter: to whom, what -/
def letD (house : Nm) (c : Nat) (opened : Bool) : Wh → D
  | .hand pe h n rs far w to => if opened = true then .tup [.str house, .str h, .tup [.str makeN, askD (house, c), ptD pe, .int n, strT rs, .int far, ptD to]] else .tup [.str house, .str to.1, .tup [.str offerN, askD (house, c), ptD pe, .int w, ptD to]]
  | .cut pe h n m => .tup [.str house, .str h, .tup [.str wcutN, askD (house, c), ptD pe, .int n, .int m]]
  | .call pe n pl word x => .tup [.str house, .str pl.1, .tup [.str wcallN, askD (house, c), ptD pe, .int n, ptD pl, .str word, x]]
theorem gS_345 (a b : D) (rest : List D) (h : rest.length ≤ 100) {env : Fn.Env} {M : Mem} : gS 3 2 (gsCons (gN 3) (gsCons (gN 4) (gsCons (gN 5) gsNil))) (.tup (a :: b :: rest)) env M = .ok (((env.set 3 (some a)).set 4 (some b)).set 5 (some (.lst rest))) M := by
  rw [gS_eq, if_pos ⟨by simp, by simp; omega⟩]
  have e1 : (a :: b :: rest).take 2 = [a, b] := rfl
  have e2 : (a :: b :: rest).drop 2 = rest := rfl
  have e3 : (a :: b :: rest).length + 1 - 3 = rest.length := by simp
  rw [e1, e2, e3, List.take_length, List.drop_length]
  rfl
theorem runB_nx' {B : FS} {N : Nat} {ds : List D} {M m : Mem} (h : (B (envStart N ds) M).bind (fun fl m' => match fl with | .nx _ => R.ok () m' | _ => R.no) = .ok () m) : runB B N ds M = .ok .non m := by
  obtain ⟨fl, m1, e1, e2⟩ := R.bind_eq h
  cases fl with
  | nx env =>
    cases e2
    exact runB_nx e1
  | _ => cases e2
section
variable {ev : Nat} {M : Mem} {k st w lt op : Nat} {plan : D} {house : Nm} {l : List Rw5} {firm : Nat} {L : List D} {okv : List (KK × D)}
theorem write_ask_eq (h : KO ev M k st w lt op plan house l firm L okv) (hL : L.length ≤ 100000) (c : Nat) (x : Wh) : g_Kernel_write_ask [.ref k, .int c, whD x] M = .ok .non (M.set lt (.lst (L ++ [letD house c (gA okv (.inl (c : Int))).isSome x]))) := by
  obtain ⟨kp, h1⟩ := h.at_
  have io := insOf_at h1
  have hi : oInA false (.int (c : Int)) (.ref op) M = .ok (.bl (gA okv (.inl (c : Int))).isSome) M := by
    rw [oInA_dk h.opn]
    cases (gA okv (.inl (c : Int))).isSome <;> rfl
  have sy := fun to what => say_eq h.ka hL to what
  refine runB_nx' ?_
  cases x with
  | cut pe hh n m =>
    have q1 : ∀ M, oEq false (.str wcutN) (.str [99, 117, 116]) M = .ok (.bl true) M := fun M => by rw [str_eq]; rfl
    have sy' := sy (.str hh) (.tup [.str wcutN, askD (house, c), ptD pe, .int n, .int m])
    unfold askD at sy'
    show (B_Kernel_write_ask [some (.ref k), some (.int c), some (.tup [.str wcutN, ptD pe, .str hh, .int n, .int m]), none, none, none, none, none, none, none, none, none, none, none, none, none, none] M).bind _ = _
    simp only [letD, askD]
    generalize ptD pe = P0 at *
    have tg : ∀ (env : Fn.Env) (M : Mem), gS 3 2 (gsCons (gN 3) (gsCons (gN 4) (gsCons (gN 5) gsNil))) (.tup [.str wcutN, P0, .str hh, .int n, .int m]) env M = .ok (((env.set 3 (some (.str wcutN))).set 4 (some P0)).set 5 (some (.lst [.str hh, .int n, .int m]))) M := fun env M => gS_345 _ _ _ (by simp)
    push_cast [B_Kernel_write_ask, tg, gTB_lst, mFld_eq, io, lk_kn_house, q1, mMth_eq, lk_kn_say, sy']
    all_goals rfl
  | call pe n pl word x =>
    have q1 : ∀ M, oEq false (.str wcallN) (.str [99, 117, 116]) M = .ok (.bl false) M := fun M => by rw [str_eq]; rfl
    have q2 : ∀ M, oEq false (.str wcallN) (.str [99, 97, 108, 108]) M = .ok (.bl true) M := fun M => by rw [str_eq]; rfl
    have sy' := sy (.str pl.1) (.tup [.str wcallN, askD (house, c), ptD pe, .int n, ptD pl, .str word, x])
    have ix : ∀ M, oIxA (ptD pl) (.int 0) M = .ok (.str pl.1) M := fun M => rfl
    unfold askD at sy'
    show (B_Kernel_write_ask [some (.ref k), some (.int c), some (.tup [.str wcallN, ptD pe, .int n, ptD pl, .str word, x]), none, none, none, none, none, none, none, none, none, none, none, none, none, none] M).bind _ = _
    simp only [letD, askD]
    generalize ptD pe = P0 at *
    generalize ptD pl = P1 at *
    have tg : ∀ (env : Fn.Env) (M : Mem), gS 3 2 (gsCons (gN 3) (gsCons (gN 4) (gsCons (gN 5) gsNil))) (.tup [.str wcallN, P0, .int n, P1, .str word, x]) env M = .ok (((env.set 3 (some (.str wcallN))).set 4 (some P0)).set 5 (some (.lst [.int n, P1, .str word, x]))) M := fun env M => gS_345 _ _ _ (by simp)
    push_cast [B_Kernel_write_ask, tg, gTB_lst, mFld_eq, io, lk_kn_house, q1, q2, mMth_eq, lk_kn_say, ix, sy']
    all_goals rfl
  | hand pe hh n rs far ww to =>
    have q1 : ∀ M, oEq false (.str handN) (.str [99, 117, 116]) M = .ok (.bl false) M := fun M => by rw [str_eq]; rfl
    have q2 : ∀ M, oEq false (.str handN) (.str [99, 97, 108, 108]) M = .ok (.bl false) M := fun M => by rw [str_eq]; rfl
    have ix : ∀ M, oIxA (ptD to) (.int 0) M = .ok (.str to.1) M := fun M => rfl
    have s1 := sy (.str hh) (.tup [.str makeN, askD (house, c), ptD pe, .int n, strT rs, .int far, ptD to])
    have s2 := sy (.str to.1) (.tup [.str offerN, askD (house, c), ptD pe, .int ww, ptD to])
    unfold askD at s1 s2
    show (B_Kernel_write_ask [some (.ref k), some (.int c), some (.tup [.str handN, ptD pe, .str hh, .int n, strT rs, .int far, .int ww, ptD to]), none, none, none, none, none, none, none, none, none, none, none, none, none, none] M).bind _ = _
    simp only [letD, askD]
    generalize ptD pe = P0 at *
    generalize ptD to = P1 at *
    generalize strT rs = P2 at *
    have tg : ∀ (env : Fn.Env) (M : Mem), gS 3 2 (gsCons (gN 3) (gsCons (gN 4) (gsCons (gN 5) gsNil))) (.tup [.str handN, P0, .str hh, .int n, P2, .int far, .int ww, P1]) env M = .ok (((env.set 3 (some (.str handN))).set 4 (some P0)).set 5 (some (.lst [.str hh, .int n, P2, .int far, .int ww, P1]))) M := fun env M => gS_345 _ _ _ (by simp)
    cases ho : (gA okv (.inl (c : Int))).isSome with
    | true =>
      rw [ho] at hi
      push_cast [B_Kernel_write_ask, tg, gTB_lst, mFld_eq, io, lk_kn_house, lk_kn_opened, q1, q2, hi, mMth_eq, lk_kn_say, ix, s1]
      all_goals rfl
    | false =>
      rw [ho] at hi
      push_cast [B_Kernel_write_ask, tg, gTB_lst, mFld_eq, io, lk_kn_house, lk_kn_opened, q1, q2, hi, mMth_eq, lk_kn_say, ix, s2]
      all_goals rfl
end
theorem law_letter_eq (house : Nm) (c : Nat) (b : Bool) (x : Wh) (M : Mem) : g_law_letter [.str house, .int c, whD x, .bl b] M = .ok (letD house c b x) M := by
  cases x with
  | cut pe hh n m =>
    have q1 : ∀ M, oEq false (.str wcutN) (.str [99, 117, 116]) M = .ok (.bl true) M := fun M => by rw [str_eq]; rfl
    have a0 : ∀ M, oIx (whD (.cut pe hh n m)) (.int 0) M = .ok (.str wcutN) M := fun M => rfl
    have a1 : ∀ M, oIx (whD (.cut pe hh n m)) (.int 1) M = .ok (ptD pe) M := fun M => rfl
    have a2 : ∀ M, oIx (whD (.cut pe hh n m)) (.int 2) M = .ok (.str hh) M := fun M => rfl
    have a3 : ∀ M, oIx (whD (.cut pe hh n m)) (.int 3) M = .ok (.int n) M := fun M => rfl
    have a4 : ∀ M, oIx (whD (.cut pe hh n m)) (.int 4) M = .ok (.int m) M := fun M => rfl
    refine runB_rt (N := 13) (?_ : B_law_letter [some (.str house), some (.int c), some (whD (.cut pe hh n m)), some (.bl b), none, none, none, none, none, none, none, none, none] M = _)
    simp only [letD, askD]
    generalize whD (.cut pe hh n m) = W0 at *
    generalize ptD pe = P0 at *
    push_cast [B_law_letter, a0, a1, a2, a3, a4, q1]
    all_goals rfl
  | call pe n pl word x =>
    have q1 : ∀ M, oEq false (.str wcallN) (.str [99, 117, 116]) M = .ok (.bl false) M := fun M => by rw [str_eq]; rfl
    have q2 : ∀ M, oEq false (.str wcallN) (.str [99, 97, 108, 108]) M = .ok (.bl true) M := fun M => by rw [str_eq]; rfl
    have a0 : ∀ M, oIx (whD (.call pe n pl word x)) (.int 0) M = .ok (.str wcallN) M := fun M => rfl
    have a1 : ∀ M, oIx (whD (.call pe n pl word x)) (.int 1) M = .ok (ptD pe) M := fun M => rfl
    have a3 : ∀ M, oIx (whD (.call pe n pl word x)) (.int 3) M = .ok (ptD pl) M := fun M => rfl
    have p0 : ∀ M, oIx (ptD pl) (.int 0) M = .ok (.str pl.1) M := fun M => rfl
    have sl : ∀ M, oSl false (whD (.call pe n pl word x)) (some 2) none M = .ok (.tup [.int n, ptD pl, .str word, x]) M := fun M => rfl
    have ad : ∀ M, oAdd false (.tup [.str wcallN, .tup [.str house, .int c], ptD pe]) (.tup [.int n, ptD pl, .str word, x]) M = .ok (.tup [.str wcallN, .tup [.str house, .int c], ptD pe, .int n, ptD pl, .str word, x]) M := fun M => by
      have e : ∀ a b : D, oAdd false a b M = oAdd false a b M := fun _ _ => rfl
      rfl
    refine runB_rt (N := 13) (?_ : B_law_letter [some (.str house), some (.int c), some (whD (.call pe n pl word x)), some (.bl b), none, none, none, none, none, none, none, none, none] M = _)
    simp only [letD, askD]
    generalize whD (.call pe n pl word x) = W0 at *
    generalize ptD pe = P0 at *
    generalize ptD pl = P1 at *
    push_cast [B_law_letter, a0, a1, a3, p0, sl, ad, q1, q2]
    all_goals rfl
  | hand pe hh n rs far ww to =>
    have q1 : ∀ M, oEq false (.str handN) (.str [99, 117, 116]) M = .ok (.bl false) M := fun M => by rw [str_eq]; rfl
    have q2 : ∀ M, oEq false (.str handN) (.str [99, 97, 108, 108]) M = .ok (.bl false) M := fun M => by rw [str_eq]; rfl
    have a0 : ∀ M, oIx (whD (.hand pe hh n rs far ww to)) (.int 0) M = .ok (.str handN) M := fun M => rfl
    have a1 : ∀ M, oIx (whD (.hand pe hh n rs far ww to)) (.int 1) M = .ok (ptD pe) M := fun M => rfl
    have p0 : ∀ M, oIx (ptD to) (.int 0) M = .ok (.str to.1) M := fun M => rfl
    have tg : ∀ (g : FGs) (env : Fn.Env) (M : Mem), gT 8 g (whD (.hand pe hh n rs far ww to)) env M = g [.str handN, ptD pe, .str hh, .int n, strT rs, .int far, .int ww, ptD to] env M := fun g env M => rfl
    refine runB_rt (N := 13) (?_ : B_law_letter [some (.str house), some (.int c), some (whD (.hand pe hh n rs far ww to)), some (.bl b), none, none, none, none, none, none, none, none, none] M = _)
    simp only [letD, askD]
    generalize whD (.hand pe hh n rs far ww to) = W0 at *
    generalize ptD pe = P0 at *
    generalize ptD to = P1 at *
    generalize strT rs = P2 at *
    have tb : ∀ (b : Bool) (M : Mem), truD M (.bl b) = some b := fun _ _ => rfl
    cases b with
    | true =>
      push_cast [-gT_eq, B_law_letter, a0, a1, p0, tg, q1, q2, tb]
      all_goals rfl
    | false =>
      push_cast [-gT_eq, B_law_letter, a0, a1, p0, tg, q1, q2, tb]
      all_goals rfl
section
variable {ev : Nat} {M : Mem} {k st w lt op : Nat} {plan : D} {house : Nm} {l : List Rw5} {firm : Nat} {L : List D} {okv : List (KK × D)}
theorem KO.say (h : KO ev M k st w lt op plan house l firm L okv) (d : D) : KO ev (M.set lt (.lst (L ++ [d]))) k st w lt op plan house l firm (L ++ [d]) okv := by
  obtain ⟨n1, n2, n3, n4⟩ := h.nes
  obtain ⟨m1, m2, m3, _⟩ := h.ka.nes
  obtain ⟨kp, hk⟩ := h.at_
  exact ⟨h.ka.say d, ⟨kp, by rw [List.getElem?_set_ne (Ne.symm m3)]; exact hk⟩, by rw [List.getElem?_set_ne (Ne.symm n4)]; exact h.opn⟩
/-- was an ask opened at this tick -/
def opT (okv : List (KK × D)) (c t : Nat) : Bool := match gA okv (.inl (c : Int)) with
  | some (.int u) => decide (u = (t : Int))
  | _ => false
/-- is a letter due -/
def dueB (ev t : Nat) (okv : List (KK × D)) (c : Nat) (a : As) : Bool := decide (((t : Int) - a.t) % ev = 0) || opT okv c t
/-- what opened holds: ticks -/
def OkT (okv : List (KK × D)) : Prop := ∀ c d, gA okv c = some d → ∃ u : Nat, d = .int u
theorem leave_turn (h : KO ev M k st w lt op plan house l firm L okv) (hev : 0 < ev) (hO : OkT okv) (hL : L.length ≤ 100000) (t c : Nat) {a : As} {x : Wh} (hx : a.what = whD x) (hn : a.ans = .non) (y2 y3 y4 y5 y6 y7 : Option D) : ∃ z6 : Option D, ((gT 2 (gsCons (gN 2) (gsCons (gT 3 (gsCons (gN 3) (gsCons (gN 4) (gsCons (gN 5) gsNil)))) gsNil))) (.tup [.int c, asV a]) [some (.ref k), some (.int t), y2, y3, y4, y5, y6, y7] M).bind (fun e1 m1 => L_Kernel_leave_0 e1 m1) = .ok (.nx [some (.ref k), some (.int t), some (.int c), some (.int a.t), some a.what, some .non, z6, y7]) (if dueB ev t okv c a = true then M.set lt (.lst (L ++ [letD house c (gA okv (.inl (c : Int))).isSome x])) else M) := by
  obtain ⟨kp, h1⟩ := h.at_
  have io := insOf_at h1
  have wa := write_ask_eq h hL c x
  rw [← hx] at wa
  have tg : gT 2 (gsCons (gN 2) (gsCons (gT 3 (gsCons (gN 3) (gsCons (gN 4) (gsCons (gN 5) gsNil)))) gsNil)) (.tup [.int c, asV a]) [some (.ref k), some (.int t), y2, y3, y4, y5, y6, y7] M = .ok [some (.ref k), some (.int t), some (.int c), some (.int a.t), some a.what, some .non, y6, y7] M := by
    unfold asV
    rw [hn]
    rfl
  rw [tg, R.bind_ok]
  have hg : oGetM (.ref op) [.int c] M = .ok ((gA okv (.inl (c : Int))).getD .non) M := oGetM_dk1 h.opn
  have ty : tyOk "dict" M (.ref op) = true := tyOk_dk h.opn
  have hm : ∀ M, oMod (.int ((t : Int) - a.t)) (.int (ev : Int)) M = .ok (.int (((t : Int) - a.t) % ev)) M := fun M => oMod_int _ _ (by omega)
  have e1 : ∀ M, oEq false (.int (((t : Int) - a.t) % ev)) (.int 0) M = .ok (.bl (decide (((t : Int) - a.t) % ev = 0))) M := fun M => by
    by_cases c : ((t : Int) - a.t) % ev = 0
    · rw [decide_eq_true c, c]; exact oEq_exT rfl (by simp [dpD])
    · rw [decide_eq_false c]; exact oEq_exF rfl rfl (by simp [dpD]) (fun z => c (D.int.inj z))
  have e2 : ∀ M, oEq false ((gA okv (.inl (c : Int))).getD .non) (.int t) M = .ok (.bl (opT okv c t)) M := fun M => by
    unfold opT
    cases hq : gA okv (.inl (c : Int)) with
    | none => exact oEq_exF rfl rfl (by simp [dpD]) (fun z => by cases z)
    | some d =>
      obtain ⟨u, rfl⟩ := hO _ _ hq
      show oEq false (.int (u : Int)) (.int t) M = .ok (.bl (decide ((u : Int) = t))) M
      by_cases cc : (u : Int) = t
      · rw [decide_eq_true cc, cc]; exact oEq_exT rfl (by simp [dpD])
      · rw [decide_eq_false cc]
        exact oEq_exF rfl rfl (by simp [dpD]) (fun z => cc (D.int.inj z))
  have tb : ∀ (b : Bool) (M : Mem), truD M (.bl b) = some b := fun _ _ => rfl
  have nn : ∀ M, oIsN false .non M = .ok (.bl true) M := fun M => rfl
  refine ⟨some (.bl (dueB ev t okv c a)), ?_⟩
  unfold dueB
  cases d1 : decide (((t : Int) - a.t) % ev = 0) with
  | true =>
    rw [d1] at e1
    push_cast [L_Kernel_leave_0, mOrT, hm, mFld_eq, io, lk_kn_every, e1, tb, nn, mMth_eq, lk_kn_write_ask, wa]
    all_goals rfl
  | false =>
    rw [d1] at e1
    cases d2 : opT okv c t with
    | true =>
      rw [d2] at e2
      push_cast [L_Kernel_leave_0, mOrT, hm, mFld_eq, io, lk_kn_every, lk_kn_opened, e1, hg, ty, e2, tb, nn, mMth_eq, lk_kn_write_ask, wa]
      all_goals rfl
    | false =>
      rw [d2] at e2
      push_cast [L_Kernel_leave_0, mOrT, hm, mFld_eq, io, lk_kn_every, lk_kn_opened, e1, hg, ty, e2, tb, nn]
      all_goals rfl
end
/-- an ask: when, what -/
def asW (y : Nat × Wh) : As := ⟨y.1, whD y.2, .non⟩
def itW (z : (Nat × Wh) × Nat) : D := .tup [.int z.2, asV (asW z.1)]
/-- the letters that are due -/
def letsL (ev t : Nat) (okv : List (KK × D)) (house : Nm) (xs : List ((Nat × Wh) × Nat)) : List D := (xs.filter fun z => dueB ev t okv z.2 (asW z.1)).map fun z => letD house z.2 (gA okv (.inl (z.2 : Int))).isSome z.1.2
section
variable {ev : Nat} {M : Mem} {k st w lt op : Nat} {plan : D} {house : Nm} {l : List Rw5} {firm : Nat} {L : List D} {okv : List (KK × D)}
theorem KO.app (h : KO ev M k st w lt op plan house l firm L okv) (B : Mem) : KO ev (M ++ B) k st w lt op plan house l firm L okv := by
  obtain ⟨kp, hk⟩ := h.at_
  exact ⟨h.ka.app B, ⟨kp, by rw [List.getElem?_append_left (lt_of_get hk)]; exact hk⟩, by rw [List.getElem?_append_left (lt_of_get h.opn)]; exact h.opn⟩
theorem leave_loop (hev : 0 < ev) (hO : OkT okv) (t : Nat) (y7 : Option D) : ∀ (xs : List ((Nat × Wh) × Nat)) (L : List D) (M : Mem) (y2 y3 y4 y5 y6 : Option D), KO ev M k st w lt op plan house l firm L okv → L.length + xs.length ≤ 100000 → ∃ (z2 z3 z4 z5 z6 : Option D) (M' : Mem), forL (fun _ => True) (gT 2 (gsCons (gN 2) (gsCons (gT 3 (gsCons (gN 3) (gsCons (gN 4) (gsCons (gN 5) gsNil)))) gsNil))) L_Kernel_leave_0 (xs.map itW) [some (.ref k), some (.int t), y2, y3, y4, y5, y6, y7] M = .ok (.nx [some (.ref k), some (.int t), z2, z3, z4, z5, z6, y7]) M' ∧ KO ev M' k st w lt op plan house l firm (L ++ letsL ev t okv house xs) okv ∧ M'.length = M.length ∧ ∀ j, j ≠ lt → M'[j]? = M[j]?
  | [], L, M, y2, y3, y4, y5, y6, h, _ => ⟨y2, y3, y4, y5, y6, M, forL_nil, by show KO ev M k st w lt op plan house l firm (L ++ []) okv; rw [List.append_nil]; exact h, rfl, fun _ _ => rfl⟩
  | x :: xs, L, M, y2, y3, y4, y5, y6, h, hl => by
    rw [List.length_cons] at hl
    obtain ⟨z6, e⟩ := leave_turn h hev hO (by omega) t x.2 (a := asW x.1) (x := x.1.2) rfl rfl y2 y3 y4 y5 y6 y7
    obtain ⟨ea, ma, ea1, ea2⟩ := R.bind_eq e
    cases d : dueB ev t okv x.2 (asW x.1) with
    | true =>
      rw [d, if_pos rfl] at ea2
      obtain ⟨w2, w3, w4, w5, w6, M', e1, e2, e3, e4⟩ := leave_loop hev hO t y7 xs (L ++ [letD house x.2 (gA okv (.inl (x.2 : Int))).isSome x.1.2]) (M.set lt (.lst (L ++ [letD house x.2 (gA okv (.inl (x.2 : Int))).isSome x.1.2]))) (some (.int x.2)) (some (.int (asW x.1).t)) (some (asW x.1).what) (some .non) z6 (h.say _) (by rw [List.length_append, List.length_singleton]; omega)
      refine ⟨w2, w3, w4, w5, w6, M', ?_, ?_, by rw [e3, List.length_set], fun j hj => by rw [e4 j hj, List.getElem?_set_ne (Ne.symm hj)]⟩
      · rw [List.map_cons, forL_consP trivial, show itW x = .tup [.int x.2, asV (asW x.1)] from rfl, ea1, R.bind_ok, ea2, R.bind_ok]
        exact e1
      · have : letsL ev t okv house (x :: xs) = letD house x.2 (gA okv (.inl (x.2 : Int))).isSome x.1.2 :: letsL ev t okv house xs := by
          unfold letsL
          rw [List.filter_cons_of_pos (p := fun z : (Nat × Wh) × Nat => dueB ev t okv z.2 (asW z.1)) d, List.map_cons]
        rw [this]
        rw [List.append_assoc] at e2
        exact e2
    | false =>
      rw [d, if_neg Bool.false_ne_true] at ea2
      obtain ⟨w2, w3, w4, w5, w6, M', e1, e2, e3, e4⟩ := leave_loop hev hO t y7 xs L M (some (.int x.2)) (some (.int (asW x.1).t)) (some (asW x.1).what) (some .non) z6 h (by omega)
      refine ⟨w2, w3, w4, w5, w6, M', ?_, ?_, e3, e4⟩
      · rw [List.map_cons, forL_consP trivial, show itW x = .tup [.int x.2, asV (asW x.1)] from rfl, ea1, R.bind_ok, ea2, R.bind_ok]
        exact e1
      · have : letsL ev t okv house (x :: xs) = letsL ev t okv house xs := by
          unfold letsL
          rw [List.filter_cons_of_neg (p := fun z : (Nat × Wh) × Nat => dueB ev t okv z.2 (asW z.1)) (by rw [d]; exact Bool.false_ne_true)]
        rw [this]
        exact e2
end
section
variable {ev : Nat} {M : Mem} {k st w lt op : Nat} {plan : D} {house : Nm} {l : List Rw5} {firm : Nat} {L : List D} {okv : List (KK × D)}
theorem zip_items (ls : List (Nat × Wh)) : (zipK asV (ls.map asW)).map (fun kv => D.tup [keyD kv.1, kv.2]) = ls.zipIdx.map itW := by
  unfold zipK
  rw [List.map_map, List.zipIdx_map, List.map_map]
  rfl
theorem leave_eq (h : KO ev M k st w lt op plan house l firm L okv) (ha : AskL l) (ok : ∀ r ∈ l, RwOk r) (hl : l.length ≤ 4000) (hev : 0 < ev) (hO : OkT okv) {ls : List (Nat × Wh)} (hS : asksL l = ls.map asW) (hL : L.length ≤ 10000) (t : Nat) :
    ∃ m, g_Kernel_leave [.ref k, .int t] M = .ok (.ref lt) m ∧ m.length = M.length + 3 ∧ m[lt]? = some (.lst (L ++ letsL ev t okv house ls.zipIdx)) ∧ KO ev m k st w (M.length + 2) op plan house l l.length [] okv ∧ ∀ j, j < M.length → j ≠ k → j ≠ st → j ≠ lt → m[j]? = M[j]? := by
  obtain ⟨kp, h1⟩ := h.at_
  obtain ⟨l1, l2, l3, l4⟩ := h.ka.lts
  obtain ⟨n1, n2, n3, n4, n5⟩ := h.ka.nes
  obtain ⟨o1, o2, o3, o4⟩ := h.nes
  have lo := lt_of_get h.opn
  have sr := stone_rows_eq h.ka
  have ae := asks_eq (M := M) ha ok (by omega)
  rw [hS] at ae
  have lenS : ls.length ≤ 4000 := by
    have := asksL_len l
    rw [hS, List.length_map] at this
    omega
  obtain ⟨Z, hZ⟩ : ∃ Z, zipK asV (ls.map asW) = Z := ⟨_, rfl⟩
  have hzi := zip_items ls
  rw [hZ] at ae hzi
  have gA1 : (M ++ [Cell.dk false Z, .dk false Z])[M.length + 1]? = some (.dk false Z) := app_get1 rfl
  have sA1 : (M ++ [Cell.dk false Z, .dk false Z]).set (M.length + 1) (.dk true Z) = M ++ [.dk false Z, .dk true Z] := app_set1 rfl
  have gA2 : (M ++ [Cell.dk false Z, .dk true Z])[M.length + 1]? = some (.dk true Z) := app_get1 rfl
  have hB := h.app [.dk false Z, .dk true Z]
  obtain ⟨M2, hM2⟩ : ∃ X, M ++ [Cell.dk false Z, .dk true Z] = X := ⟨_, rfl⟩
  rw [hM2] at sA1 gA2 hB
  have m2l : M2.length = M.length + 2 := by rw [← hM2]; simp
  obtain ⟨z2, z3, z4, z5, z6, M3, e1, hB3, e3, e4⟩ := leave_loop hev hO t none ls.zipIdx L M2 none none none none none hB (by rw [List.length_zipIdx]; omega)
  have se := stone_settle hB3.ka
  have hB4 := hB3.ka.settle
  obtain ⟨kp3, k3⟩ := hB3.at_
  have k4 : (settM M3 st w l.length)[k]? = some (.ins 3 (knF plan (.str house) (.int 6) (.int (ev : Int)) (.ref st) (.ref lt) kp3 (.ref op))) := by rw [settM_old n1]; exact k3
  obtain ⟨M4, hM4⟩ : ∃ X, settM M3 st w l.length = X := ⟨_, rfl⟩
  rw [hM4] at se hB4 k4
  have m4l : M4.length = M.length + 2 := by rw [← hM4, settM_len, e3]; exact m2l
  have old4 : ∀ j, j < M.length → j ≠ st → j ≠ lt → M4[j]? = M[j]? := fun j hj hs hlt => by
    rw [← hM4, settM_old hs, e4 j hlt, ← hM2, List.getElem?_append_left hj]
  have k5 : (M4 ++ [Cell.lst []])[k]? = some (.ins 3 (knF plan (.str house) (.int 6) (.int (ev : Int)) (.ref st) (.ref lt) kp3 (.ref op))) := by rw [List.getElem?_append_left (by omega)]; exact k4
  have m5l : (M4 ++ [Cell.lst []]).length = M.length + 3 := by simp; omega
  refine ⟨(M4 ++ [Cell.lst []]).set k (.ins 3 (knF plan (.str house) (.int 6) (.int (ev : Int)) (.ref st) (.ref (M.length + 2)) kp3 (.ref op))), ?_, by rw [List.length_set]; exact m5l, ?_, ⟨⟨⟨kp3, .ref op, ?_⟩, ?_, ?_, ?_, by omega⟩, ⟨kp3, ?_⟩, ?_⟩, fun j hj hjk hjs hjl => ?_⟩
  · refine runB_rt (N := 8) (?_ : B_Kernel_leave [some (.ref k), some (.int (t : Int)), none, none, none, none, none, none] M = _)
    have i1 := insOf_at h1
    have i3 := insOf_at k3
    have i4 := insOf_at k4
    have i5 := insOf_at k5
    have lst1 := lk_kn_stone plan (.str house) (.int 6) (.int (ev : Int)) (.ref st) (.ref lt) kp (.ref op)
    have lst3 := lk_kn_stone plan (.str house) (.int 6) (.int (ev : Int)) (.ref st) (.ref lt) kp3 (.ref op)
    have ltt := lk_kn_letters plan (.str house) (.int 6) (.int (ev : Int)) (.ref st) (.ref lt) kp3 (.ref op)
    have put := put_kn_letters plan (.str house) (.int 6) (.int (ev : Int)) (.ref st) (.ref lt) kp3 (.ref op)
    have fle := knF_len plan (.str house) (.int 6) (.int (ev : Int)) (.ref st) (.ref lt) kp3 (.ref op)
    obtain ⟨FF, hFF⟩ : ∃ X, knF plan (.str house) (.int 6) (.int (ev : Int)) (.ref st) (.ref lt) kp (.ref op) = X := ⟨_, rfl⟩
    rw [hFF] at i1 lst1
    obtain ⟨F3, hF3⟩ : ∃ X, knF plan (.str house) (.int 6) (.int (ev : Int)) (.ref st) (.ref lt) kp3 (.ref op) = X := ⟨_, rfl⟩
    rw [hF3] at i3 i4 i5 lst3 ltt put fle
    obtain ⟨LB, hLB⟩ : ∃ X, L_Kernel_leave_0 = X := ⟨_, rfl⟩
    rw [hLB] at e1
    rw [← hzi] at e1
    unfold B_Kernel_leave
    rw [hLB]
    push_cast [mMth_eq, mFld_eq, i1, lst1, insOf_at h.ka.sto, lk_sn_rows, sr, ae, mLk_eq, gA1, sA1, iItemsA, gA2, mFor_eq, e1, i3, lst3, insOf_at hB3.ka.sto, lk_sn_settle, se, i4, ltt, mFldSet_eq, i5, m4l, fle, put]
  · rw [List.getElem?_set_ne n3, List.getElem?_append_left (by omega)]
    exact hB4.let_
  · rw [List.getElem?_set_self (by omega)]
  · rw [List.getElem?_set_ne n1, List.getElem?_append_left (by omega)]
    exact hB4.sto
  · rw [List.getElem?_set_ne n2, List.getElem?_append_left (by omega)]
    exact hB4.wri
  · rw [List.getElem?_set_ne (by omega), List.getElem?_append_right (by omega), m4l]; simp
  · rw [List.getElem?_set_self (by omega)]
  · rw [List.getElem?_set_ne (Ne.symm o1), List.getElem?_append_left (by omega), old4 op lo o2 o4]
    exact h.opn
  · rw [List.getElem?_set_ne (Ne.symm hjk), List.getElem?_append_left (by omega), old4 j hj hjs hjl]
end
section
variable {ev : Nat} {M : Mem} {k st w lt op : Nat} {plan : D} {house : Nm} {l : List Rw5} {firm : Nat} {L : List D} {okv : List (KK × D)}
def wantD (house who : Nm) (x : Pu) : D := .tup [.str house, .str x.h, .tup [.str [119, 97, 110, 116], ptD (house, who), .int x.n]]
theorem want_eq (h : KAt ev M k st w lt plan house l firm L) {who : Nm} (rs : RsOk l house who) (hL : L.length ≤ 100000) {j : Nat} {x : Pu} (hx : (putsOf l (house, who))[j]? = some x) (t : Nat) :
    g_Kernel_want [.ref k, .str who, .tup [.int (j : Int), .int 0], .int t] M = .ok .non ((settM M st w l.length).set lt (.lst (L ++ [wantD house who x]))) ∧ KAt ev ((settM M st w l.length).set lt (.lst (L ++ [wantD house who x]))) k st w lt plan house l l.length (L ++ [wantD house who x]) := by
  have e1 := led_eq h rs.ok rs.po rs.nd rs.np hx
  have h1 := h.settle
  have sy := say_eq h1 hL (.str x.h) (.tup [.str [119, 97, 110, 116], ptD (house, who), .int x.n])
  obtain ⟨M1, hM1⟩ : ∃ X, settM M st w l.length = X := ⟨_, rfl⟩
  rw [hM1] at e1 h1 sy ⊢
  refine ⟨?_, h1.say _⟩
  obtain ⟨kp, op, hk⟩ := h.ker
  obtain ⟨kp1, op1, hk1⟩ := h1.ker
  have i0 := insOf_at hk
  have i1 := insOf_at hk1
  have ld0 := lk_kn_led plan (.str house) (.int 6) (.int (ev : Int)) (.ref st) (.ref lt) kp op
  have la1 := lk_kn_say plan (.str house) (.int 6) (.int (ev : Int)) (.ref st) (.ref lt) kp1 op1
  have lh1 := lk_kn_house plan (.str house) (.int 6) (.int (ev : Int)) (.ref st) (.ref lt) kp1 op1
  have pe : D.tup [.str house, .str who] = ptD (house, who) := rfl
  refine runB_nx' ?_
  show (B_Kernel_want [some (.ref k), some (.str who), some (.tup [.int (j : Int), .int 0]), some (.int (t : Int)), none, none, none, none, none, none] M).bind _ = _
  rw [tb6] at e1
  obtain ⟨HD, hHD⟩ : ∃ X, D.tup [.int (j : Int), .int 0] = X := ⟨_, rfl⟩
  rw [hHD] at e1 ⊢
  push_cast [B_Kernel_want, mMth_eq, mFld_eq, i0, ld0, e1, i1, la1, lh1, pe, sy]
  all_goals rfl
end
theorem cutD_map {α β : Type} (f : α → β) (xs : List α) (lo hi : Option Int) : Fn.cutD (xs.map f) lo hi = (Fn.cutD xs lo hi).map f := by
  unfold Fn.cutD
  rw [List.length_map, List.map_take, List.map_drop]
section
variable {ev : Nat} {M : Mem} {k st w lt : Nat} {plan : D} {house : Nm} {l : List Rw5} {firm : Nat} {L : List D}
theorem stone_fall (h : KAt ev M k st w lt plan house l firm L) (n : Nat) : g_Stone_fall [.ref st, .int n] M = .ok (.int ((l.length - min l.length (firm + n) : Nat) : Int)) ((M ++ [Cell.lst ((l.take (min l.length (firm + n))).map rwD)]).set st (.ins 2 (snF (.ref M.length) (.int (min l.length (firm + n) : Nat))))) := by
  refine runB_rt (N := 4) (?_ : B_Stone_fall [some (.ref st), some (.int (n : Int)), none, none] M = _)
  have hi := insOf_at h.sto
  have ol : oLen [.ref w] M = .ok (.int (l.length : Int)) M := by rw [oLen_ref h.wri, List.length_map]
  have mn : oMin [.int (l.length : Int), .int ((firm : Int) + (n : Int))] M = .ok (.int ((min l.length (firm + n) : Nat) : Int)) M := by
    rw [oMin_int]
    congr 2
    omega
  have sb : (l.length : Int) - ((min l.length (firm + n) : Nat) : Int) = ((l.length - min l.length (firm + n) : Nat) : Int) := by omega
  obtain ⟨s, hs⟩ : ∃ s, min l.length (firm + n) = s := ⟨_, rfl⟩
  have hsl : s ≤ l.length := by omega
  rw [hs] at mn sb ⊢
  have sl : oSl true (.ref w) none (some (s : Int)) M = .ok (.ref M.length) (M ++ [.lst ((l.take s).map rwD)]) := by
    have : Fn.cutD (l.map rwD) none (some (s : Int)) = (l.take s).map rwD := by
      rw [cutD_map]
      congr 1
      unfold Fn.cutD
      rw [HT.sIx_nat, Nat.min_eq_left hsl]
      rfl
    simp only [oSl, lstOf, h.wri, this]
    rfl
  have l2 := h.lts.2.1
  have i2 : (M ++ [Cell.lst ((l.take s).map rwD)])[st]? = some (.ins 2 (snF (.ref w) (.int (firm : Int)))) := by rw [List.getElem?_append_left l2]; exact h.sto
  obtain ⟨M2, hM2⟩ : ∃ X, M ++ [Cell.lst ((l.take s).map rwD)] = X := ⟨_, rfl⟩
  rw [hM2] at sl i2 ⊢
  have l3 : st < M2.length := lt_of_get i2
  have hi2 := insOf_at i2
  have pw : ∀ v, putD "written" v (snF (.ref w) (.int (firm : Int))) = snF v (.int (firm : Int)) := fun v => by simp only [snF, putD, if_true]
  have i3 : (M2.set st (.ins 2 (snF (.ref M.length) (.int (firm : Int)))))[st]? = some (.ins 2 (snF (.ref M.length) (.int (firm : Int)))) := List.getElem?_set_self l3
  have hi3 := insOf_at i3
  have ss : ∀ a b : Cell, (M2.set st a).set st b = M2.set st b := fun a b => by simp
  push_cast [B_Stone_fall, mFld_eq, mFldSet_eq, hi, lk_sn_written, lk_sn_firm, ol, mn, sb, sl, hi2, snF_len, pw, hi3, put_sn_firm, ss]
theorem kernel_fall (h : KAt ev M k st w lt plan house l firm L) (n : Nat) :
    ∃ m, g_Kernel_fall [.ref k, .int n] M = .ok (.int ((l.length - min l.length (firm + n) : Nat) : Int)) m ∧ m.length = M.length + 4 ∧ KO ev m k st (M.length + 3) M.length (M.length + 2) plan house (l.take (min l.length (firm + n))) (min l.length (firm + n)) [] [] ∧ ∀ j, j < M.length → j ≠ k → j ≠ st → m[j]? = M[j]? := by
  obtain ⟨kp, op, h1⟩ := h.ker
  obtain ⟨l1, l2, l3, l4⟩ := h.lts
  obtain ⟨n1, n2, n3, n4, n5⟩ := h.nes
  have g0 : (M ++ [Cell.lst [], .dt false [], .dk false []])[k]? = some (.ins 3 (knF plan (.str house) (.int 6) (.int (ev : Int)) (.ref st) (.ref lt) kp op)) := by rw [List.getElem?_append_left l1]; exact h1
  obtain ⟨M1, hM1⟩ : ∃ X, M ++ [Cell.lst [], .dt false [], .dk false []] = X := ⟨_, rfl⟩
  have m1l : M1.length = M.length + 3 := by rw [← hM1]; simp
  rw [hM1] at g0
  have lk : k < M1.length := by omega
  have ss : ∀ a b : Cell, (M1.set k a).set k b = M1.set k b := fun a b => by simp
  have gs : ∀ a : Cell, (M1.set k a)[k]? = some a := fun a => List.getElem?_set_self lk
  have hK : KAt ev (M1.set k (.ins 3 (knF plan (.str house) (.int 6) (.int (ev : Int)) (.ref st) (.ref M.length) (.ref (M.length + 1)) (.ref (M.length + 2))))) k st w M.length plan house l firm [] := by
    refine ⟨⟨_, _, gs _⟩, ?_, ?_, ?_, by omega⟩
    · rw [List.getElem?_set_ne n1, ← hM1, List.getElem?_append_left l2]; exact h.sto
    · rw [List.getElem?_set_ne n2, ← hM1, List.getElem?_append_left l3]; exact h.wri
    · rw [List.getElem?_set_ne (by omega), ← hM1]; exact app_get0 rfl
  have sf := stone_fall hK n
  obtain ⟨M2, hM2⟩ : ∃ X, M1.set k (.ins 3 (knF plan (.str house) (.int 6) (.int (ev : Int)) (.ref st) (.ref M.length) (.ref (M.length + 1)) (.ref (M.length + 2)))) = X := ⟨_, rfl⟩
  rw [hM2] at sf hK
  have m2l : M2.length = M.length + 3 := by rw [← hM2, List.length_set, m1l]
  have old2 : ∀ j, j < M.length → j ≠ k → M2[j]? = M[j]? := fun j hj hk => by rw [← hM2, List.getElem?_set_ne (Ne.symm hk), ← hM1, List.getElem?_append_left hj]
  obtain ⟨s, hs⟩ : ∃ s, min l.length (firm + n) = s := ⟨_, rfl⟩
  rw [hs, m2l] at sf
  rw [hs]
  have m3l : (M2 ++ [Cell.lst ((l.take s).map rwD)]).length = M.length + 4 := by simp; omega
  refine ⟨(M2 ++ [Cell.lst ((l.take s).map rwD)]).set st (.ins 2 (snF (.ref (M.length + 3)) (.int (s : Int)))), ?_, by rw [List.length_set]; exact m3l, ⟨⟨⟨.ref (M.length + 1), .ref (M.length + 2), ?_⟩, ?_, ?_, ?_, by omega⟩, ⟨.ref (M.length + 1), ?_⟩, ?_⟩, fun j hj hk hs2 => ?_⟩
  rotate_left
  · rw [List.getElem?_set_ne (Ne.symm n1), List.getElem?_append_left (by omega), ← hM2]; exact gs _
  · exact List.getElem?_set_self (by omega)
  · rw [List.getElem?_set_ne (by omega), List.getElem?_append_right (by omega), m2l, Nat.sub_self]; rfl
  · rw [List.getElem?_set_ne (by omega), List.getElem?_append_left (by omega)]; exact hK.let_
  · rw [List.getElem?_set_ne (Ne.symm n1), List.getElem?_append_left (by omega), ← hM2]; exact gs _
  · rw [List.getElem?_set_ne (by omega), List.getElem?_append_left (by omega), ← hM2, List.getElem?_set_ne (by omega), ← hM1, List.getElem?_append_right (by omega), show M.length + 2 - M.length = 2 by omega]; rfl
  · rw [List.getElem?_set_ne (Ne.symm hs2), List.getElem?_append_left (by omega)]; exact old2 j hj hk
  · refine runB_rt (N := 2) (?_ : B_Kernel_fall [some (.ref k), some (.int (n : Int))] M = _)
    obtain ⟨kp2, op2, hk2⟩ := hK.ker
    have i1 := insOf_at g0
    have ih := fun a => insOf_at (gs (.ins 3 a))
    have i2 := insOf_at hk2
    have ls := lk_kn_stone plan (.str house) (.int 6) (.int (ev : Int)) (.ref st) (.ref M.length) kp2 op2
    have le1 : ∀ c : Cell, (M ++ [c]).length = M.length + 1 := fun c => by simp
    have le2 : ∀ c d : Cell, (M ++ [c, d]).length = M.length + 2 := fun c d => by simp
    have ap1 : (M ++ [Cell.lst []]) ++ [Cell.dt false []] = M ++ [.lst [], .dt false []] := by simp
    have ap2 : (M ++ [Cell.lst [], Cell.dt false []]) ++ [Cell.dk false []] = M1 := by rw [← hM1]; simp
    push_cast [B_Kernel_fall, mDNewT_eq, mDNewK_eq, le1, le2, ap1, ap2, gFld_eq, i1, ih, ss, knF_len, put_kn_letters, put_kn_kept, put_kn_opened, hM2, mMth_eq, mFld_eq, i2, ls, insOf_at hK.sto, lk_sn_fall, sf]
end
section
variable {ev : Nat} {M : Mem} {k st w lt op : Nat} {plan : D} {house : Nm} {l : List Rw5} {firm : Nat} {L : List D} {okv : List (KK × D)}
theorem said_open2 (h : KO ev M k st w lt op plan house l firm L okv) (ha : AskL l) (ok : ∀ r ∈ l, RwOk r) (hl : l.length ≤ 4000) (ho : okv.length ≤ 10000) (sender : D) (a : Ak) (t : Nat) {x : As} (hx : (asksL l)[a.2]? = some x) (hn : x.ans = .non) :
    ∃ M', g_Kernel_take_said [.ref k, sender, .tup [.str [111, 112, 101, 110], askD a], .int t] M = .ok .non M' ∧ KO ev M' k st w lt op plan house l firm L (pA okv (.inl (a.2 : Int)) ((gA okv (.inl (a.2 : Int))).getD (.int (t : Int)))) ∧ M.length ≤ M'.length ∧ ∀ i, i < M.length → i ≠ op → M'[i]? = M[i]? := by
  obtain ⟨M1, _, as, g1, k1, m1l, old1⟩ := take_pre h ha ok hl
  obtain ⟨S, hS⟩ : ∃ X, asksL l = X := ⟨_, rfl⟩
  rw [hS] at g1 hx
  have sr := stone_rows_eq h.ka
  obtain ⟨kp, hk⟩ := h.at_
  obtain ⟨kp1, hk1⟩ := k1.at_
  have i0 := insOf_at hk
  have i1 := insOf_at hk1
  have ls0 := lk_kn_stone plan (.str house) (.int 6) (.int (ev : Int)) (.ref st) (.ref lt) kp (.ref op)
  have lo1 := lk_kn_opened plan (.str house) (.int 6) (.int (ev : Int)) (.ref st) (.ref lt) kp1 (.ref op)
  have tg := said_tg [111, 112, 101, 110] a [] (by simp)
  have hcl := (List.getElem?_eq_some_iff.mp hx).1
  have ia : oInA true (.int (a.2 : Int)) (.ref (M.length + 1)) M1 = .ok (.bl false) M1 := by
    rw [oInA_dk g1, gA_zip, hx]; rfl
  have ix : oIxA (.ref (M.length + 1)) (.int (a.2 : Int)) M1 = .ok (asV x) M1 := oIxA_dk g1 (by rw [gA_zip, hx]; rfl)
  have i2 : ∀ M, oIxA (asV x) (.int 2) M = .ok .non M := fun _ => by rw [← hn]; rfl
  have nn : ∀ M, oIsN true .non M = .ok (.bl false) M := fun _ => rfl
  have qo : ∀ M, oEq false (.str [111, 112, 101, 110]) (.str [111, 112, 101, 110]) M = .ok (.bl true) M := fun M => by rw [str_eq]; simp
  have ty := tyOk_dk k1.opn
  obtain ⟨v, hv⟩ : ∃ v, (gA okv (.inl (a.2 : Int))).getD (.int (t : Int)) = v := ⟨_, rfl⟩
  have gm : oGetM (.ref op) [.int (a.2 : Int), .int (t : Int)] M1 = .ok v M1 := by rw [oGetM_dk2 k1.opn, hv]
  have sp : sPut M1 (.ref op) (.int (a.2 : Int)) v = some (M1.set op (.dk false (pA okv (.inl (a.2 : Int)) v))) := sPut_dk k1.opn (by omega)
  obtain ⟨n1, n2, n3, n4⟩ := k1.nes
  have opl := lt_of_get k1.opn
  obtain ⟨M2, hM2⟩ : ∃ X, M1.set op (.dk false (pA okv (.inl (a.2 : Int)) v)) = X := ⟨_, rfl⟩
  rw [hM2] at sp
  have o2 : ∀ i, i ≠ op → M2[i]? = M1[i]? := fun i hi => by rw [← hM2, List.getElem?_set_ne (Ne.symm hi)]
  have k2 : KO ev M2 k st w lt op plan house l firm L (pA okv (.inl (a.2 : Int)) v) := ⟨k1.ka.same (o2 _ (Ne.symm n1)) (o2 _ (Ne.symm n2)) (o2 _ (Ne.symm n3)) (o2 _ (Ne.symm n4)), ⟨kp1, by rw [o2 _ (Ne.symm n1)]; exact hk1⟩, by rw [← hM2]; exact List.getElem?_set_self opl⟩
  rw [hv]
  refine ⟨M2, runB_rt (N := 12) (?_ : B_Kernel_take_said [some (.ref k), some sender, some (.tup [.str [111, 112, 101, 110], askD a]), some (.int (t : Int)), none, none, none, none, none, none, none, none] M = .ok (.rt .non) M2), k2, by rw [← hM2, List.length_set]; omega, fun i hi hp => by rw [o2 i hp, old1 i hi]⟩
  obtain ⟨WD, hWD⟩ : ∃ X, D.tup [.str [111, 112, 101, 110], askD a] = X := ⟨_, rfl⟩
  rw [hWD] at tg ⊢
  obtain ⟨RD, hRD⟩ : ∃ X, D.tup (l.map rwD) = X := ⟨_, rfl⟩
  rw [hRD] at as sr
  obtain ⟨XD, hXD⟩ : ∃ X, asV x = X := ⟨_, rfl⟩
  rw [hXD] at ix i2
  push_cast [B_Kernel_take_said, tg, mFld_eq, mMth_eq, i0, ls0, insOf_at h.ka.sto, lk_sn_rows, sr, as, ia, ix, i2, nn, qo, i1, lo1, ty, gm, gIxA_eq, sp]
theorem take_said_of {d sd : D} {word : Nm} {t : Int} {M' : Mem} (h : KO ev M k st w lt op plan house l firm L okv) (h0 : ∀ M, oIx d (.int 0) M = .ok (.str word) M) (hw : word = [111, 112, 101, 110] ∨ word = [110, 111] ∨ word = [116, 97, 107, 101, 110] ∨ word = [103, 111, 110, 101] ∨ word = [100, 111, 110, 101] ∨ word = [102, 111, 117, 110, 100])
    (e : g_Kernel_take_said [.ref k, sd, d, .int t] M = .ok .non M') : g_Kernel_take [.ref k, sd, d, .int t] M = .ok .non M' := by
  obtain ⟨kp, hk⟩ := h.at_
  have i0 := insOf_at hk
  have lt0 := lk_kn_take_said plan (.str house) (.int 6) (.int (ev : Int)) (.ref st) (.ref lt) kp (.ref op)
  have n1 : ∀ M, oInF false (.str word) (.tup [.str [111, 102, 102, 101, 114], .str [109, 97, 107, 101], .str [99, 117, 116], .str [99, 97, 108, 108], .str [103, 105, 118, 101, 110], .str [119, 97, 110, 116]]) M = .ok (.bl false) M := fun M => by
    have := oInF_strs (neg := false) (w := word) (d := .tup ([[111, 102, 102, 101, 114], [109, 97, 107, 101], [99, 117, 116], [99, 97, 108, 108], [103, 105, 118, 101, 110], [119, 97, 110, 116]].map D.str)) (F := [[111, 102, 102, 101, 114], [109, 97, 107, 101], [99, 117, 116], [99, 97, 108, 108], [103, 105, 118, 101, 110], [119, 97, 110, 116]]) (M := M) rfl
    refine this.trans ?_
    rcases hw with rfl | rfl | rfl | rfl | rfl | rfl <;> rfl
  have n2 : ∀ M, oEq false (.str word) (.str [119, 97, 114, 114, 97, 110, 116]) M = .ok (.bl false) M := fun M => by
    rw [str_eq]
    rcases hw with rfl | rfl | rfl | rfl | rfl | rfl <;> rfl
  refine runB_nx (N := 5) (env := [some (.ref k), some sd, some d, some (.int t), none]) (?_ : B_Kernel_take [some (.ref k), some sd, some d, some (.int t), none] M = _)
  push_cast [B_Kernel_take, h0, n1, n2, mMth_eq, i0, lt0, e]
end
theorem kernel_init2 {Q : List Rt} (hl : Q.length ≤ 900) (kQ : PaOk Q) (H : List Hu) (hn : Nm) (ev : Nat) (M : Mem) :
    ∃ m, g_Kernel___init__ [.ref M.length, planD H Q, .str hn, .int 6, .int (ev : Int)] (M ++ [.ins 3 []]) = .ok .non m ∧ m.length = M.length + 6 ∧ KAt ev m M.length (M.length + 1) (M.length + 2) (M.length + 3) (planD H Q) hn (bgW Q hn) (bgW Q hn).length [] ∧ (∃ J, m = M ++ J) ∧ KO ev m M.length (M.length + 1) (M.length + 2) (M.length + 3) (M.length + 5) (planD H Q) hn (bgW Q hn) (bgW Q hn).length [] [] := by
  have fr := fun M => first_rows_eq hl kQ H hn M
  have KA : KAt ev (M ++ [.ins 3 (knF (planD H Q) (.str hn) (.int 6) (.int (ev : Int)) (.ref (M.length + 1)) (.ref (M.length + 3)) (.ref (M.length + 4)) (.ref (M.length + 5))), .ins 2 (snF (.ref (M.length + 2)) (.int ((bgW Q hn).length : Int))), .lst ((bgW Q hn).map rwD), .lst [], .dt false [], .dk false []]) M.length (M.length + 1) (M.length + 2) (M.length + 3) (planD H Q) hn (bgW Q hn) (bgW Q hn).length [] := by
    refine ⟨⟨_, _, app_get0 rfl⟩, app_get1 rfl, ?_, ?_, by omega⟩
    · rw [List.getElem?_append_right (by omega), show M.length + 2 - M.length = 2 by omega]; rfl
    · rw [List.getElem?_append_right (by omega), show M.length + 3 - M.length = 3 by omega]; rfl
  refine ⟨M ++ [.ins 3 (knF (planD H Q) (.str hn) (.int 6) (.int (ev : Int)) (.ref (M.length + 1)) (.ref (M.length + 3)) (.ref (M.length + 4)) (.ref (M.length + 5))), .ins 2 (snF (.ref (M.length + 2)) (.int ((bgW Q hn).length : Int))), .lst ((bgW Q hn).map rwD), .lst [], .dt false [], .dk false []], ?_, by simp, KA, ⟨_, rfl⟩, KA, ⟨_, app_get0 rfl⟩, ?_⟩
  rotate_left
  · rw [List.getElem?_append_right (by omega), show M.length + 5 - M.length = 5 by omega]; rfl
  · refine runB_nx (N := 5) (env := [some (.ref M.length), some (planD H Q), some (.str hn), some (.int 6), some (.int (ev : Int))]) ?_
    show B_Kernel___init__ [some (.ref M.length), some (planD H Q), some (.str hn), some (.int 6), some (.int (ev : Int))] (M ++ [.ins 3 []]) = _
    have gt : ∀ c (B : Mem), (M ++ c :: B)[M.length]? = some c := fun c B => app_get0 rfl
    have st : ∀ c d (B : Mem), (M ++ c :: B).set M.length d = M ++ d :: B := fun c d B => app_set0 rfl
    have le1 : ∀ c : Cell, (M ++ [c]).length = M.length + 1 := fun c => by simp
    have le3 : ∀ a b c : Cell, (M ++ [a, b, c]).length = M.length + 3 := fun a b c => by simp
    have le4 : ∀ a b c d : Cell, (M ++ [a, b, c, d]).length = M.length + 4 := fun a b c d => by simp
    have le5 : ∀ a b c d e : Cell, (M ++ [a, b, c, d, e]).length = M.length + 5 := fun a b c d e => by simp
    have ap3 : ∀ a b c x : Cell, (M ++ [a, b, c]) ++ [x] = M ++ [a, b, c, x] := fun a b c x => by simp
    have ap4 : ∀ a b c d x : Cell, (M ++ [a, b, c, d]) ++ [x] = M ++ [a, b, c, d, x] := fun a b c d x => by simp
    have ap5 : ∀ a b c d e x : Cell, (M ++ [a, b, c, d, e]) ++ [x] = M ++ [a, b, c, d, e, x] := fun a b c d e x => by simp
    have si : ∀ F, g_Stone___init__ [.ref (M.length + 1), .lst ((bgW Q hn).map rwD)] ((M ++ [.ins 3 F]) ++ [.ins 2 []]) = .ok .non (M ++ [.ins 3 F, .ins 2 (snF (.ref (M.length + 2)) (.int ((bgW Q hn).length : Int))), .lst ((bgW Q hn).map rwD)]) := fun F => by
      have := stone_init (M ++ [.ins 3 F]) (bgW Q hn)
      rw [le1] at this
      rw [this, List.append_assoc]; rfl
    have lt0 : (0 < 1000) = True := by simp
    have lt1 : (1 < 1000) = True := by simp
    have lt2 : (2 < 1000) = True := by simp
    have lt3 : (3 < 1000) = True := by simp
    have lt4 : (4 < 1000) = True := by simp
    have lt5 : (5 < 1000) = True := by simp
    have lt6 : (6 < 1000) = True := by simp
    have lt7 : (7 < 1000) = True := by simp
    have fin : ∀ a b c d e f g h, knF a b c d e f g h = ([("plan", a), ("house", b), ("lease", c), ("every", d), ("stone", e), ("letters", f), ("kept", g), ("opened", h)] : List (Str × D)) := fun _ _ _ _ _ _ _ _ => rfl
    rw [fin]
    obtain ⟨PD, hPD⟩ : ∃ X, planD H Q = X := ⟨_, rfl⟩
    rw [hPD] at fr ⊢
    obtain ⟨RL, hRL⟩ : ∃ X, (bgW Q hn).map rwD = X := ⟨_, rfl⟩
    rw [hRL] at fr si ⊢
    obtain ⟨SN, hSN⟩ : ∃ X, snF (.ref (M.length + 2)) (.int ((bgW Q hn).length : Int)) = X := ⟨_, rfl⟩
    rw [hSN] at si ⊢
    push_cast [B_Kernel___init__, mFldSet_eq, mMake_eq, mDNewT_eq, mDNewK_eq, insOf_at (gt _ _), st, kp0, kp1, kp2, kp3, kp4, kp5, kp6, kp7, fr, le1, si, le3, le4, le5, ap3, ap4, ap5, lt0, lt1, lt2, lt3, lt4, lt5, lt6, lt7]
section
variable {ev : Nat} {M : Mem} {k st w lt op i : Nat} {plan : D} {l : List Rw5} {firm : Nat} {L : List D} {okv : List (KK × D)} {m : Nat} {house : Nm}
theorem KO.keep (h : KO ev M k st w lt op plan house l firm L okv) {M' : Mem} (e : ∀ j, j ≠ i → M'[j]? = M[j]?) (hi : i ≠ k ∧ i ≠ st ∧ i ≠ w ∧ i ≠ lt ∧ i ≠ op) : KO ev M' k st w lt op plan house l firm L okv := by
  obtain ⟨i1, i2, i3, i4, i5⟩ := hi
  obtain ⟨kp, hk⟩ := h.at_
  exact ⟨h.ka.same (e _ (Ne.symm i1)) (e _ (Ne.symm i2)) (e _ (Ne.symm i3)) (e _ (Ne.symm i4)), ⟨kp, by rw [e _ (Ne.symm i1)]; exact hk⟩, by rw [e _ (Ne.symm i5)]; exact h.opn⟩
end
theorem cell_eq (ns : List Int) (k : Nat) (M : Mem) : g_law_cell [.fz (intsD ns), .int k] M = .ok (.int (cellV ns k)) M := runB_rt (cell_run ns k M)
theorem oAbs_int (i : Int) (M : Mem) : oAbs [.int i] M = .ok (.int (if i < 0 then -i else i)) M := rfl
theorem flow_eq (ns : List Int) (k : Nat) (M : Mem) (hk : k < 1000) : ∃ s : Fl, s.ok ∧ g_law_flow [.fz (intsD ns), .int k] M = .ok (.ref M.length) (M ++ [s.c]) := by
  obtain ⟨c, hc⟩ : ∃ c, (if cellV ns k < 0 then -cellV ns k else cellV ns k) = c := ⟨_, rfl⟩
  have e0 : oAbs [.int (cellV ns k)] M = .ok (.int c) M := by rw [oAbs_int, hc]
  have h1 : 0 ≤ c % 2147483629 := Int.emod_nonneg _ (by omega)
  have h2 : c % 2147483629 < 2147483629 := Int.emod_lt_of_pos _ (by omega)
  by_cases h : 1000000000000000000 ≤ c
  · refine ⟨⟨c * 1, 0, c % 2147483629 + 40692 * k⟩, ⟨by show _ < _ + _; omega, by show _ + _ < _; omega⟩, runB_rt (N := 3) ?_⟩
    show B_law_flow [some (.fz (intsD ns)), some (.int k), none] M = _
    have m1 : oMul false (.int c) (.int 1) M = .ok (.int (c * 1)) M := oMul_r _ c 1 (by omega) (by omega)
    push_cast [B_law_flow, cell_eq, e0, pow_10_18, decide_eq_true h, m1, oMod_int _ 2147483629 i5, oMul_l _ 40692 _ i11 i12]
    rfl
  · refine ⟨⟨c * 0, 0, c % 2147483629 + 40692 * k⟩, ⟨by show _ < _ + _; omega, by show _ + _ < _; omega⟩, runB_rt (N := 3) ?_⟩
    show B_law_flow [some (.fz (intsD ns)), some (.int k), none] M = _
    have m1 : oMul false (.int c) (.int 0) M = .ok (.int (c * 0)) M := oMul_r _ c 0 (by omega) (by omega)
    push_cast [B_law_flow, cell_eq, e0, pow_10_18, decide_eq_false h, m1, oMod_int _ 2147483629 i5, oMul_l _ 40692 _ i11 i12]
    rfl
theorem ix32 : ixN 3 2 = some 2 := rfl
theorem drawb_run (s : Fl) (hs : s.ok) (i : Nat) (M : Mem) (many : Int) (h0 : 0 < many) (h1 : many < 1000000000000000000000000) (hM : M[i]? = some s.c) :
    ∃ (v : Int) (s' : Fl), 0 ≤ v ∧ v < many ∧ s'.ok ∧ B_law_draw [some (.ref i), some (.int many), none] M = .ok (.rt (.int v)) (M.set i s'.c) := by
  have hi : i < M.length := (List.getElem?_eq_some_iff.mp hM).1
  have hM' : M[i]? = some (.lst [.int s.own, .int s.cnt, .int s.seed]) := hM
  by_cases h : 0 < s.own
  · refine ⟨s.own % many, ⟨s.own / many, s.cnt, s.seed⟩, Int.emod_nonneg _ (by omega), Int.emod_lt_of_pos _ h0, hs, ?_⟩
    push_cast [B_law_draw, oIx_ref hM', at0, decide_eq_true h, oMod_int _ many h0, oDiv_int _ many (div_ok h0 h1 _), gIx_eq, hM', ix30]
    rfl
  · have hset : (M.set i (.lst [.int s.own, .int (s.cnt + 1), .int s.seed]))[i]? = some (.lst [.int s.own, .int (s.cnt + 1), .int s.seed]) := List.getElem?_set_self hi
    obtain ⟨n, hn⟩ : ∃ n, (s.seed * 48271 + 12820163 + (s.cnt + 1)) % 2147483647 = n := ⟨_, rfl⟩
    have b1 : 0 ≤ n := by rw [← hn]; exact Int.emod_nonneg _ (by omega)
    have b2 : n < 2147483647 := by rw [← hn]; exact Int.emod_lt_of_pos _ (by omega)
    have hset2 : (M.set i (.lst [.int s.own, .int (s.cnt + 1), .int n]))[i]? = some (.lst [.int s.own, .int (s.cnt + 1), .int n]) := List.getElem?_set_self hi
    have m1 : ∀ M, oMul false (.int s.seed) (.int 48271) M = .ok (.int (s.seed * 48271)) M := fun M => oMul_l _ _ _ (by have := hs.1; omega) (by have := hs.2; omega)
    have p1 : (0 : Int) < 2147483647 := by omega
    refine ⟨n / 31 % many, ⟨s.own, s.cnt + 1, n⟩, Int.emod_nonneg _ (by omega), Int.emod_lt_of_pos _ h0, ⟨by show _ < n; omega, by show n < _; omega⟩, ?_⟩
    push_cast [B_law_draw, oIx_ref hM', at0, at1, decide_eq_false h, gIx_eq, hM', ix31, oIx_ref hset, hset, at2, m1, oMod_int _ 2147483647 p1, hn, ix32, set_twice, oIx_ref hset2, oDiv_int _ 31 (div_ok i17 i18 _), oMod_int _ many h0]
    rfl
theorem draw_eq {M0 M : Mem} {i : Nat} (h : FlAt M0 i M) (many : Int) (h0 : 0 < many) (h1 : many < 1000000000000000000000000) : ∃ (v : Nat) (M' : Mem), (v : Int) < many ∧ FlAt M0 i M' ∧ g_law_draw [.ref i, .int many] M = .ok (.int v) M' := by
  obtain ⟨s, hs, hM, hk⟩ := h.get
  obtain ⟨v, s', k0, k1, k2, k3⟩ := drawb_run s hs i M many h0 h1 hM
  obtain ⟨n, rfl⟩ : ∃ n : Nat, v = (n : Int) := ⟨v.toNat, by omega⟩
  exact ⟨n, _, k1, hk s' k2, runB_rt (N := 3) k3⟩
abbrev abc : List Nat := [97, 98, 99, 100, 101, 102, 103, 104, 105, 106, 107, 108, 109, 110, 111, 112, 113, 114, 115, 116, 117, 118, 119, 120, 121, 122]
/-- a name: one to six small letters -/
def isNm (w : List Nat) : Bool := decide (1 ≤ w.length) && decide (w.length ≤ 6) && w.all fun c => decide (c ∈ abc)
theorem isNm_iff {w : List Nat} : isNm w = true ↔ 1 ≤ w.length ∧ w.length ≤ 6 ∧ ∀ c ∈ w, c ∈ abc := by
  unfold isNm
  simp only [Bool.and_eq_true, decide_eq_true_eq, List.all_eq_true]
  exact ⟨fun h => ⟨h.1.1, h.1.2, h.2⟩, fun h => ⟨⟨h.1, h.2.1⟩, h.2.2⟩⟩
/-- letters -/
theorem abc_at (v : Int) (h : 0 ≤ v) (h2 : v < 26) : ∃ c, atI abc v = some c ∧ c ∈ abc := atI_some h (by simpa using h2)
theorem word_comp {M0 M : Mem} {i : Nat} (h : FlAt M0 i M) (n : Nat) (hn : n < 1000) (env : Fn.Env) (he : ∀ (x : D), (env.set 4 (some x))[2]? = some (some (.str abc)) ∧ (env.set 4 (some x))[0]? = some (some (.ref i)))
    (f : FE) (hf : f = mOp oIx (mVar 2) (mFun 2 g_law_draw [] (aCons (mVar 0) (aCons (mC (.int 26)) aNil)))) :
    ∃ (w : List Nat) (M' : Mem), w.length = n ∧ (∀ c ∈ w, c ∈ abc) ∧ FlAt M0 i M' ∧ compL (fun _ => True) (gN 4) tsYes f env (rngItems 0 n) M = .ok (w.map fun c => .str [c]) M' := by
  subst hf
  obtain ⟨ys, M2, e2, l2, y2, h2⟩ := compL_inv (g := gN 4) (f := mOp oIx (mVar 2) (mFun 2 g_law_draw [] (aCons (mVar 0) (aCons (mC (.int 26)) aNil)))) (env := env) (fun _ M => FlAt M0 i M) (fun _ _ y => ∃ c : Nat, y = .str [c] ∧ c ∈ abc) (rngItems 0 n) 0 M h fun k d M2 hk h2 => by
    obtain ⟨u, M3, u1, h3, e3⟩ := draw_eq h2 26 (by omega) (by omega)
    obtain ⟨c, hc, hm⟩ := abc_at u (by omega) (by omega)
    obtain ⟨q1, q2⟩ := he d
    refine ⟨.str [c], M3, ?_, ⟨c, rfl, hm⟩, h3⟩
    push_cast [q1, q2, e3, oIx_str (show abc.length ≤ 16777216 by decide) hc]
  have hl : ys.length = n := by rw [l2, rngItems_len]
  have hy : ∀ d ∈ ys, ∃ c : Nat, d = .str [c] ∧ c ∈ abc := fun d hd => allY l2 y2 hd
  obtain ⟨w, hw, lw, rfl⟩ := strsOf_of (l := ys) fun d hd => by obtain ⟨c, h, _⟩ := hy d hd; exact ⟨c, h⟩
  refine ⟨w, M2, by omega, fun c hc => ?_, h2, e2⟩
  obtain ⟨c', e, hm⟩ := hy (.str [c]) (List.mem_map.mpr ⟨c, hc, rfl⟩)
  cases e
  exact hm
theorem join_eq {w : List Nat} {M : Mem} (h : w.length < 10000) : oJoin (.str []) [.lst (w.map fun c => .str [c])] M = .ok (.str w) M := by
  have : strsOf (w.map fun c => D.str [c]) = some (w.map fun c => [c]) := by
    induction w with
    | nil => rfl
    | cons c r ih => simp only [List.map_cons, strsOf, ih (by simp at h; omega)]; rfl
  have hsum : ((w.map fun c => [c]).map (·.length)).sum + (w.map fun c => [c]).length * ([] : List Nat).length ≤ 16777216 := by rw [sum_ones]; simp; omega
  simp only [oJoin, seqOf, lstOf, Option.bind_some, this, hsum, if_true, join_signs]
def bw (w : List Nat) : Prop := isNm w = true
theorem bw_mk {w : List Nat} (h1 : 1 ≤ w.length) (h2 : w.length ≤ 6) (h3 : ∀ c ∈ w, c ∈ abc) : bw w := isNm_iff.mpr ⟨h1, h2, h3⟩
def ltr (f k : Nat) : Nat := 97 + (f + 7 * k) % 26
theorem abc_ix : ∀ n : Nat, n < 26 → atI abc (n : Int) = some (97 + n) ∧ 97 + n ∈ abc := by decide
theorem ltr_mem (f k : Nat) : ltr f k ∈ abc := (abc_ix _ (Nat.mod_lt _ (by omega))).2
theorem ltr_at (f k : Nat) : atI abc (((f : Int) + 7 * (k : Int)) % 26) = some (ltr f k) := by
  rw [show ((f : Int) + 7 * (k : Int)) % 26 = (((f + 7 * k) % 26 : Nat) : Int) by omega]
  exact (abc_ix _ (Nat.mod_lt _ (by omega))).1
theorem ltr_inj {f i j : Nat} (hi : i < 26) (hj : j < 26) (h : ltr f i = ltr f j) : i = j := by unfold ltr at h; omega
def plainN (w : List Nat) (a f k : Nat) : List Nat := w.take a ++ [ltr f k] ++ w.drop a
def oddL (lg k : Nat) : Bool := decide (0 < lg * (k % 2))
def nmF (w : List Nat) (a f lg k : Nat) : List Nat := if oddL lg k = true then plainN w a f (k - 1) ++ [ltr f k] else plainN w a f k
def namesF (w : List Nat) (a f lg n : Nat) : List (List Nat) := (List.range n).map (nmF w a f lg)
theorem plainN_len {w : List Nat} {a f k : Nat} (h : a ≤ w.length) : (plainN w a f k).length = w.length + 1 := by
  unfold plainN; simp; omega
theorem plainN_at {w : List Nat} {a f k : Nat} (h : a ≤ w.length) : (plainN w a f k)[a]? = some (ltr f k) := by
  unfold plainN
  rw [List.append_assoc, List.getElem?_append_right (by rw [List.length_take]; omega), List.length_take, Nat.min_eq_left h, Nat.sub_self]
  rfl
theorem plainN_in {w : List Nat} {a f k : Nat} (hw : ∀ c ∈ w, c ∈ abc) : ∀ c ∈ plainN w a f k, c ∈ abc := fun c hc => by
  unfold plainN at hc
  simp only [List.mem_append, List.mem_singleton] at hc
  rcases hc with (hc | rfl) | hc
  · exact hw c (List.mem_of_mem_take hc)
  · exact ltr_mem f k
  · exact hw c (List.mem_of_mem_drop hc)
theorem nmF_bw {w : List Nat} {a f lg k : Nat} (h : a ≤ w.length) (h4 : w.length ≤ 4) (hw : ∀ c ∈ w, c ∈ abc) : bw (nmF w a f lg k) := by
  unfold nmF
  split
  · refine bw_mk (by rw [List.length_append, plainN_len h]; omega) (by rw [List.length_append, plainN_len h]; simp; omega) fun c hc => ?_
    rcases List.mem_append.mp hc with z | z
    · exact plainN_in hw c z
    · rw [List.mem_singleton.mp z]; exact ltr_mem f k
  · exact bw_mk (by rw [plainN_len h]; omega) (by rw [plainN_len h]; omega) (plainN_in hw)
theorem nmF_at {w : List Nat} {a f lg k : Nat} (h : a ≤ w.length) : (nmF w a f lg k)[a]? = some (ltr f (if oddL lg k = true then k - 1 else k)) := by
  unfold nmF
  split
  · rw [List.getElem?_append_left (by rw [plainN_len h]; omega), plainN_at h]
  · rw [plainN_at h]
theorem nmF_len {w : List Nat} {a f lg k : Nat} (h : a ≤ w.length) : (nmF w a f lg k).length = w.length + 1 + (if oddL lg k = true then 1 else 0) := by
  unfold nmF
  split
  · rw [List.length_append, plainN_len h]; rfl
  · rw [plainN_len h]
theorem oddL_odd {lg k : Nat} (h : oddL lg k = true) : k % 2 = 1 := by
  have := of_decide_eq_true h
  rcases Nat.mod_two_eq_zero_or_one k with z | z
  · rw [z] at this; simp at this
  · exact z
theorem nmF_inj {w : List Nat} {a f lg i j : Nat} (h : a ≤ w.length) (hi : i < 26) (hj : j < 26) (e : nmF w a f lg i = nmF w a f lg j) : i = j := by
  have e1 := congrArg List.length e
  have e2 := congrArg (·[a]?) e
  simp only [nmF_at h, Option.some.injEq] at e2
  rw [nmF_len h, nmF_len h] at e1
  cases ci : oddL lg i <;> cases cj : oddL lg j <;> simp only [ci, cj, if_true, if_false, Bool.false_eq_true] at e1 e2
  · exact ltr_inj hi hj e2
  · omega
  · omega
  · have := ltr_inj (by omega) (by omega) e2
    have h1 := oddL_odd ci
    have h2 := oddL_odd cj
    omega
theorem namesF_nd {w : List Nat} {a f lg n : Nat} (h : a ≤ w.length) (hn : n ≤ 26) : (namesF w a f lg n).Nodup := by
  unfold namesF List.Nodup
  rw [List.pairwise_map]
  refine (List.nodup_range (n := n)).imp_of_mem fun ha hb hne e => hne ?_
  exact nmF_inj h (by have := List.mem_range.mp ha; omega) (by have := List.mem_range.mp hb; omega) e
theorem namesF_len {w : List Nat} {a f lg n : Nat} : (namesF w a f lg n).length = n := by unfold namesF; rw [List.length_map, List.length_range]
theorem namesF_succ {w : List Nat} {a f lg n : Nat} : namesF w a f lg (n + 1) = namesF w a f lg n ++ [nmF w a f lg n] := by unfold namesF; rw [List.range_succ, List.map_append]; rfl
noncomputable def bnS2 : FS := (mIfS (bOf (mOp oGt (mOp (oMul false) (mVar 7) (mOp oMod (mVar 9) (mC (.int 2)))) (mC (.int 0)))) (mSet 10 (mOp (oAdd false) (mSl false (mOp oIx (mVar 8) (mUn oNeg (mC (.int 1)))) pNone (pSome (mCall oLen (aCons (mVar 10) aNil)))) (mOp oIx (mVar 2) (mOp oMod (mOp (oAdd false) (mVar 6) (mOp (oMul false) (mC (.int 7)) (mVar 9))) (mC (.int 26)))))) mPass)
theorem bnames_turn {A : Mem} {N : Nat} (hA : A.length = N) (k : Nat) (hk2 : k < 100) (w : List Nat) (hw : w.length ≤ 4) (v2 v3 v4 : Nat) (h2 : v2 ≤ w.length) (x0 x1 x4 x10 : Option D) :
    L_law_names_1 [x0, x1, some (.str abc), some (.str w), x4, some (.int v2), some (.int v3), some (.int v4), some (.ref N), some (.int (0 + (k : Int))), x10] (A ++ [.lst ((namesF w v2 v3 v4 k).map .str)]) = .ok (.nx [x0, x1, some (.str abc), some (.str w), x4, some (.int v2), some (.int v3), some (.int v4), some (.ref N), some (.int (0 + (k : Int))), some (.str (nmF w v2 v3 v4 k))]) (A ++ [.lst ((namesF w v2 v3 v4 (k + 1)).map .str)]) := by
  have hc1 : atI abc (((v3 : Int) + 7 * (0 + (k : Int))) % 26) = some (ltr v3 k) := by rw [Int.zero_add]; exact ltr_at v3 k
  obtain ⟨c, hc⟩ : ∃ c, ltr v3 k = c := ⟨_, rfl⟩
  have t1 : cutD w none (some (v2 : Int)) = w.take v2 := cutD_take w v2
  have t2 : cutD w (some (v2 : Int)) none = w.drop v2 := cutD_drop w v2
  have ix : oIx (.str abc) (.int (((v3 : Int) + 7 * (0 + (k : Int))) % 26)) = fun M => R.ok (.str [c]) M := by
    funext M
    exact oIx_str (by decide) (by rw [hc1, hc])
  have g8 : ∀ B, (A ++ [Cell.lst B])[N]? = some (.lst B) := fun B => app_get0 hA
  have s8 : ∀ B C, (A ++ [Cell.lst B]).set N (.lst C) = A ++ [.lst C] := fun B C => app_set0 hA
  obtain ⟨n1, hn1⟩ : ∃ n1, w.take v2 ++ [c] ++ w.drop v2 = n1 := ⟨_, rfl⟩
  have hp1 : plainN w v2 v3 k = n1 := by unfold plainN; rw [hc, hn1]
  have ln1 : n1.length = w.length + 1 := by rw [← hn1]; simp; omega
  have a1 : ∀ M, oAdd false (.str (w.take v2)) (.str [c]) M = .ok (.str (w.take v2 ++ [c])) M := fun M => oAdd_str (by simp; omega)
  have a2 : ∀ M, oAdd false (.str (w.take v2 ++ [c])) (.str (w.drop v2)) M = .ok (.str n1) M := fun M => by rw [oAdd_str (by simp; omega), hn1]
  have hS : L_law_names_1 = mSeq (mSet 10 (mOp (oAdd false) (mOp (oAdd false) (mSl false (mVar 3) pNone (pSome (mVar 5))) (mOp oIx (mVar 2) (mOp oMod (mOp (oAdd false) (mVar 6) (mOp (oMul false) (mC (.int 7)) (mVar 9))) (mC (.int 26))))) (mSl false (mVar 3) (pSome (mVar 5)) pNone))) (mSeq bnS2 (mExpr (mMeth "list" oAppend (mVar 8) (aCons (mVar 10) aNil)))) := rfl
  obtain ⟨F, hF⟩ : ∃ F, namesF w v2 v3 v4 k = F := ⟨_, rfl⟩
  obtain ⟨n2, hn2⟩ : ∃ n2, nmF w v2 v3 v4 k = n2 := ⟨_, rfl⟩
  have hFl : F.length = k := by rw [← hF]; exact namesF_len
  have mid : bnS2 [x0, x1, some (.str abc), some (.str w), x4, some (.int v2), some (.int v3), some (.int v4), some (.ref N), some (.int (0 + (k : Int))), some (.str n1)] (A ++ [.lst (F.map .str)]) = .ok (.nx [x0, x1, some (.str abc), some (.str w), x4, some (.int v2), some (.int v3), some (.int v4), some (.ref N), some (.int (0 + (k : Int))), some (.str n2)]) (A ++ [.lst (F.map .str)]) := by
    have hcond : ((0 : Int) < (v4 : Int) * ((0 + (k : Int)) % 2)) ↔ 0 < v4 * (k % 2) := by
      rw [Int.zero_add, show (v4 : Int) * ((k : Int) % 2) = ((v4 * (k % 2) : Nat) : Int) by simp]; omega
    by_cases c1 : (0 : Int) < (v4 : Int) * ((0 + (k : Int)) % 2)
    · have c2 := hcond.mp c1
      have co : oddL v4 k = true := decide_eq_true c2
      have k1 := oddL_odd co
      obtain ⟨k', hk'⟩ : ∃ k', k = k' + 1 := ⟨k - 1, by omega⟩
      have hz : F = namesF w v2 v3 v4 k' ++ [plainN w v2 v3 k'] := by
        rw [← hF, hk', namesF_succ]
        have : oddL v4 k' = false := by
          cases q : oddL v4 k' with
          | false => rfl
          | true => have := oddL_odd q; omega
        rw [show nmF w v2 v3 v4 k' = plainN w v2 v3 k' by unfold nmF; rw [this]; rfl]
      obtain ⟨z, hzz⟩ : ∃ z, plainN w v2 v3 k' = z := ⟨_, rfl⟩
      have z1 : z.length = n1.length := by rw [ln1, ← hzz]; exact plainN_len h2
      rw [hzz] at hz
      have hlast : atI (F.map D.str) (-1) = some (.str z) := by
        rw [hz, List.map_append]
        exact atLast _ _
      have t3 : cutD z none (some (n1.length : Int)) = z := by rw [cutD_take z n1.length, ← z1, List.take_length]
      have hn3 : z ++ [c] = n2 := by
        rw [← hn2, ← hzz, ← hc]
        unfold nmF
        rw [if_pos co, show k - 1 = k' by omega]
      have a3 : ∀ M, oAdd false (.str z) (.str [c]) M = .ok (.str n2) M := fun M => by rw [oAdd_str (by simp; omega), hn3]
      simp -implicitDefEqProofs (disch := first | assumption | omega | (simp only [List.length_cons, List.length_nil, List.length_append, List.length_map, List.length_take, List.length_drop, rngItems_len]; omega)) only [mSeq_eq, mIfS_eq, mSet_eq, mRet_eq, mRetN_eq, mExpr_eq, mPass_eq, mAsg_eq, mPar_eq, mAug_eq, bOf_eq, tOf_eq, tAndM_eq, tOrM_eq, tNotM_eq, tsYes_eq, mOp_eq, mUn_eq, mVar_eq, mC_eq, mCall_eq, mFun_eq, mFunKw_eq, mMeth_eq, mAnd_eq, mOr_eq, mNot_eq, mIf_eq, mChain_eq, mSl_eq, pNone_eq, pSome_eq, aCons_eq, aNil_eq, mTup_eq, mLst_eq, gN_eq, gT_eq, gsNil_eq, gsCons_eq, mkL_t, mkL_f, R.bind_ok, R.bind_no, R.nox_ok, List.getElem?_cons_zero, List.getElem?_cons_succ, List.set_cons_zero, List.set_cons_succ, List.length_cons, List.length_nil, List.append_nil, List.nil_append, List.cons_append, piApp_on, oLen_fz, oLen_lst, oLen_tup, oLt_int, oLe_int, oGt_int, oGe_int, oAdd_int, oSub_int, oIx_fz, oIx_lst, oIx_tup, oMax_int, oMin_int, oInt_bl, oInt_int, oIsi_bl, oNeg_int, oTuple_lst, oTuple_tup, iR1_eq, iR2_eq, iSq_eq, iStrM_eq, srcOf_tup, srcOf_lst, srcOf_fz, if_true, if_false, Bool.false_eq_true, Bool.true_eq_false, reduceIte, Nat.reduceAdd, Nat.reduceLeDiff, Nat.reduceEqDiff, Bool.not_true, Bool.not_false, decide_true, decide_false, and_self, and_true, true_and, oMod_int, oMul_r, oMul_l, oLen_str, oAdd_str, oSl_str, oSl_tup, oSl_lst, oSl_fz, rngOk_of, oEq_int, oEq_bl, beq_self_eq_true, Int.toNat_natCast, mFor_eq, mLc_eq, app_get0, app_get1, app_set0, app_set1, tyOk, oTuple_ref, oList_ref, oLen_refM, oIx_refM, oAppM, oExtM, srcOf_refM, ifLt24, ifLe24, bnS2, decide_eq_true c1, g8, List.length_map, hlast, t3, ix, a3]
    · have co : oddL v4 k = false := decide_eq_false fun z => c1 (hcond.mpr z)
      have : n1 = n2 := by rw [← hn2, ← hp1]; unfold nmF; rw [co]; rfl
      rw [this]
      simp -implicitDefEqProofs (disch := first | assumption | omega | (simp only [List.length_cons, List.length_nil, List.length_append, List.length_map, List.length_take, List.length_drop, rngItems_len]; omega)) only [mSeq_eq, mIfS_eq, mSet_eq, mRet_eq, mRetN_eq, mExpr_eq, mPass_eq, mAsg_eq, mPar_eq, mAug_eq, bOf_eq, tOf_eq, tAndM_eq, tOrM_eq, tNotM_eq, tsYes_eq, mOp_eq, mUn_eq, mVar_eq, mC_eq, mCall_eq, mFun_eq, mFunKw_eq, mMeth_eq, mAnd_eq, mOr_eq, mNot_eq, mIf_eq, mChain_eq, mSl_eq, pNone_eq, pSome_eq, aCons_eq, aNil_eq, mTup_eq, mLst_eq, gN_eq, gT_eq, gsNil_eq, gsCons_eq, mkL_t, mkL_f, R.bind_ok, R.bind_no, R.nox_ok, List.getElem?_cons_zero, List.getElem?_cons_succ, List.set_cons_zero, List.set_cons_succ, List.length_cons, List.length_nil, List.append_nil, List.nil_append, List.cons_append, piApp_on, oLen_fz, oLen_lst, oLen_tup, oLt_int, oLe_int, oGt_int, oGe_int, oAdd_int, oSub_int, oIx_fz, oIx_lst, oIx_tup, oMax_int, oMin_int, oInt_bl, oInt_int, oIsi_bl, oNeg_int, oTuple_lst, oTuple_tup, iR1_eq, iR2_eq, iSq_eq, iStrM_eq, srcOf_tup, srcOf_lst, srcOf_fz, if_true, if_false, Bool.false_eq_true, Bool.true_eq_false, reduceIte, Nat.reduceAdd, Nat.reduceLeDiff, Nat.reduceEqDiff, Bool.not_true, Bool.not_false, decide_true, decide_false, and_self, and_true, true_and, oMod_int, oMul_r, oMul_l, oLen_str, oAdd_str, oSl_str, oSl_tup, oSl_lst, oSl_fz, rngOk_of, oEq_int, oEq_bl, beq_self_eq_true, Int.toNat_natCast, mFor_eq, mLc_eq, app_get0, app_get1, app_set0, app_set1, tyOk, oTuple_ref, oList_ref, oLen_refM, oIx_refM, oAppM, oExtM, srcOf_refM, ifLt24, ifLe24, bnS2, decide_eq_false c1]
  have hl : (F.map D.str).length < 16777216 := by rw [List.length_map]; omega
  have hfin : F.map D.str ++ [.str n2] = (namesF w v2 v3 v4 (k + 1)).map .str := by rw [namesF_succ, hF, hn2, List.map_append]; rfl
  rw [hS, hF, hn2]
  simp -implicitDefEqProofs (disch := first | assumption | omega | (simp only [List.length_cons, List.length_nil, List.length_append, List.length_map, List.length_take, List.length_drop, rngItems_len]; omega)) only [mSeq_eq, mIfS_eq, mSet_eq, mRet_eq, mRetN_eq, mExpr_eq, mPass_eq, mAsg_eq, mPar_eq, mAug_eq, bOf_eq, tOf_eq, tAndM_eq, tOrM_eq, tNotM_eq, tsYes_eq, mOp_eq, mUn_eq, mVar_eq, mC_eq, mCall_eq, mFun_eq, mFunKw_eq, mMeth_eq, mAnd_eq, mOr_eq, mNot_eq, mIf_eq, mChain_eq, mSl_eq, pNone_eq, pSome_eq, aCons_eq, aNil_eq, mTup_eq, mLst_eq, gN_eq, gT_eq, gsNil_eq, gsCons_eq, mkL_t, mkL_f, R.bind_ok, R.bind_no, R.nox_ok, List.getElem?_cons_zero, List.getElem?_cons_succ, List.set_cons_zero, List.set_cons_succ, List.length_cons, List.length_nil, List.append_nil, List.nil_append, List.cons_append, piApp_on, oLen_fz, oLen_lst, oLen_tup, oLt_int, oLe_int, oGt_int, oGe_int, oAdd_int, oSub_int, oIx_fz, oIx_lst, oIx_tup, oMax_int, oMin_int, oInt_bl, oInt_int, oIsi_bl, oNeg_int, oTuple_lst, oTuple_tup, iR1_eq, iR2_eq, iSq_eq, iStrM_eq, srcOf_tup, srcOf_lst, srcOf_fz, if_true, if_false, Bool.false_eq_true, Bool.true_eq_false, reduceIte, Nat.reduceAdd, Nat.reduceLeDiff, Nat.reduceEqDiff, Bool.not_true, Bool.not_false, decide_true, decide_false, and_self, and_true, true_and, oMod_int, oMul_r, oMul_l, oLen_str, oAdd_str, oSl_str, oSl_tup, oSl_lst, oSl_fz, rngOk_of, oEq_int, oEq_bl, beq_self_eq_true, Int.toNat_natCast, mFor_eq, mLc_eq, app_get0, app_get1, app_set0, app_set1, tyOk, oTuple_ref, oList_ref, oLen_refM, oIx_refM, oAppM, oExtM, srcOf_refM, ifLt24, ifLe24, t1, t2, ix, a1, a2, mid, g8, oAppend_at (g8 _) hl, s8, hfin]
theorem names_eq {M0 M : Mem} {i : Nat} (h : FlAt M0 i M) (many : Nat) (hm : many ≤ 26) : ∃ (F : List (List Nat)) (M' : Mem), (∀ w ∈ F, bw w) ∧ F.Nodup ∧ F.length = many ∧ FlAt M0 i M' ∧ g_law_names [.ref i, .int many] M = .ok (.lst (F.map .str)) M' := by
  obtain ⟨v, M1, v1, h1, e1⟩ := draw_eq h.self 5 (by omega) (by omega)
  obtain ⟨w, M2, lw, aw, h2, e2⟩ := word_comp h1 v (by omega) (wipeE [some (.ref i), some (.int many), some (.str abc), none, none, none, none, none, none, none, none] [4]) (fun x => ⟨rfl, rfl⟩) C_law_names_0 rfl
  obtain ⟨v2, M3, p2, h3, e3⟩ := draw_eq h2 (w.length + 1) (by omega) (by omega)
  obtain ⟨v3, M4, p3, h4, e4⟩ := draw_eq h3 26 (by omega) (by omega)
  obtain ⟨v4, A, p4, h5, e5⟩ := draw_eq h4 2 (by omega) (by omega)
  have hA : A.length = M.length := h5.len
  obtain ⟨env', m', e6, y9, y10, rfl, rfl⟩ := forL_inv (g := gN 9) (body := L_law_names_1) (fun k env M2 => ∃ (y9 y10 : Option D), env = [some (.ref i), some (.int many), some (.str abc), some (.str w), none, some (.int v2), some (.int v3), some (.int v4), some (.ref M.length), y9, y10] ∧ M2 = A ++ [.lst ((namesF w v2 v3 v4 k).map .str)]) (rngItems 0 many) 0 [some (.ref i), some (.int many), some (.str abc), some (.str w), none, some (.int v2), some (.int v3), some (.int v4), some (.ref M.length), none, none] (A ++ [.lst []])
    ⟨none, none, rfl, rfl⟩ (by
      rintro k d env M2 hk ⟨y9, y10, rfl, rfl⟩
      obtain ⟨rfl, hkm⟩ := rngItems_get hk
      rw [Nat.zero_add]
      exact ⟨_, _, bnames_turn hA k (by omega) w (by omega) v2 v3 v4 (by omega) (some (.ref i)) (some (.int many)) none y10, _, _, rfl, rfl⟩)
  rw [rngItems_len, Nat.zero_add] at e6
  have hv2 : v2 ≤ w.length := by omega
  refine ⟨namesF w v2 v3 v4 many, A, fun x hx => ?_, namesF_nd hv2 hm, namesF_len, h.trans h5, ?_⟩
  · obtain ⟨k, _, rfl⟩ := List.mem_map.mp hx
    exact nmF_bw hv2 (by omega) aw
  obtain ⟨F, hF⟩ : ∃ F, namesF w v2 v3 v4 many = F := ⟨_, rfl⟩
  rw [hF] at e6 ⊢
  have hB : B_law_names [some (.ref i), some (.int many), none, none, none, none, none, none, none, none, none] M = .ok (.rt (.ref M.length)) (A ++ [.lst (F.map .str)]) := by
    have hj : oJoin (.str []) [.lst (w.map fun c => .str [c])] M2 = .ok (.str w) M2 := join_eq (by omega)
    simp -implicitDefEqProofs (disch := first | assumption | omega | (simp only [List.length_cons, List.length_nil, List.length_append, List.length_map, List.length_take, List.length_drop, rngItems_len]; omega)) only [mSeq_eq, mIfS_eq, mSet_eq, mRet_eq, mRetN_eq, mExpr_eq, mPass_eq, mAsg_eq, mPar_eq, mAug_eq, bOf_eq, tOf_eq, tAndM_eq, tOrM_eq, tNotM_eq, tsYes_eq, mOp_eq, mUn_eq, mVar_eq, mC_eq, mCall_eq, mFun_eq, mFunKw_eq, mMeth_eq, mAnd_eq, mOr_eq, mNot_eq, mIf_eq, mChain_eq, mSl_eq, pNone_eq, pSome_eq, aCons_eq, aNil_eq, mTup_eq, mLst_eq, gN_eq, gT_eq, gsNil_eq, gsCons_eq, mkL_t, mkL_f, R.bind_ok, R.bind_no, R.nox_ok, List.getElem?_cons_zero, List.getElem?_cons_succ, List.set_cons_zero, List.set_cons_succ, List.length_cons, List.length_nil, List.append_nil, List.nil_append, List.cons_append, piApp_on, oLen_fz, oLen_lst, oLen_tup, oLt_int, oLe_int, oGt_int, oGe_int, oAdd_int, oSub_int, oIx_fz, oIx_lst, oIx_tup, oMax_int, oMin_int, oInt_bl, oInt_int, oIsi_bl, oNeg_int, oTuple_lst, oTuple_tup, iR1_eq, iR2_eq, iSq_eq, iStrM_eq, srcOf_tup, srcOf_lst, srcOf_fz, if_true, if_false, Bool.false_eq_true, Bool.true_eq_false, reduceIte, Nat.reduceAdd, Nat.reduceLeDiff, Nat.reduceEqDiff, Bool.not_true, Bool.not_false, decide_true, decide_false, and_self, and_true, true_and, oMod_int, oMul_r, oMul_l, oLen_str, oAdd_str, oSl_str, oSl_tup, oSl_lst, oSl_fz, rngOk_of, oEq_int, oEq_bl, beq_self_eq_true, Int.toNat_natCast, mFor_eq, mLc_eq, app_get0, app_get1, app_set0, app_set1, tyOk, oTuple_ref, oList_ref, oLen_refM, oIx_refM, oAppM, oExtM, srcOf_refM, ifLt24, ifLe24, B_law_names, e1, e2, hj, e3, e4, e5, mPar3_eq, hA, e6]
  exact gc_flow (n := 0) h5 (runB_rt (N := 11) hB) (plL_str F)
structure Sh (w n : Nat) (p : PyData) : Prop where
  s : p.showable = true
  l : p.leavesShort 13 = true
  w : p.weight ≤ w
  d : p.depth ≤ n
  f : noL p = true
structure ShL (w n : Nat) (p : List PyData) : Prop where
  s : PyData.showableAll p = true
  l : PyData.leavesShortAll 13 p = true
  w : PyData.weightAll p ≤ w
  d : PyData.depthAll p ≤ n
  f : noLAll p = true
structure ShK (w n : Nat) (p : List (PyData × PyData)) : Prop where
  s : PyData.showableKv p = true
  l : PyData.leavesShortKv 13 p = true
  w : PyData.weightKv p ≤ w
  d : PyData.depthKv p ≤ n
  f : noLKv p = true
theorem Sh.ok {w n : Nat} {p : PyData} (h : Sh w n p) (hw : w ≤ 2 ^ 20) (hn : n ≤ 60) : showOk p := ⟨h.s, h.l, Nat.le_trans h.w hw, Nat.le_trans h.d hn, fun _ => h.f⟩
theorem Sh.mono {w n w' n' : Nat} {p : PyData} (h : Sh w n p) (hw : w ≤ w') (hn : n ≤ n') : Sh w' n' p := ⟨h.s, h.l, Nat.le_trans h.w hw, Nat.le_trans h.d hn, h.f⟩
theorem ShL.nil {n : Nat} : ShL 0 n [] := ⟨rfl, rfl, Nat.le_refl _, Nat.zero_le _, rfl⟩
theorem ShL.cons {w w' n : Nat} {p : PyData} {ps : List PyData} (h : Sh w n p) (t : ShL w' n ps) : ShL (w + 1 + w') n (p :: ps) :=
  ⟨by simp only [PyData.showableAll, h.s, t.s, Bool.and_self], by simp only [PyData.leavesShortAll, h.l, t.l, Bool.and_self], by have := h.w; have := t.w; simp only [PyData.weightAll]; omega, by have := h.d; have := t.d; simp only [PyData.depthAll]; omega, by simp only [noLAll, h.f, t.f, Bool.and_self]⟩
theorem ShK.nil {n : Nat} : ShK 0 n [] := ⟨rfl, rfl, Nat.le_refl _, Nat.zero_le _, rfl⟩
theorem ShK.cons {w w1 w' n : Nat} {k p : PyData} {ps : List (PyData × PyData)} (hk : Sh w1 n k) (h : Sh w n p) (t : ShK w' n ps) : ShK (w1 + w + 2 + w') n ((k, p) :: ps) :=
  ⟨by simp only [PyData.showableKv, hk.s, h.s, t.s, Bool.and_self], by simp only [PyData.leavesShortKv, hk.l, h.l, t.l, Bool.and_self], by have := h.w; have := hk.w; have := t.w; simp only [PyData.weightKv]; omega, by have := h.d; have := hk.d; have := t.d; simp only [PyData.depthKv]; omega, by simp only [noLKv, h.f, t.f, Bool.and_self]⟩
theorem Sh.tup {w n : Nat} {ps : List PyData} (h : ShL w n ps) : Sh w (n + 1) (.tuple ps) :=
  ⟨by simpa only [PyData.showable] using h.s, by simpa only [PyData.leavesShort] using h.l, by simpa only [PyData.weight] using h.w, by have := h.d; simp only [PyData.depth]; omega, by simpa only [noL] using h.f⟩
theorem Sh.dict {w n : Nat} {ps : List (PyData × PyData)} (h : ShK w n ps) : Sh w (n + 1) (.dict ps) :=
  ⟨by simpa only [PyData.showable] using h.s, by simpa only [PyData.leavesShort] using h.l, by simpa only [PyData.weight] using h.w, by have := h.d; simp only [PyData.depth]; omega, by simpa only [noL] using h.f⟩
theorem Sh.non : Sh 0 0 .none := ⟨rfl, rfl, Nat.le_refl _, Nat.le_refl _, rfl⟩
theorem log_le {i : Nat} (h : i < 2 ^ 31) : i.log2 < 31 := by
  rcases Nat.eq_zero_or_pos i with z | z
  · subst z; simp
  · exact (Nat.log2_lt (by omega)).mpr h
theorem Sh.int {i : Int} (h0 : 0 ≤ i) (h1 : i < 1000000000) : Sh 31 0 (.int i) := by
  have hn : i.natAbs < 2 ^ 31 := by omega
  have hl := log_le hn
  refine ⟨?_, ?_, ?_, Nat.le_refl _, rfl⟩
  · simp only [PyData.showable, decide_eq_true_eq]; omega
  · simp only [PyData.leavesShort, decide_eq_true_eq]
    exact PyData.shown_int_le (by omega)
  · simp only [PyData.weight]
    split <;> omega
theorem Sh.str {w : List Nat} {n : Nat} (h : w.length ≤ n) (hc : ∀ c ∈ w, c < 1000000) : Sh n 0 (.str (l2s w)) := by
  refine ⟨rfl, ?_, ?_, Nat.le_refl _, rfl⟩
  · simp only [PyData.leavesShort, l2s, List.all_eq_true, decide_eq_true_eq, List.toList_toArray]
    intro c hc'
    have := hc c hc'
    omega
  · simpa only [PyData.weight, l2s, List.size_toArray] using h
/-- what an exact thing shows, to a bound -/
def ShD (w n : Nat) (d : D) : Prop := ∃ p, (∀ k, pyGo k d = some p) ∧ Sh w n p
def ShLD (w n : Nat) (l : List D) : Prop := ∃ p, (∀ k, pyGoL k l = some p) ∧ ShL w n p
theorem ShD.mono {w n w' n' : Nat} {p : D} (h : ShD w n p) (hw : w ≤ w') (hn : n ≤ n') : ShD w' n' p := by
  obtain ⟨p, h1, h2⟩ := h; exact ⟨p, h1, h2.mono hw hn⟩
theorem ShLD.nil {n : Nat} : ShLD 0 n [] := ⟨[], fun _ => rfl, .nil⟩
theorem ShLD.cons {w w' n : Nat} {d : D} {l : List D} (h : ShD w n d) (t : ShLD w' n l) : ShLD (w + 1 + w') n (d :: l) := by
  obtain ⟨p, h1, h2⟩ := h
  obtain ⟨q, t1, t2⟩ := t
  exact ⟨p :: q, fun k => by simp only [pyGoL, h1, t1], ShL.cons h2 t2⟩
theorem ShD.tup {w n : Nat} {l : List D} (h : ShLD w n l) : ShD w (n + 1) (.tup l) := by
  obtain ⟨p, h1, h2⟩ := h
  exact ⟨.tuple p, fun k => by simp only [pyGo, h1, Option.map_some], .tup h2⟩
theorem ShD.int {i : Int} (h0 : 0 ≤ i) (h1 : i < 1000000000) : ShD 31 0 (.int i) := ⟨.int i, fun _ => rfl, .int h0 h1⟩
theorem ShD.non : ShD 0 0 .non := ⟨.none, fun _ => rfl, .non⟩
theorem ShD.str {w : List Nat} {n : Nat} (h : w.length ≤ n) (hc : ∀ c ∈ w, c < 1000000) : ShD n 0 (.str w) := ⟨_, fun _ => rfl, .str h hc⟩
theorem ShLD.all {w n m : Nat} {l : List D} (hl : l.length ≤ m) (h : ∀ d ∈ l, ShD w n d) : ShLD ((w + 1) * m) n l := by
  suffices ∀ l : List D, (∀ d ∈ l, ShD w n d) → ShLD ((w + 1) * l.length) n l by
    obtain ⟨p, h1, h2⟩ := this l h
    exact ⟨p, h1, ⟨h2.s, h2.l, Nat.le_trans h2.w (Nat.mul_le_mul_left _ hl), h2.d, h2.f⟩⟩
  intro l
  induction l with
  | nil => intro _; exact .nil
  | cons d r ih =>
    intro h
    have e := ShLD.cons (h d (List.mem_cons_self ..)) (ih fun y hy => h y (List.mem_cons_of_mem _ hy))
    rw [List.length_cons, Nat.mul_add, Nat.mul_one, Nat.add_comm]
    exact e
mutual
theorem py_nd : ∀ {d : D} {p : PyData}, pyD d = some p → p.hasDict = false
  | .non, p, e => by cases e; rfl
  | .bl b, p, e => by cases e; rfl
  | .int i, p, e => by cases e; rfl
  | .str x, p, e => by cases e; rfl
  | .tup l, p, e => by
    simp only [pyD] at e
    cases q : pyL l with
    | none => rw [q] at e; cases e
    | some ps => rw [q] at e; cases e; simp only [PyData.hasDict]; exact pyL_nd q
  | .ct l, p, e => by
    simp only [pyD] at e
    cases q : pyL l with
    | none => rw [q] at e; cases e
    | some ps => rw [q] at e; cases e; simp only [PyData.hasDict]; exact pyL_nd q
  | .lst l, p, e => by
    simp only [pyD] at e
    cases q : pyL l with
    | none => rw [q] at e; cases e
    | some ps => rw [q] at e; cases e; simp only [PyData.hasDict]; exact pyL_nd q
  | .fz l, p, e => by
    simp only [pyD] at e
    cases q : pyL l with
    | none => rw [q] at e; cases e
    | some ps => rw [q] at e; cases e; simp only [PyData.hasDict]; exact pyL_nd q
  | .ref i, p, e => by cases e
theorem pyL_nd : ∀ {l : List D} {ps : List PyData}, pyL l = some ps → PyData.hasDictAll ps = false
  | [], ps, e => by cases e; rfl
  | d :: r, ps, e => by
    simp only [pyL] at e
    split at e
    · rename_i a b h1 h2
      cases e
      simp only [PyData.hasDictAll, py_nd h1, pyL_nd h2, Bool.or_self]
    · cases e
end
theorem repr_list {w n m : Nat} {T : List D} (h : ShLD w n T) (pl : PlL m T) (hw : w ≤ 2 ^ 20) (hn : n ≤ 50) : ∃ s, (∀ M, oRepr [.lst T] M = .ok (.str s) M) ∧ ∀ (M : Mem) (b : Nat), M[b]? = some (.lst T) → oRepr [.ref b] M = .ok (.str s) M := by
  obtain ⟨ps, p1, p2⟩ := h
  obtain ⟨ps', q1, _⟩ := pl.py
  have q2 := pyGoL_of (k := fun _ => none) q1
  rw [p1] at q2
  cases q2
  have sk : showOk (.list ps) := by
    refine ⟨by simpa only [PyData.showable] using p2.s, by simpa only [PyData.leavesShort] using p2.l, ?_, ?_, fun z => ?_⟩
    · have := p2.w; simp only [PyData.weight]; omega
    · have := p2.d; simp only [PyData.depth]; omega
    · simp only [PyData.hasDict] at z
      rw [pyL_nd q1] at z; cases z
  refine ⟨(PyData.list ps).shown.cps.toList, fun M => ?_, fun M b hb => ?_⟩
  · have e : pyR M (.lst T) = some (.list ps) := by
      show pyGo (kR M 4) (.lst T) = _
      simp only [pyGo, p1, Option.map_some]
    simp only [oRepr, e]
    rw [if_pos sk]
  · have e : pyR M (.ref b) = some (.list ps) := by
      show pyGo (kR M 4) (.ref b) = _
      simp only [pyGo, kR, hb, p1, Option.map_some]
    simp only [oRepr, e]
    rw [if_pos sk]
def Wd6 (w : Nm) : Prop := w.length ≤ 6 ∧ ∀ c ∈ w, c < 1000000
theorem sh_pt {p : Pt} (h1 : Wd6 p.1) (h2 : Wd6 p.2) : ShD 14 1 (ptD p) :=
  (ShD.tup (n := 0) (ShLD.cons (ShD.str h1.1 h1.2) (ShLD.cons (ShD.str h2.1 h2.2) .nil))).mono (by omega) (by omega)
theorem sh_rs {l : List Nm} (h : l.length ≤ 8 ∧ ∀ w ∈ l, Wd6 w) : ShD 56 1 (strT l) :=
  (ShD.tup (n := 0) (ShLD.all (w := 6) (m := 8) (by rw [List.length_map]; exact h.1) fun d hd => by
    obtain ⟨w, hw, rfl⟩ := List.mem_map.mp hd
    exact ShD.str (h.2 w hw).1 (h.2 w hw).2)).mono (by omega) (by omega)
theorem sh_nat {n : Nat} (h : n < 1000000) : ShD 31 0 (.int (n : Int)) := ShD.int (by omega) (by omega)
theorem snocInd {α : Type} {P : List α → Prop} (h0 : P []) (h1 : ∀ l a, P l → P (l ++ [a])) : ∀ l, P l := by
  suffices ∀ l : List α, P l.reverse from fun l => by have := this l.reverse; rwa [List.reverse_reverse] at this
  intro l
  induction l with
  | nil => exact h0
  | cons a l ih => rw [List.reverse_cons]; exact h1 _ _ ih
section
variable (a0 a1 a3 a4 a5 a6 a7 a8 : Nm)
def HHs : List Hu := [⟨a0, [a3], [], [a5]⟩, ⟨a1, [a4], [⟨a5, [111, 119, 110], .tup []⟩], []⟩]
def QQs : List Rt := [⟨(a0, a5), [a6], 2, (a0, a3), none⟩, ⟨(a1, a4), [[103, 105, 118, 101]], 1, (a0, a3), none⟩, ⟨(a1, a5), [[99, 97, 108, 108]], 1, (a0, a3), none⟩]
def PP0 : Pu := ⟨a0, 0, (a0, a5), [a6], 2, none⟩
def PP1 : Pu := ⟨a1, 0, (a1, a4), [[103, 105, 118, 101]], 1, none⟩
def PP2 : Pu := ⟨a1, 1, (a1, a5), [[99, 97, 108, 108]], 1, none⟩
def LL0 : List Rw5 := [.root 0 ⟨0, (a0, a5), [a6], 2, (a0, a3), none⟩, .oth putN 0 (puL (a0, a3) (PP0 a0 a5 a6)), .oth putN 0 (puL (a0, a3) (PP1 a1 a4)), .oth putN 0 (puL (a0, a3) (PP2 a1 a5))]
def asR (z : (Nat × Wh) × Nat) : Rw5 := askR z.1.1 z.2 (whD z.1.2)
def rowsW (ls : List (Nat × Wh)) : List Rw5 := LL0 a0 a1 a3 a4 a5 a6 ++ ls.zipIdx.map asR
inductive WhK : Wh → Prop
  | hand (far : Nat) (h : far < 2) : WhK (.hand (a0, a3) a0 0 [a6] far 0 (a1, a4))
  | cut (hn : Nm) (n m : Nat) (h : hn = a0 ∨ hn = a1) (hn2 : n < 4) (hm : m < 3) : WhK (.cut (a0, a3) hn n m)
  | call (x : D) (h : x = .str a7 ∨ x = .non ∨ ∃ v : Nat, v < 1000000000 ∧ x = .int v) : WhK (.call (a0, a3) 1 (a1, a5) a8 x)
variable {a0 a1 a3 a4 a5 a6 a7 a8}
theorem bgW_eq (h : a0 ≠ a1) : bgW (QQs a0 a1 a3 a4 a5 a6) a0 = LL0 a0 a1 a3 a4 a5 a6 := by
  have h' : a1 ≠ a0 := Ne.symm h
  have e1 : rtsO (QQs a0 a1 a3 a4 a5 a6) a0 (QQs a0 a1 a3 a4 a5 a6).length = [(⟨(a0, a5), [a6], 2, (a0, a3), none⟩, 0)] := by
    simp [rtsO, QQs, List.zipIdx, List.filter, h', decide_eq_true]
  have e2 : ptsO (QQs a0 a1 a3 a4 a5 a6) a0 (QQs a0 a1 a3 a4 a5 a6).length = [(⟨(a0, a5), [a6], 2, (a0, a3), none⟩, 0), (⟨(a1, a4), [[103, 105, 118, 101]], 1, (a0, a3), none⟩, 1), (⟨(a1, a5), [[99, 97, 108, 108]], 1, (a0, a3), none⟩, 2)] := by
    simp [ptsO, QQs, List.zipIdx, List.filter, decide_eq_true]
  have n0 : nmA (QQs a0 a1 a3 a4 a5 a6) 0 = 0 := by simp [nmA, numO, QQs]
  have n1 : nmA (QQs a0 a1 a3 a4 a5 a6) 1 = 0 := by simp [nmA, numO, QQs, h, List.filter]
  have n2 : nmA (QQs a0 a1 a3 a4 a5 a6) 2 = 1 := by simp [nmA, numO, QQs, h, List.filter]
  unfold bgW
  rw [e1, e2]
  simp only [List.map_cons, List.map_nil, rootW, putW, n0, n1, n2, List.cons_append, List.nil_append]
  rfl
theorem LL0_puts : putsOf (LL0 a0 a1 a3 a4 a5 a6) (a0, a3) = [PP0 a0 a5 a6, PP1 a1 a4, PP2 a1 a5] := by
  unfold putsOf LL0
  have r : ∀ g, putOf (a0, a3) (.root 0 g) = none := fun _ => rfl
  simp only [List.filterMap_cons, r, putOf_put, List.filterMap_nil]
theorem LL0_mem {r : Rw5} (h : r ∈ LL0 a0 a1 a3 a4 a5 a6) : (∃ g, r = .root 0 g) ∨ ∃ x, r = .oth putN 0 (puL (a0, a3) x) := by
  unfold LL0 at h
  simp only [List.mem_cons, List.not_mem_nil, or_false] at h
  rcases h with rfl | rfl | rfl | rfl
  · exact .inl ⟨_, rfl⟩
  all_goals exact .inr ⟨_, rfl⟩
theorem plain_asks : ∀ {l : List Rw5}, (∀ r ∈ l, r.w ≠ askN ∧ r.w ≠ answerN) → asksL l = [] := fun {l} => by
  suffices ∀ (l : List Rw5) (S : List As), (∀ r ∈ l, r.w ≠ askN ∧ r.w ≠ answerN) → l.foldl askF S = S from this l []
  intro l
  induction l with
  | nil => intro S _; rfl
  | cons r l ih =>
    intro S h
    have h1 := h r (List.mem_cons_self ..)
    rw [List.foldl_cons, askF_other _ _ h1.1 h1.2]
    exact ih S fun x hx => h x (List.mem_cons_of_mem _ hx)
theorem LL0_w {r : Rw5} (h : r ∈ LL0 a0 a1 a3 a4 a5 a6) : r.w ≠ askN ∧ r.w ≠ answerN := by
  rcases LL0_mem h with ⟨g, rfl⟩ | ⟨x, rfl⟩
  · exact ⟨show rootN ≠ askN by decide, show rootN ≠ answerN by decide⟩
  · exact ⟨show putN ≠ askN by decide, show putN ≠ answerN by decide⟩
theorem rows_snoc (ls : List (Nat × Wh)) (x : Nat × Wh) : rowsW a0 a1 a3 a4 a5 a6 (ls ++ [x]) = rowsW a0 a1 a3 a4 a5 a6 ls ++ [askR x.1 ls.length (whD x.2)] := by
  unfold rowsW
  rw [List.zipIdx_append, List.map_append, List.append_assoc]
  simp only [List.zipIdx_cons, List.zipIdx_nil, List.map_cons, List.map_nil, asR, Nat.zero_add]
theorem rows_len (ls : List (Nat × Wh)) : (rowsW a0 a1 a3 a4 a5 a6 ls).length = 4 + ls.length := by simp [rowsW, LL0]; omega
theorem whk_ex {x : Wh} (h : WhK a0 a1 a3 a4 a5 a6 a7 a8 x) : exD (whD x) = true ∧ dpD (whD x) ≤ 3 := by
  cases h with
  | hand far h => exact ⟨by simp [whD, whL, exD, exL, ptD, strT], by simp [whD, whL, dpD, dpL, ptD, strT]⟩
  | cut hn n m => exact ⟨by simp [whD, whL, exD, exL, ptD], by simp [whD, whL, dpD, dpL, ptD]⟩
  | call x h =>
    rcases h with rfl | rfl | ⟨v, _, rfl⟩
    all_goals exact ⟨by simp [whD, whL, exD, exL, ptD], by simp [whD, whL, dpD, dpL, ptD]⟩
theorem rows_facts (h01 : a0 ≠ a1) : ∀ ls : List (Nat × Wh), (∀ x ∈ ls, WhK a0 a1 a3 a4 a5 a6 a7 a8 x.2) → (∀ r ∈ rowsW a0 a1 a3 a4 a5 a6 ls, RwOk r ∧ PutOk r) ∧ AskL (rowsW a0 a1 a3 a4 a5 a6 ls) ∧ asksL (rowsW a0 a1 a3 a4 a5 a6 ls) = ls.map asW ∧ putsOf (rowsW a0 a1 a3 a4 a5 a6 ls) (a0, a3) = [PP0 a0 a5 a6, PP1 a1 a4, PP2 a1 a5] := by
  refine snocInd (fun _ => ?_) fun ls x ih hk => ?_
  · have e : rowsW a0 a1 a3 a4 a5 a6 [] = LL0 a0 a1 a3 a4 a5 a6 := by simp [rowsW]
    rw [e]
    refine ⟨fun r hr => ?_, fun k r hk => .other _ (LL0_w (List.mem_of_getElem? hk)).1 (LL0_w (List.mem_of_getElem? hk)).2, plain_asks fun r hr => LL0_w hr, LL0_puts⟩
    have rh : RowH r := by rw [← bgW_eq h01] at hr; exact bg_rowh r hr
    exact ⟨rowh_ok rh, rowh_po rh⟩
  · obtain ⟨h1, h2, h3, h4⟩ := ih fun y hy => hk y (List.mem_append_left _ hy)
    obtain ⟨e1, e2⟩ := whk_ex (hk x (by simp))
    rw [rows_snoc]
    have nw : askN ≠ putN := by decide
    refine ⟨fun r hr => ?_, ?_, ?_, ?_⟩
    · rcases List.mem_append.mp hr with h | h
      · exact h1 r h
      · rw [List.mem_singleton] at h
        subst h
        refine ⟨⟨by decide, by decide, by decide, by decide, ?_, ?_, by simp⟩, by decide, fun z => absurd z nw⟩
        · simp [exL, e1, exD]
        · simp [dpL, dpD]; omega
    · refine h2.snoc ?_
      have := AskS.ask (S := asksL (rowsW a0 a1 a3 a4 a5 a6 ls)) x.1 (whD x.2)
      rw [h3, List.length_map] at this
      rw [h3]
      exact this
    · rw [asksL_snoc, askF_ask, h3, List.map_append]
      rfl
    · have : putOf (a0, a3) (askR x.1 ls.length (whD x.2)) = none := putOf_no _ _ nw
      unfold putsOf at h4 ⊢
      rw [List.filterMap_append, h4]
      simp [this]
theorem rows_rs (h01 : a0 ≠ a1) {ls : List (Nat × Wh)} (hk : ∀ x ∈ ls, WhK a0 a1 a3 a4 a5 a6 a7 a8 x.2) (hl : ls.length ≤ 100) : RsOk (rowsW a0 a1 a3 a4 a5 a6 ls) a0 a3 := by
  obtain ⟨h1, h2, h3, h4⟩ := rows_facts h01 ls hk
  refine ⟨fun r hr => (h1 r hr).1, fun r hr => (h1 r hr).2, h2, ?_, by rw [h4]; simp, by rw [rows_len]; omega⟩
  rw [h4]
  simp [PP0, PP1, PP2, puT, h01]
theorem HH_serv (h01 : a0 ≠ a1) : ∃ s, servAt (HHs a0 a1 a3 a4 a5) (a1, a5) = some s := by
  refine ⟨⟨a5, [111, 119, 110], .tup []⟩, ?_⟩
  simp [servAt, HHs, servIn, List.findSome?, List.find?]
theorem HH_beng : (a1, a4) ∈ bengs (HHs a0 a1 a3 a4 a5) := by simp [bengs, HHs]
theorem HH_beng_len : (bengs (HHs a0 a1 a3 a4 a5)).length = 3 := by simp [bengs, HHs]
/-- what a letter is like -/
theorem letD_sh (w0 : Wd6 a0) (w1 : Wd6 a1) (w3 : Wd6 a3) (w4 : Wd6 a4) (w5 : Wd6 a5) (w6 : Wd6 a6) (w7 : Wd6 a7) (w8 : Wd6 a8) {x : Wh} (h : WhK a0 a1 a3 a4 a5 a6 a7 a8 x) {c : Nat} (hc : c < 1000000) (b : Bool) : ShD 600 4 (letD a0 c b x) ∧ exD (letD a0 c b x) = true ∧ dpD (letD a0 c b x) ≤ 8 := by
  have sw : ∀ {v : Nm}, Wd6 v → ShD 6 1 (.str v) := fun hv => (ShD.str hv.1 hv.2).mono (Nat.le_refl _) (Nat.zero_le _)
  have si : ∀ {n : Nat}, n < 1000000 → ShD 31 1 (.int (n : Int)) := fun hn => (sh_nat hn).mono (Nat.le_refl _) (Nat.zero_le _)
  have cm : Wd6 makeN := ⟨by decide, by decide⟩
  have co : Wd6 offerN := ⟨by decide, by decide⟩
  have cc : Wd6 wcutN := ⟨by decide, by decide⟩
  have ca : Wd6 wcallN := ⟨by decide, by decide⟩
  have sa : ShD 40 1 (askD (a0, c)) := (ShD.tup (n := 0) (ShLD.cons (ShD.str w0.1 w0.2) (ShLD.cons (sh_nat hc) .nil))).mono (by omega) (by omega)
  have sr : ShD 56 1 (strT [a6]) := sh_rs (l := [a6]) ⟨by simp, fun v hv => by rw [List.mem_singleton] at hv; rw [hv]; exact w6⟩
  have up : ∀ {v : Nm}, Wd6 v → ShD 6 2 (.str v) := fun hv => (sw hv).mono (Nat.le_refl _) (by omega)
  cases h with
  | hand far h =>
    cases b with
    | true =>
      refine ⟨?_, ?_, ?_⟩
      · exact (ShD.tup (n := 2) (ShLD.cons (up w0) (ShLD.cons (up w0) (ShLD.cons (ShD.tup (n := 1) (ShLD.cons (sw cm) (ShLD.cons sa (ShLD.cons (sh_pt w0 w3) (ShLD.cons (si (n := 0) (by omega)) (ShLD.cons sr (ShLD.cons (si (n := far) (by omega)) (ShLD.cons (sh_pt w1 w4) .nil)))))))) .nil)))).mono (by omega) (by omega)
      · simp [letD, exD, exL, askD, ptD, strT]
      · simp [letD, dpD, dpL, askD, ptD, strT]
    | false =>
      refine ⟨?_, ?_, ?_⟩
      · exact (ShD.tup (n := 2) (ShLD.cons (up w0) (ShLD.cons (up w1) (ShLD.cons (ShD.tup (n := 1) (ShLD.cons (sw co) (ShLD.cons sa (ShLD.cons (sh_pt w0 w3) (ShLD.cons (si (n := 0) (by omega)) (ShLD.cons (sh_pt w1 w4) .nil)))))) .nil)))).mono (by omega) (by omega)
      · simp [letD, exD, exL, askD, ptD]
      · simp [letD, dpD, dpL, askD, ptD]
  | cut hn n m h hn2 hm =>
    have wh : Wd6 hn := by rcases h with rfl | rfl; exact w0; exact w1
    refine ⟨?_, ?_, ?_⟩
    · exact (ShD.tup (n := 2) (ShLD.cons (up w0) (ShLD.cons (up wh) (ShLD.cons (ShD.tup (n := 1) (ShLD.cons (sw cc) (ShLD.cons sa (ShLD.cons (sh_pt w0 w3) (ShLD.cons (si (n := n) (by omega)) (ShLD.cons (si (n := m) (by omega)) .nil)))))) .nil)))).mono (by omega) (by omega)
    · simp [letD, exD, exL, askD, ptD]
    · simp [letD, dpD, dpL, askD, ptD]
  | call x h =>
    have sx : ShD 31 1 x := by
      rcases h with rfl | rfl | ⟨v, hv, rfl⟩
      · exact (sw w7).mono (by omega) (Nat.le_refl _)
      · exact ShD.non.mono (by omega) (by omega)
      · exact (ShD.int (by omega) (by omega)).mono (by omega) (by omega)
    have ex : exD x = true ∧ dpD x = 0 := by rcases h with rfl | rfl | ⟨v, hv, rfl⟩ <;> exact ⟨rfl, rfl⟩
    refine ⟨?_, ?_, ?_⟩
    · exact (ShD.tup (n := 2) (ShLD.cons (up w0) (ShLD.cons (up w1) (ShLD.cons (ShD.tup (n := 1) (ShLD.cons (sw ca) (ShLD.cons sa (ShLD.cons (sh_pt w0 w3) (ShLD.cons (si (n := 1) (by omega)) (ShLD.cons (sh_pt w1 w5) (ShLD.cons (sw w8) (ShLD.cons sx .nil)))))))) .nil)))).mono (by omega) (by omega)
    · simp [letD, exD, exL, askD, ptD, ex.1]
    · simp [letD, dpD, dpL, askD, ptD, ex.2]
end
def FI (M : Mem) (i : Nat) : Prop := ∃ s : Fl, s.ok ∧ M[i]? = some s.c
theorem FI.draw {M : Mem} {i : Nat} (h : FI M i) (many : Int) (h0 : 0 < many) (h1 : many < 1000000000000000000000000) : ∃ (v : Nat) (M' : Mem), (v : Int) < many ∧ FI M' i ∧ M'.length = M.length ∧ (∀ j, j ≠ i → M'[j]? = M[j]?) ∧ g_law_draw [.ref i, .int many] M = .ok (.int v) M' := by
  obtain ⟨s, hs, hM⟩ := h
  obtain ⟨v, M', k1, k2, k3⟩ := draw_eq (FlAt.start hs hM) many h0 h1
  obtain ⟨s', e1, e2, _⟩ := k2.get
  exact ⟨v, M', k1, ⟨s', e1, e2⟩, k2.len, fun j hj => k2.other (Ne.symm hj), k3⟩
theorem FI.same {M M' : Mem} {i : Nat} (h : FI M i) (e : M'[i]? = M[i]?) : FI M' i := by
  obtain ⟨s, h1, h2⟩ := h
  exact ⟨s, h1, by rw [e]; exact h2⟩
theorem FI.lt {M : Mem} {i : Nat} (h : FI M i) : i < M.length := by
  obtain ⟨s, h1, h2⟩ := h
  exact lt_of_get h2
def namL (a0 a1 a2 a3 a4 a5 a6 a7 a8 : Nm) : D := .lst [.str a0, .str a1, .str a2, .str a3, .str a4, .str a5, .str a6, .str a7, .str a8]
structure TS (ev : Nat) (M : Mem) (k st w lt op po i : Nat) (a0 a1 a3 a4 a5 a6 a7 a8 : Nm) (ls : List (Nat × Wh)) (okv : List (KK × D)) (L : List D) : Prop where
  ko : KO ev M k st w lt op (planD (HHs a0 a1 a3 a4 a5) (QQs a0 a1 a3 a4 a5 a6)) a0 (rowsW a0 a1 a3 a4 a5 a6 ls) (rowsW a0 a1 a3 a4 a5 a6 ls).length L okv
  dic : M[po]? = some (.dk false okv)
  fi : FI M i
  hk : ∀ x ∈ ls, WhK a0 a1 a3 a4 a5 a6 a7 a8 x.2
  ot : OkT okv
  ni : i ≠ k ∧ i ≠ st ∧ i ≠ w ∧ i ≠ lt ∧ i ≠ op ∧ i ≠ po
  np : po ≠ k ∧ po ≠ st ∧ po ≠ w ∧ po ≠ lt ∧ po ≠ op
section
variable {ev : Nat} {M : Mem} {k st w lt op po i : Nat} {a0 a1 a2 a3 a4 a5 a6 a7 a8 : Nm} {ls : List (Nat × Wh)} {okv : List (KK × D)} {L : List D}
theorem TS.draw (h : TS ev M k st w lt op po i a0 a1 a3 a4 a5 a6 a7 a8 ls okv L) (many : Int) (h0 : 0 < many) (h1 : many < 1000000000000000000000000) : ∃ (v : Nat) (M' : Mem), (v : Int) < many ∧ TS ev M' k st w lt op po i a0 a1 a3 a4 a5 a6 a7 a8 ls okv L ∧ M'.length = M.length ∧ (∀ j, j ≠ i → M'[j]? = M[j]?) ∧ g_law_draw [.ref i, .int many] M = .ok (.int v) M' := by
  obtain ⟨v, M', hv, f, ml, old, e⟩ := h.fi.draw many h0 h1
  obtain ⟨n1, n2, n3, n4, n5, n6⟩ := h.ni
  exact ⟨v, M', hv, ⟨h.ko.keep old ⟨n1, n2, n3, n4, n5⟩, by rw [old po (Ne.symm n6)]; exact h.dic, f, h.hk, h.ot, h.ni, h.np⟩, ml, old, e⟩
theorem TS.step (h : TS ev M k st w lt op po i a0 a1 a3 a4 a5 a6 a7 a8 ls okv L) (h01 : a0 ≠ a1) {x : Wh} (hx : WhK a0 a1 a3 a4 a5 a6 a7 a8 x) {t : Nat} {M' : Mem} (k' : KAt ev M' k st w lt (planD (HHs a0 a1 a3 a4 a5) (QQs a0 a1 a3 a4 a5 a6)) a0 (rowsW a0 a1 a3 a4 a5 a6 ls ++ [askR t (asksL (rowsW a0 a1 a3 a4 a5 a6 ls)).length (whD x)]) ((rowsW a0 a1 a3 a4 a5 a6 ls).length + 1) L) (old : ∀ j, j < M.length → j ≠ st → j ≠ w → M'[j]? = M[j]?) : TS ev M' k st w lt op po i a0 a1 a3 a4 a5 a6 a7 a8 (ls ++ [(t, x)]) okv L := by
  obtain ⟨h1, h2, h3, h4⟩ := rows_facts h01 ls h.hk
  rw [h3, List.length_map] at k'
  have e : rowsW a0 a1 a3 a4 a5 a6 (ls ++ [(t, x)]) = rowsW a0 a1 a3 a4 a5 a6 ls ++ [askR t ls.length (whD x)] := rows_snoc ls (t, x)
  have le : (rowsW a0 a1 a3 a4 a5 a6 (ls ++ [(t, x)])).length = (rowsW a0 a1 a3 a4 a5 a6 ls).length + 1 := by rw [e]; simp
  obtain ⟨s, hs, hf⟩ := h.fi
  refine ⟨?_, ?_, ⟨s, hs, ?_⟩, fun y hy => ?_, h.ot, h.ni, h.np⟩
  · rw [le, e]
    exact h.ko.go k' old
  · rw [old po (lt_of_get h.dic) h.np.2.1 h.np.2.2.1]; exact h.dic
  · rw [old i (lt_of_get hf) h.ni.2.1 h.ni.2.2.1]; exact hf
  · rcases List.mem_append.mp hy with hy | hy
    · exact h.hk y hy
    · rw [List.mem_singleton] at hy; subst hy; exact hx
theorem asked_one_eq (h : TS ev M k st w lt op po i a0 a1 a3 a4 a5 a6 a7 a8 ls okv L) (h01 : a0 ≠ a1) (hl : ls.length ≤ 90) (t : Nat) : ∃ M' x, g_law_asked_one [.ref i, .ref k, namL a0 a1 a2 a3 a4 a5 a6 a7 a8, .int (t : Int)] M = .ok .non M' ∧ TS ev M' k st w lt op po i a0 a1 a3 a4 a5 a6 a7 a8 (ls ++ [(t, x)]) okv L ∧ M.length ≤ M'.length ∧ ∀ j, j < M.length → j ≠ i → j ≠ st → j ≠ w → M'[j]? = M[j]? := by
  obtain ⟨v, M1, hv, T1, m1l, old1, d1⟩ := h.draw 3 (by omega) (by omega)
  have rs := rows_rs h01 h.hk (show ls.length ≤ 100 by omega)
  obtain ⟨_, _, _, pu⟩ := rows_facts h01 ls h.hk
  have n3' : ∀ M, oIx (namL a0 a1 a2 a3 a4 a5 a6 a7 a8) (.int 3) M = .ok (.str a3) M := fun _ => rfl
  have n6' : ∀ M, oIx (namL a0 a1 a2 a3 a4 a5 a6 a7 a8) (.int 6) M = .ok (.str a6) M := fun _ => rfl
  have n7' : ∀ M, oIx (namL a0 a1 a2 a3 a4 a5 a6 a7 a8) (.int 7) M = .ok (.str a7) M := fun _ => rfl
  have n8' : ∀ M, oIx (namL a0 a1 a2 a3 a4 a5 a6 a7 a8) (.int 8) M = .ok (.str a8) M := fun _ => rfl
  obtain ⟨kp1, hk1⟩ := T1.ko.at_
  have i1 := insOf_at hk1
  have g1 := lk_kn_hand (planD (HHs a0 a1 a3 a4 a5) (QQs a0 a1 a3 a4 a5 a6)) (.str a0) (.int 6) (.int (ev : Int)) (.ref st) (.ref lt) kp1 (.ref op)
  have g2 := lk_kn_cut (planD (HHs a0 a1 a3 a4 a5) (QQs a0 a1 a3 a4 a5 a6)) (.str a0) (.int 6) (.int (ev : Int)) (.ref st) (.ref lt) kp1 (.ref op)
  have g3 := lk_kn_call (planD (HHs a0 a1 a3 a4 a5) (QQs a0 a1 a3 a4 a5 a6)) (.str a0) (.int 6) (.int (ev : Int)) (.ref st) (.ref lt) kp1 (.ref op)
  by_cases c0 : v = 0
  · obtain ⟨far, M2, hf, T2, m2l, old2, d2⟩ := T1.draw 2 (by omega) (by omega)
    have hx0 : (putsOf (rowsW a0 a1 a3 a4 a5 a6 ls) (a0, a3))[0]? = some (PP0 a0 a5 a6) := by rw [pu]; rfl
    have hx1 : (putsOf (rowsW a0 a1 a3 a4 a5 a6 ls) (a0, a3))[1]? = some (PP1 a1 a4) := by rw [pu]; rfl
    obtain ⟨M3, e3, k3, le3, old3⟩ := hand_eq T2.ko.ka rs (by rw [HH_beng_len]; omega) hx0 hx1 (List.mem_singleton.mpr rfl) HH_beng (rights := [a6]) (fun r hr => hr) (far := far) (show far < 2 by omega) t
    have T3 := T2.step h01 (.hand far (by omega)) k3 old3
    refine ⟨M3, _, ?_, T3, by omega, fun j hj hji a b => by rw [old3 j (by omega) a b, old2 j hji, old1 j hji]⟩
    have q0 : ∀ M, oEq false (.int (v : Int)) (.int 0) M = .ok (.bl true) M := fun M => by subst c0; rfl
    have e3 : g_Kernel_hand [.ref k, .str a3, .tup [.int 0, .int 0], .tup [.int 1, .int 0], .tup [.str a6], .int (far : Int), .int (t : Int)] M2 = .ok (.int ((asksL (rowsW a0 a1 a3 a4 a5 a6 ls)).length : Int)) M3 := e3
    obtain ⟨kp2, hk2⟩ := T2.ko.at_
    have i2 := insOf_at hk2
    have g1' := lk_kn_hand (planD (HHs a0 a1 a3 a4 a5) (QQs a0 a1 a3 a4 a5 a6)) (.str a0) (.int 6) (.int (ev : Int)) (.ref st) (.ref lt) kp2 (.ref op)
    obtain ⟨PLN, hPLN⟩ : ∃ X, planD (HHs a0 a1 a3 a4 a5) (QQs a0 a1 a3 a4 a5 a6) = X := ⟨_, rfl⟩
    rw [hPLN] at i1 i2 g1 g1'
    refine runB_nx' ?_
    show (B_law_asked_one [some (.ref i), some (.ref k), some (namL a0 a1 a2 a3 a4 a5 a6 a7 a8), some (.int (t : Int)), none, none] M).bind _ = _
    obtain ⟨NL, hNL⟩ : ∃ X, namL a0 a1 a2 a3 a4 a5 a6 a7 a8 = X := ⟨_, rfl⟩
    rw [hNL] at n3' n6' ⊢
    push_cast [B_law_asked_one, d1, q0, mMth_eq, i1, g1, n3', n6', d2, i2, g1', e3]
    all_goals rfl
  · have q0 : ∀ M, oEq false (.int (v : Int)) (.int 0) M = .ok (.bl false) M := fun M => oEq_exF rfl rfl (by simp [dpD]) (fun z => c0 (by have := D.int.inj z; omega))
    by_cases c1 : v = 1
    · obtain ⟨u, M2, hu, T2, m2l, old2, d2⟩ := T1.draw 3 (by omega) (by omega)
      obtain ⟨n, M3, hn, T3, m3l, old3, d3⟩ := T2.draw 3 (by omega) (by omega)
      obtain ⟨x, hx, xh, xn⟩ : ∃ x : Pu, (putsOf (rowsW a0 a1 a3 a4 a5 a6 ls) (a0, a3))[u]? = some x ∧ (x.h = a0 ∨ x.h = a1) ∧ x.n < 4 := by
        rw [pu]
        have : u = 0 ∨ u = 1 ∨ u = 2 := by omega
        rcases this with rfl | rfl | rfl
        · exact ⟨_, rfl, .inl rfl, by simp [PP0]⟩
        · exact ⟨_, rfl, .inr rfl, by simp [PP1]⟩
        · exact ⟨_, rfl, .inr rfl, by simp [PP2]⟩
      obtain ⟨M4, e4, k4, le4, old4⟩ := cut_eq T3.ko.ka rs hx n t
      have T4 := T3.step h01 (.cut x.h x.n n xh xn (by omega)) k4 old4
      refine ⟨M4, _, ?_, T4, by omega, fun j hj hji a b => by rw [old4 j (by omega) a b, old3 j hji, old2 j hji, old1 j hji]⟩
      have q1 : ∀ M, oEq false (.int (v : Int)) (.int 1) M = .ok (.bl true) M := fun M => by subst c1; rfl
      obtain ⟨kp3, hk3⟩ := T3.ko.at_
      have i3 := insOf_at hk3
      have g2' := lk_kn_cut (planD (HHs a0 a1 a3 a4 a5) (QQs a0 a1 a3 a4 a5 a6)) (.str a0) (.int 6) (.int (ev : Int)) (.ref st) (.ref lt) kp3 (.ref op)
      obtain ⟨PLN, hPLN⟩ : ∃ X, planD (HHs a0 a1 a3 a4 a5) (QQs a0 a1 a3 a4 a5 a6) = X := ⟨_, rfl⟩
      rw [hPLN] at i1 i3 g2 g2'
      refine runB_nx' ?_
      show (B_law_asked_one [some (.ref i), some (.ref k), some (namL a0 a1 a2 a3 a4 a5 a6 a7 a8), some (.int (t : Int)), none, none] M).bind _ = _
      obtain ⟨NL, hNL⟩ : ∃ X, namL a0 a1 a2 a3 a4 a5 a6 a7 a8 = X := ⟨_, rfl⟩
      rw [hNL] at n3' ⊢
      push_cast [B_law_asked_one, d1, q0, q1, mMth_eq, i1, g2, n3', d2, d3, i3, g2', e4]
      all_goals rfl
    · have q1 : ∀ M, oEq false (.int (v : Int)) (.int 1) M = .ok (.bl false) M := fun M => oEq_exF rfl rfl (by simp [dpD]) (fun z => c1 (by have := D.int.inj z; omega))
      obtain ⟨u, M2, hu, T2, m2l, old2, d2⟩ := T1.draw 1000000000 (by omega) (by omega)
      obtain ⟨n, M3, hn, T3, m3l, old3, d3⟩ := T2.draw 3 (by omega) (by omega)
      obtain ⟨x, hx, xk⟩ : ∃ x : D, (∀ M, oIx (.lst [.str a7, .non, .int (u : Int)]) (.int (n : Int)) M = .ok x M) ∧ (x = .str a7 ∨ x = .non ∨ ∃ v : Nat, v < 1000000000 ∧ x = .int v) := by
        have : n = 0 ∨ n = 1 ∨ n = 2 := by omega
        rcases this with rfl | rfl | rfl
        · exact ⟨_, fun _ => rfl, .inl rfl⟩
        · exact ⟨_, fun _ => rfl, .inr (.inl rfl)⟩
        · exact ⟨_, fun _ => rfl, .inr (.inr ⟨u, by omega, rfl⟩)⟩
      obtain ⟨sv, hsv⟩ := HH_serv (a3 := a3) (a4 := a4) (a5 := a5) h01
      have hx2 : (putsOf (rowsW a0 a1 a3 a4 a5 a6 ls) (a0, a3))[2]? = some (PP2 a1 a5) := by rw [pu]; rfl
      obtain ⟨M4, e4, k4, le4, old4⟩ := kcall_eq T3.ko.ka rs hx2 (List.mem_singleton.mpr rfl) hsv a8 x t
      have T4 := T3.step h01 (.call x xk) k4 old4
      refine ⟨M4, _, ?_, T4, by omega, fun j hj hji a b => by rw [old4 j (by omega) a b, old3 j hji, old2 j hji, old1 j hji]⟩
      have e4 : g_Kernel_call [.ref k, .str a3, .tup [.int 2, .int 0], .str a8, x, .int (t : Int)] M3 = .ok (.int ((asksL (rowsW a0 a1 a3 a4 a5 a6 ls)).length : Int)) M4 := e4
      obtain ⟨kp3, hk3⟩ := T3.ko.at_
      have i3 := insOf_at hk3
      have g3' := lk_kn_call (planD (HHs a0 a1 a3 a4 a5) (QQs a0 a1 a3 a4 a5 a6)) (.str a0) (.int 6) (.int (ev : Int)) (.ref st) (.ref lt) kp3 (.ref op)
      obtain ⟨PLN, hPLN⟩ : ∃ X, planD (HHs a0 a1 a3 a4 a5) (QQs a0 a1 a3 a4 a5 a6) = X := ⟨_, rfl⟩
      rw [hPLN] at i1 i3 g3 g3'
      refine runB_nx' ?_
      show (B_law_asked_one [some (.ref i), some (.ref k), some (namL a0 a1 a2 a3 a4 a5 a6 a7 a8), some (.int (t : Int)), none, none] M).bind _ = _
      obtain ⟨NL, hNL⟩ : ∃ X, namL a0 a1 a2 a3 a4 a5 a6 a7 a8 = X := ⟨_, rfl⟩
      rw [hNL] at n3' n7' n8' ⊢
      push_cast [B_law_asked_one, d1, q0, q1, n7', d2, d3, hx, mMth_eq, i1, g3, n3', n8', i3, g3', e4]
      all_goals rfl
end
theorem pA_pA {κ : Type} [DecidableEq κ] (kvs : List (κ × D)) (k : κ) (v v' : D) : pA (pA kvs k v) k v' = pA kvs k v' := by
  by_cases h : (kvs.any fun kv => decide (kv.1 = k)) = true
  · have e : ∀ v, pA kvs k v = kvs.map (fun kv => if kv.1 = k then (kv.1, v) else kv) := fun v => by unfold pA; rw [if_pos h]
    have h2 : ((kvs.map fun kv => if kv.1 = k then (kv.1, v) else kv).any fun kv => decide (kv.1 = k)) = true := by
      obtain ⟨x, hx, hk⟩ := List.any_eq_true.mp h
      exact List.any_eq_true.mpr ⟨_, List.mem_map.mpr ⟨x, hx, rfl⟩, by rw [if_pos (of_decide_eq_true hk)]; exact hk⟩
    rw [e, e]
    unfold pA
    rw [if_pos h2, List.map_map]
    congr 1
    funext kv
    by_cases c : kv.1 = k <;> simp [c]
  · have e : ∀ v, pA kvs k v = kvs ++ [(k, v)] := fun v => by unfold pA; rw [if_neg h]
    have h2 : ((kvs ++ [(k, v)]).any fun kv => decide (kv.1 = k)) = true := by simp
    have h3 : kvs.map (fun kv => if kv.1 = k then (kv.1, v') else kv) = kvs := by
      refine (List.map_congr_left fun kv hkv => ?_).trans (List.map_id kvs)
      rw [if_neg fun c => h (List.any_eq_true.mpr ⟨kv, hkv, decide_eq_true c⟩)]
      rfl
    rw [e, e]
    unfold pA
    rw [if_pos h2, List.map_append, h3]
    simp
/-- asks of handing on that are two ticks old -/
def hq (t : Nat) : Rw5 → Bool
  | .oth w t' ps => decide (w = askN) && ((match ps with | [_, .tup (.str h :: _)] => decide (h = handN) | _ => false) && decide (t' + 2 ≤ t))
  | _ => false
theorem rw_wA (r : Rw5) (M : Mem) : oIxA (rwD r) (.int 0) M = .ok (.str r.w) M := by
  have := rw_w r M
  cases r <;> exact this
section
variable {ev : Nat} {M : Mem} {k st w lt op po i : Nat} {a0 a1 a2 a3 a4 a5 a6 a7 a8 : Nm} {ls : List (Nat × Wh)} {okv : List (KK × D)} {L : List D}
theorem heard_test (t : Nat) {r : Rw5} (hr : r ∈ rowsW a0 a1 a3 a4 a5 a6 ls) (x0 x1 x2 x3 x5 x7 : Option D) : T_law_heard_0 [x0, x1, x2, x3, some (.int (t : Int)), x5, some (rwD r), x7] M = .ok (hq t r) M := by
  rcases List.mem_append.mp hr with h | h
  · have hw := (LL0_w h).1
    have e0 := fun M => rw_wA r M
    have q1 : ∀ M, oEq false (.str r.w) (.str [97, 115, 107]) M = .ok (.bl false) M := fun M => by rw [str_eq, decide_eq_false hw]
    have : hq t r = false := by
      cases r with
      | oth w t' ps =>
        have hw : w ≠ askN := hw
        show (decide (w = askN) && _) = false
        rw [decide_eq_false hw, Bool.false_and]
      | _ => rfl
    rw [this]
    obtain ⟨RD, hRD⟩ : ∃ X, rwD r = X := ⟨_, rfl⟩
    rw [hRD] at e0 ⊢
    push_cast [T_law_heard_0, e0, q1]
  · obtain ⟨⟨⟨t', x⟩, c⟩, hz, rfl⟩ := List.mem_map.mp h
    have e0 : ∀ M, oIxA (rwD (asR ((t', x), c))) (.int 0) M = .ok (.str askN) M := fun _ => rfl
    have e1 : ∀ M, oIxA (rwD (asR ((t', x), c))) (.int 1) M = .ok (.int (t' : Int)) M := fun _ => rfl
    have e3 : ∀ M, oIxA (rwD (asR ((t', x), c))) (.int 3) M = .ok (whD x) M := fun _ => rfl
    have q1 : ∀ M, oEq false (.str askN) (.str [97, 115, 107]) M = .ok (.bl true) M := fun M => by rw [str_eq]; rfl
    have le : ∀ M, oLe (.int ((t' : Int) + 2)) (.int (t : Int)) M = .ok (.bl (decide (t' + 2 ≤ t))) M := fun M => by
      have : oLe (.int ((t' : Int) + 2)) (.int (t : Int)) M = .ok (.bl (decide ((t' : Int) + 2 ≤ (t : Int)))) M := rfl
      rw [this]
      congr 2
      exact decide_eq_decide.mpr (by omega)
    obtain ⟨wd, b, e4, q2, hb⟩ : ∃ (wd : Nm) (b : Bool), (∀ M, oIxA (whD x) (.int 0) M = .ok (.str wd) M) ∧ (∀ M, oEq false (.str wd) (.str [104, 97, 110, 100]) M = .ok (.bl b) M) ∧ hq t (asR ((t', x), c)) = (b && decide (t' + 2 ≤ t)) := by
      cases x with
      | hand pe h n rs far w to => exact ⟨handN, true, fun _ => rfl, fun M => by rw [str_eq]; rfl, rfl⟩
      | cut pe h n m => exact ⟨wcutN, false, fun _ => rfl, fun M => by rw [str_eq]; rfl, rfl⟩
      | call pe n pl word x => exact ⟨wcallN, false, fun _ => rfl, fun M => by rw [str_eq]; rfl, rfl⟩
    rw [hb]
    obtain ⟨RD, hRD⟩ : ∃ X, rwD (asR ((t', x), c)) = X := ⟨_, rfl⟩
    rw [hRD] at e0 e1 e3 ⊢
    obtain ⟨WD, hWD⟩ : ∃ X, whD x = X := ⟨_, rfl⟩
    rw [hWD] at e3 e4
    have tb : ∀ (b : Bool) (M : Mem), truD M (.bl b) = some b := fun _ _ => rfl
    cases b with
    | true =>
      push_cast [T_law_heard_0, e0, q1, e3, e4, q2, e1, le, tb]
      all_goals rfl
    | false =>
      push_cast [T_law_heard_0, e0, q1, e3, e4, q2]
      all_goals rfl
theorem heard_mem {t : Nat} (hk : ∀ x ∈ ls, WhK a0 a1 a3 a4 a5 a6 a7 a8 x.2) {r : Rw5} (h : r ∈ (rowsW a0 a1 a3 a4 a5 a6 ls).filter (hq t)) : ∃ t' far c : Nat, r = asR ((t', .hand (a0, a3) a0 0 [a6] far 0 (a1, a4)), c) ∧ ls[c]? = some (t', .hand (a0, a3) a0 0 [a6] far 0 (a1, a4)) := by
  obtain ⟨h1, h2⟩ := List.mem_filter.mp h
  rcases List.mem_append.mp h1 with h | h
  · have hw := (LL0_w h).1
    cases r with
    | oth w t' ps =>
      have hw : w ≠ askN := hw
      have h3 : hq t (.oth w t' ps) = false := by
        show (decide (w = askN) && _) = false
        rw [decide_eq_false hw, Bool.false_and]
      rw [h3] at h2
      cases h2
    | _ => cases h2
  · obtain ⟨⟨⟨t', x⟩, c⟩, hz, rfl⟩ := List.mem_map.mp h
    have hz := List.mem_zipIdx_iff_getElem?.mp hz
    have hx := hk _ (List.mem_of_getElem? hz)
    cases hx with
    | hand far hf => exact ⟨t', far, c, rfl, hz⟩
    | cut hn n m => cases h2
    | call x hx => cases h2
theorem heard_turn {l : List Rw5} {firm : Nat} {plan : D} (h : KO ev M k st w lt op plan a0 l firm L okv) (ha : AskL l) (ok : ∀ r ∈ l, RwOk r) (hl : l.length ≤ 4000) (ho : okv.length ≤ 10000) (t c : Nat) {t' far : Nat} (hc : (asksL l)[c]? = some (asW (t', .hand (a0, a3) a0 0 [a6] far 0 (a1, a4)))) (x0 x3 x5 x7 : Option D) :
    ∃ M', L_law_heard_2 [x0, some (.ref k), some (.str a0), x3, some (.int (t : Int)), x5, some (rwD (asR ((t', .hand (a0, a3) a0 0 [a6] far 0 (a1, a4)), c))), x7] M = .ok (.nx [x0, some (.ref k), some (.str a0), x3, some (.int (t : Int)), x5, some (rwD (asR ((t', .hand (a0, a3) a0 0 [a6] far 0 (a1, a4)), c))), x7]) M' ∧ KO ev M' k st w lt op plan a0 l firm L (pA okv (.inl (c : Int)) ((gA okv (.inl (c : Int))).getD (.int (t : Int)))) ∧ M.length ≤ M'.length ∧ ∀ j, j < M.length → j ≠ op → M'[j]? = M[j]? := by
  obtain ⟨M', e, ko, le, old⟩ := said_open2 h ha ok hl ho (.str a1) (a0, c) t hc rfl
  refine ⟨M', ?_, ko, le, old⟩
  have tk := take_said_of h (d := .tup [.str [111, 112, 101, 110], askD (a0, c)]) (sd := .str a1) (word := [111, 112, 101, 110]) (t := (t : Int)) (fun _ => rfl) (.inl rfl) e
  unfold askD at tk
  obtain ⟨kp, hk⟩ := h.at_
  have i0 := insOf_at hk
  have l0 := lk_kn_take plan (.str a0) (.int 6) (.int (ev : Int)) (.ref st) (.ref lt) kp (.ref op)
  have e2 : ∀ M, oIxA (rwD (asR ((t', .hand (a0, a3) a0 0 [a6] far 0 (a1, a4)), c))) (.int 2) M = .ok (.int (c : Int)) M := fun _ => rfl
  have e3 : ∀ M, oIxA (rwD (asR ((t', .hand (a0, a3) a0 0 [a6] far 0 (a1, a4)), c))) (.int 3) M = .ok (whD (.hand (a0, a3) a0 0 [a6] far 0 (a1, a4))) M := fun _ => rfl
  have e7 : ∀ M, oIxA (whD (.hand (a0, a3) a0 0 [a6] far 0 (a1, a4))) (.int 7) M = .ok (ptD (a1, a4)) M := fun _ => rfl
  have p0 : ∀ M, oIxA (ptD (a1, a4)) (.int 0) M = .ok (.str a1) M := fun _ => rfl
  obtain ⟨RD, hRD⟩ : ∃ X, rwD (asR ((t', .hand (a0, a3) a0 0 [a6] far 0 (a1, a4)), c)) = X := ⟨_, rfl⟩
  rw [hRD] at e2 e3 ⊢
  obtain ⟨WD, hWD⟩ : ∃ X, whD (.hand (a0, a3) a0 0 [a6] far 0 (a1, a4)) = X := ⟨_, rfl⟩
  rw [hWD] at e3 e7
  obtain ⟨PD, hPD⟩ : ∃ X, ptD (a1, a4) = X := ⟨_, rfl⟩
  rw [hPD] at e7 p0
  push_cast [L_law_heard_2, mMth_eq, i0, l0, e3, e7, p0, e2, tk]
theorem heard_eq (h : TS ev M k st w lt op po i a0 a1 a3 a4 a5 a6 a7 a8 ls okv L) (h01 : a0 ≠ a1) (hl : ls.length ≤ 90) (ho : okv.length ≤ 1000) (t : Nat) :
    ∃ M' okv', g_law_heard [.ref i, .ref k, .str a0, .ref po, .int (t : Int)] M = .ok .non M' ∧ TS ev M' k st w lt op po i a0 a1 a3 a4 a5 a6 a7 a8 ls okv' L ∧ okv'.length ≤ okv.length + 1 ∧ M.length ≤ M'.length := by
  obtain ⟨rf, al, asE, _⟩ := rows_facts h01 ls h.hk
  have re := rows_eq h.ko.ka
  obtain ⟨kp, hk⟩ := h.ko.at_
  have i0 := insOf_at hk
  have l0 := lk_kn_rows (planD (HHs a0 a1 a3 a4 a5) (QQs a0 a1 a3 a4 a5 a6)) (.str a0) (.int 6) (.int (ev : Int)) (.ref st) (.ref lt) kp (.ref op)
  have rl := rows_len (a0 := a0) (a1 := a1) (a3 := a3) (a4 := a4) (a5 := a5) (a6 := a6) ls
  obtain ⟨PLN, hPLN⟩ : ∃ X, planD (HHs a0 a1 a3 a4 a5) (QQs a0 a1 a3 a4 a5 a6) = X := ⟨_, rfl⟩
  have c1 : compL (fun _ => True) (gN 6) T_law_heard_0 C_law_heard_1 [some (.ref i), some (.ref k), some (.str a0), some (.ref po), some (.int (t : Int)), none, none, none] ((rowsW a0 a1 a3 a4 a5 a6 ls).map rwD) M = .ok (((rowsW a0 a1 a3 a4 a5 a6 ls).filter (hq t)).map rwD) M := by
    have mem : ∀ r ∈ rowsW a0 a1 a3 a4 a5 a6 ls, T_law_heard_0 [some (.ref i), some (.ref k), some (.str a0), some (.ref po), some (.int (t : Int)), none, some (rwD r), none] M = .ok (hq t r) M := fun r hr => heard_test t hr _ _ _ _ _ _
    exact compL_fm (P := fun _ => True) (M := M) trivial rwD (hq t) rwD _ fun r hr => ⟨[some (.ref i), some (.ref k), some (.str a0), some (.ref po), some (.int (t : Int)), none, some (rwD r), none], rfl, mem r hr, fun _ => by push_cast [C_law_heard_1]⟩
  have fl : ((rowsW a0 a1 a3 a4 a5 a6 ls).filter (hq t)).length ≤ 100 := by
    have := List.length_filter_le (hq t) (rowsW a0 a1 a3 a4 a5 a6 ls)
    omega
  have hm := fun r => heard_mem (t := t) h.hk (r := r)
  obtain ⟨HL, hHL⟩ : ∃ X, (rowsW a0 a1 a3 a4 a5 a6 ls).filter (hq t) = X := ⟨_, rfl⟩
  rw [hHL] at c1 fl hm
  have ll1 : ((rowsW a0 a1 a3 a4 a5 a6 ls).map rwD).length < 16777216 := by rw [List.length_map]; omega
  obtain ⟨LD, hLD⟩ : ∃ X, (rowsW a0 a1 a3 a4 a5 a6 ls).map rwD = X := ⟨_, rfl⟩
  rw [hLD] at re c1 ll1
  have s1 : ∀ M, srcOf M (.tup LD) = some ⟨LD, fun _ => True⟩ := fun _ => rfl
  have wp : ∀ a b c d e f x g : Option D, wipeE [a, b, c, d, e, f, x, g] [6] = [a, b, c, d, e, f, none, g] := fun _ _ _ _ _ _ _ _ => rfl
  have ol : ∀ M, oLenA [.lst (HL.map rwD)] M = .ok (.int (HL.length : Int)) M := fun M => by
    have : oLenA [.lst (HL.map rwD)] M = .ok (.int ((HL.map rwD).length : Int)) M := rfl
    rw [this, List.length_map]
  by_cases c : HL.length = 0
  · refine ⟨M, okv, runB_nx' ?_, h, by omega, Nat.le_refl _⟩
    show (B_law_heard [some (.ref i), some (.ref k), some (.str a0), some (.ref po), some (.int (t : Int)), none, none, none] M).bind _ = _
    have gt : ∀ M, oGt (.int (HL.length : Int)) (.int 0) M = .ok (.bl false) M := fun M => by rw [c]; rfl
    rw [hPLN] at i0 l0
    obtain ⟨HD, hHD⟩ : ∃ X, D.lst (HL.map rwD) = X := ⟨_, rfl⟩
    rw [hHD] at ol
    push_cast [B_law_heard, mLc_eq, mMth_eq, i0, l0, re, s1, if_pos ll1, wp, c1, hHD, ol, gt]
    all_goals rfl
  · have gt : ∀ M, oGt (.int (HL.length : Int)) (.int 0) M = .ok (.bl true) M := fun M => by
      have : oGt (.int (HL.length : Int)) (.int 0) M = .ok (.bl (decide ((HL.length : Int) > 0))) M := rfl
      rw [this, decide_eq_true (by omega)]
    obtain ⟨b, M1, hb, T1, m1l, old1, d1⟩ := h.draw 2 (by omega) (by omega)
    by_cases cb : b = 0
    · have q0 : ∀ M, oEq false (.int (b : Int)) (.int 0) M = .ok (.bl true) M := fun M => by subst cb; rfl
      obtain ⟨v, M2, hv, T2, m2l, old2, d2⟩ := T1.draw (HL.length : Int) (by omega) (by omega)
      obtain ⟨u, M3, hu, T3, m3l, old3, d3⟩ := T2.draw 2 (by omega) (by omega)
      obtain ⟨r, hr⟩ : ∃ r, HL[v]? = some r := ⟨_, List.getElem?_eq_getElem (by omega)⟩
      obtain ⟨t', far, cc, rfl, hcc⟩ := hm r (List.mem_of_getElem? hr)
      have hac : (asksL (rowsW a0 a1 a3 a4 a5 a6 ls))[cc]? = some (asW (t', .hand (a0, a3) a0 0 [a6] far 0 (a1, a4))) := by rw [asE, List.getElem?_map, hcc]; rfl
      obtain ⟨vv, hvv⟩ : ∃ X, (gA okv (.inl (cc : Int))).getD (.int (t : Int)) = X := ⟨_, rfl⟩
      obtain ⟨env', M4, e4, y7, okv4, rfl, hok4, ko4, le4, old4⟩ := forL_inv (g := gN 7) (body := L_law_heard_2) (fun j env m' => ∃ y7 okv4, env = [some (.ref i), some (.ref k), some (.str a0), some (.ref po), some (.int (t : Int)), some (.lst (HL.map rwD)), some (rwD (asR ((t', .hand (a0, a3) a0 0 [a6] far 0 (a1, a4)), cc))), y7] ∧ ((j = 0 ∧ okv4 = okv) ∨ (0 < j ∧ okv4 = pA okv (.inl (cc : Int)) vv)) ∧ KO ev m' k st w lt op (planD (HHs a0 a1 a3 a4 a5) (QQs a0 a1 a3 a4 a5 a6)) a0 (rowsW a0 a1 a3 a4 a5 a6 ls) (rowsW a0 a1 a3 a4 a5 a6 ls).length L okv4 ∧ M3.length ≤ m'.length ∧ ∀ j, j < M3.length → j ≠ op → m'[j]? = M3[j]?) (rngItems 0 (1 + u)) 0 [some (.ref i), some (.ref k), some (.str a0), some (.ref po), some (.int (t : Int)), some (.lst (HL.map rwD)), some (rwD (asR ((t', .hand (a0, a3) a0 0 [a6] far 0 (a1, a4)), cc))), none] M3 ⟨none, okv, rfl, .inl ⟨rfl, rfl⟩, T3.ko, Nat.le_refl _, fun _ _ _ => rfl⟩ (by
        rintro j d env m' hk ⟨y7, okv4, rfl, hok4, ko4, le4, old4⟩
        obtain ⟨rfl, hj⟩ := rngItems_get hk
        rw [Nat.zero_add] at hok4 ⊢
        have le : okv4.length ≤ 10000 := by
          rcases hok4 with ⟨_, rfl⟩ | ⟨_, rfl⟩
          · omega
          · have := pA_len okv (.inl (cc : Int)) vv; omega
        obtain ⟨M5, e5, ko5, le5, old5⟩ := heard_turn ko4 al (fun r hr => (rf r hr).1) (by omega) le t cc hac (some (.ref i)) (some (.ref po)) (some (.lst (HL.map rwD))) (some (.int ((0 : Int) + (j : Int))))
        refine ⟨_, M5, ?_, some (.int ((0 : Int) + (j : Int))), pA okv4 (.inl (cc : Int)) ((gA okv4 (.inl (cc : Int))).getD (.int (t : Int))), rfl, .inr ⟨by omega, ?_⟩, ko5, by omega, fun n hn hno => by rw [old5 n (by omega) hno, old4 n hn hno]⟩
        · rw [gN_eq, R.bind_ok]
          exact e5
        · rcases hok4 with ⟨_, rfl⟩ | ⟨_, rfl⟩
          · rw [hvv]
          · rw [gA_put, if_pos rfl, Option.getD_some, pA_pA])
      rw [rngItems_len, Nat.zero_add] at hok4
      obtain ⟨_, rfl⟩ := hok4.resolve_left (by omega)
      obtain ⟨np1, np2, np3, np4, np5⟩ := T3.np
      have dic4 : M4[po]? = some (.dk false okv) := by rw [old4 po (lt_of_get T3.dic) np5]; exact T3.dic
      have gm : oGetM (.ref po) [.int (cc : Int), .int (t : Int)] M4 = .ok vv M4 := by rw [oGetM_dk2 dic4, hvv]
      have sp : sPut M4 (.ref po) (.int (cc : Int)) vv = some (M4.set po (.dk false (pA okv (.inl (cc : Int)) vv))) := sPut_dk dic4 (by omega)
      have pol := lt_of_get dic4
      have ty := tyOk_dk dic4
      have o5 : ∀ j, j ≠ po → (M4.set po (.dk false (pA okv (.inl (cc : Int)) vv)))[j]? = M4[j]? := fun j hj => by rw [List.getElem?_set_ne (Ne.symm hj)]
      obtain ⟨n1, n2, n3, n4, n5, n6⟩ := T3.ni
      have T5 : TS ev (M4.set po (.dk false (pA okv (.inl (cc : Int)) vv))) k st w lt op po i a0 a1 a3 a4 a5 a6 a7 a8 ls (pA okv (.inl (cc : Int)) vv) L := by
        refine ⟨ko4.keep o5 T3.np, List.getElem?_set_self pol, T3.fi.same (by rw [o5 i n6, old4 i T3.fi.lt n5]), h.hk, fun c' d hd => ?_, T3.ni, T3.np⟩
        rw [gA_put] at hd
        by_cases e : c' = .inl (cc : Int)
        · rw [if_pos e] at hd
          cases hd
          rw [← hvv]
          cases hg : gA okv (.inl (cc : Int)) with
          | none => exact ⟨t, rfl⟩
          | some d' =>
            obtain ⟨u', rfl⟩ := h.ot _ _ hg
            exact ⟨u', rfl⟩
        · rw [if_neg e] at hd
          exact h.ot _ _ hd
      refine ⟨_, _, runB_nx' ?_, T5, pA_len _ _ _, by rw [List.length_set]; omega⟩
      show (B_law_heard [some (.ref i), some (.ref k), some (.str a0), some (.ref po), some (.int (t : Int)), none, none, none] M).bind _ = _
      have ix : ∀ M, oIxA (.lst (HL.map rwD)) (.int (v : Int)) M = .ok (rwD (asR ((t', .hand (a0, a3) a0 0 [a6] far 0 (a1, a4)), cc))) M := fun M => by
        have := oIx_lst (l := HL.map rwD) (i := (v : Int)) (M := M)
        have e : atI (HL.map rwD) (v : Int) = some (rwD (asR ((t', .hand (a0, a3) a0 0 [a6] far 0 (a1, a4)), cc))) := atI_nat (by rw [List.getElem?_map, hr]; rfl)
        show oIx (.lst (HL.map rwD)) (.int (v : Int)) M = _
        rw [oIx_lst, e]
      have r2 : ∀ M, oIxA (rwD (asR ((t', .hand (a0, a3) a0 0 [a6] far 0 (a1, a4)), cc))) (.int 2) M = .ok (.int (cc : Int)) M := fun _ => rfl
      rw [hPLN] at i0 l0
      have ro : rngOk ((1 + u : Nat) : Int) = true := rngOk_of (by omega) (by omega)
      have tc : ((1 + u : Nat) : Int).toNat = 1 + u := by omega
      have sm : (1 : Int) + (u : Int) = ((1 + u : Nat) : Int) := by omega
      obtain ⟨HD, hHD⟩ : ∃ X, D.lst (HL.map rwD) = X := ⟨_, rfl⟩
      rw [hHD] at ol e4 ix
      obtain ⟨RD, hRD⟩ : ∃ X, rwD (asR ((t', .hand (a0, a3) a0 0 [a6] far 0 (a1, a4)), cc)) = X := ⟨_, rfl⟩
      rw [hRD] at e4 ix r2
      push_cast [B_law_heard, mLc_eq, mMth_eq, i0, l0, re, s1, if_pos ll1, wp, c1, hHD, ol, gt, d1, q0, d2, ix, d3, mFor_eq, sm, ro, tc, e4, r2, ty, gm, gIxA_eq, sp]
      all_goals rfl
    · have q0 : ∀ M, oEq false (.int (b : Int)) (.int 0) M = .ok (.bl false) M := fun M => oEq_exF rfl rfl (by simp [dpD]) (fun z => cb (by have := D.int.inj z; omega))
      refine ⟨M1, okv, runB_nx' ?_, T1, by omega, by omega⟩
      show (B_law_heard [some (.ref i), some (.ref k), some (.str a0), some (.ref po), some (.int (t : Int)), none, none, none] M).bind _ = _
      rw [hPLN] at i0 l0
      obtain ⟨HD, hHD⟩ : ∃ X, D.lst (HL.map rwD) = X := ⟨_, rfl⟩
      rw [hHD] at ol
      push_cast [B_law_heard, mLc_eq, mMth_eq, i0, l0, re, s1, if_pos ll1, wp, c1, hHD, ol, gt, d1, q0]
      all_goals rfl
end
section
variable {ev : Nat} {M : Mem} {k st w lt op po i : Nat} {a0 a1 a2 a3 a4 a5 a6 a7 a8 : Nm} {ls : List (Nat × Wh)} {okv : List (KK × D)} {L : List D}
theorem TS.of (h : TS ev M k st w lt op po i a0 a1 a3 a4 a5 a6 a7 a8 ls okv L) {M' : Mem} {L' : List D} (ko : KO ev M' k st w lt op (planD (HHs a0 a1 a3 a4 a5) (QQs a0 a1 a3 a4 a5 a6)) a0 (rowsW a0 a1 a3 a4 a5 a6 ls) (rowsW a0 a1 a3 a4 a5 a6 ls).length L' okv) (e1 : M'[po]? = M[po]?) (e2 : M'[i]? = M[i]?) : TS ev M' k st w lt op po i a0 a1 a3 a4 a5 a6 a7 a8 ls okv L' :=
  ⟨ko, by rw [e1]; exact h.dic, h.fi.same e2, h.hk, h.ot, h.ni, h.np⟩
def WOk (a0 a1 a3 a4 a5 : Nm) (d : D) : Prop := d = wantD a0 a3 (PP1 a1 a4) ∨ d = wantD a0 a3 (PP2 a1 a5)
structure WS (ev : Nat) (M : Mem) (k st w lt op po i wn : Nat) (a0 a1 a3 a4 a5 a6 a7 a8 : Nm) (ls : List (Nat × Wh)) (okv : List (KK × D)) (L : List D) : Prop where
  ts : TS ev M k st w lt op po i a0 a1 a3 a4 a5 a6 a7 a8 ls okv L
  wan : M[wn]? = some (.lst L)
  nw : wn ≠ k ∧ wn ≠ st ∧ wn ≠ w ∧ wn ≠ lt ∧ wn ≠ op ∧ wn ≠ po ∧ wn ≠ i
  ok : ∀ d ∈ L, WOk a0 a1 a3 a4 a5 d
theorem want_turn (h : WS ev M k st w lt op po i wn a0 a1 a3 a4 a5 a6 a7 a8 ls okv L) (h01 : a0 ≠ a1) (hl : ls.length ≤ 90) (hL : L.length ≤ 100) (t : Nat) (x0 x1 x4 x5 x7 x9 x12 x13 x14 x15 : Option D) :
    ∃ M' x y13, L_law_0 [x0, x1, some (.ref i), some (namL a0 a1 a2 a3 a4 a5 a6 a7 a8), x4, x5, some (ptD (a0, a3)), x7, some (.ref k), x9, some (.int (t : Int)), some (.ref wn), x12, x13, x14, x15] M = .ok (.nx [x0, x1, some (.ref i), some (namL a0 a1 a2 a3 a4 a5 a6 a7 a8), x4, x5, some (ptD (a0, a3)), x7, some (.ref k), x9, some (.int (t : Int)), some (.ref wn), x12, y13, x14, x15]) M' ∧ WS ev M' k st w lt op po i wn a0 a1 a3 a4 a5 a6 a7 a8 ls okv (L ++ [x]) := by
  obtain ⟨v, M1, hv, T1, m1l, old1, d1⟩ := h.ts.draw 2 (by omega) (by omega)
  obtain ⟨w1, w2, w3, w4, w5, w6, w7⟩ := h.nw
  have rs := rows_rs h01 h.ts.hk (show ls.length ≤ 100 by omega)
  obtain ⟨_, _, _, pu⟩ := rows_facts h01 ls h.ts.hk
  obtain ⟨x, hx, xo, xh, xn⟩ : ∃ x : Pu, (putsOf (rowsW a0 a1 a3 a4 a5 a6 ls) (a0, a3))[1 + v]? = some x ∧ WOk a0 a1 a3 a4 a5 (wantD a0 a3 x) ∧ x.h = a1 ∧ x.n = v := by
    rw [pu]
    have : v = 0 ∨ v = 1 := by omega
    rcases this with rfl | rfl
    · exact ⟨_, rfl, .inl rfl, rfl, rfl⟩
    · exact ⟨_, rfl, .inr rfl, rfl, rfl⟩
  obtain ⟨e2, _⟩ := want_eq T1.ko.ka rs (by omega) hx t
  have ks := T1.ko.go T1.ko.ka.settle (fun j _ a _ => settM_old a)
  have k2 := ks.say (wantD a0 a3 x)
  obtain ⟨M2, hM2⟩ : ∃ X, (settM M1 st w (rowsW a0 a1 a3 a4 a5 a6 ls).length).set lt (.lst (L ++ [wantD a0 a3 x])) = X := ⟨_, rfl⟩
  have old2 : ∀ j, j ≠ st → j ≠ lt → M2[j]? = M1[j]? := fun j a b => by rw [← hM2, List.getElem?_set_ne (Ne.symm b), settM_old a]
  rw [hM2] at e2 k2
  obtain ⟨n1, n2, n3, n4, n5, n6⟩ := T1.ni
  obtain ⟨p1, p2, p3, p4, p5⟩ := T1.np
  have T2 := T1.of k2 (old2 po p2 p4) (old2 i n2 n4)
  have wg : M2[wn]? = some (.lst L) := by rw [old2 wn w2 w4, old1 wn w7]; exact h.wan
  have o3 : ∀ j, j ≠ wn → (M2.set wn (.lst (L ++ [wantD a0 a3 x])))[j]? = M2[j]? := fun j hj => by rw [List.getElem?_set_ne (Ne.symm hj)]
  have T3 := T2.of (T2.ko.keep o3 ⟨w1, w2, w3, w4, w5⟩) (o3 po (Ne.symm w6)) (o3 i (Ne.symm w7))
  refine ⟨M2.set wn (.lst (L ++ [wantD a0 a3 x])), wantD a0 a3 x, some (.int ((1 + v : Nat) : Int)), ?_, ⟨T3, List.getElem?_set_self (lt_of_get wg), h.nw, fun d hd => ?_⟩⟩
  · have n0 : ∀ M, oIxA (namL a0 a1 a2 a3 a4 a5 a6 a7 a8) (.int 0) M = .ok (.str a0) M := fun _ => rfl
    have n1' : ∀ M, oIxA (namL a0 a1 a2 a3 a4 a5 a6 a7 a8) (.int 1) M = .ok (.str a1) M := fun _ => rfl
    have n3' : ∀ M, oIxA (namL a0 a1 a2 a3 a4 a5 a6 a7 a8) (.int 3) M = .ok (.str a3) M := fun _ => rfl
    have sm : (1 : Int) + (v : Int) = ((1 + v : Nat) : Int) := by omega
    have sb : ∀ M, oSub (.int ((1 + v : Nat) : Int)) (.int 1) M = .ok (.int (v : Int)) M := fun M => by
      have : oSub (.int ((1 + v : Nat) : Int)) (.int 1) M = .ok (.int (((1 + v : Nat) : Int) - 1)) M := rfl
      rw [this]; congr 2; omega
    have wd : D.tup [.str a0, .str a1, .tup [.str [119, 97, 110, 116], ptD (a0, a3), .int (v : Int)]] = wantD a0 a3 x := by unfold wantD; rw [xh, xn]
    obtain ⟨kp, hk⟩ := T1.ko.at_
    have i1 := insOf_at hk
    have l0 := lk_kn_want (planD (HHs a0 a1 a3 a4 a5) (QQs a0 a1 a3 a4 a5 a6)) (.str a0) (.int 6) (.int (ev : Int)) (.ref st) (.ref lt) kp (.ref op)
    obtain ⟨PLN, hPLN⟩ : ∃ X, planD (HHs a0 a1 a3 a4 a5) (QQs a0 a1 a3 a4 a5 a6) = X := ⟨_, rfl⟩
    rw [hPLN] at i1 l0
    obtain ⟨NL, hNL⟩ : ∃ X, namL a0 a1 a2 a3 a4 a5 a6 a7 a8 = X := ⟨_, rfl⟩
    rw [hNL] at n0 n1' n3' ⊢
    obtain ⟨PD, hPD⟩ : ∃ X, ptD (a0, a3) = X := ⟨_, rfl⟩
    rw [hPD] at wd ⊢
    obtain ⟨WD, hWD⟩ : ∃ X, wantD a0 a3 x = X := ⟨_, rfl⟩
    rw [hWD] at wd ⊢
    push_cast [L_law_0, d1, sm, mMth_eq, i1, l0, n3', e2, tyOk_at wg, n0, n1', sb, wd, oAppend_at wg (show L.length < 16777216 by omega)]
  · rcases List.mem_append.mp hd with hd | hd
    · exact h.ok d hd
    · rw [List.mem_singleton] at hd; subst hd; exact xo
end
theorem letsL_app (ev t : Nat) (okv : List (KK × D)) (house : Nm) (xs ys : List ((Nat × Wh) × Nat)) : letsL ev t okv house (xs ++ ys) = letsL ev t okv house xs ++ letsL ev t okv house ys := by
  unfold letsL
  rw [List.filter_append, List.map_append]
section
variable {M : Mem} {po dl : Nat} {a0 a1 a2 a3 a4 a5 a6 a7 a8 : Nm} {ls : List (Nat × Wh)} {okv : List (KK × D)} {W : List D}
theorem due_old {r : Rw5} (hr : r ∈ LL0 a0 a1 a3 a4 a5 a6) (x0 x1 x2 x3 x4 x5 x6 x7 x8 x9 x10 x11 x12 x13 x14 : Option D) : L_law_1 [x0, x1, x2, x3, x4, x5, x6, x7, x8, x9, x10, x11, x12, x13, x14, some (rwD r)] M = .ok (.nx [x0, x1, x2, x3, x4, x5, x6, x7, x8, x9, x10, x11, x12, x13, x14, some (rwD r)]) M := by
  have hw := (LL0_w hr).1
  have e0 := fun M => rw_wA r M
  have q1 : ∀ M, oEq false (.str r.w) (.str [97, 115, 107]) M = .ok (.bl false) M := fun M => by rw [str_eq, decide_eq_false hw]
  obtain ⟨RD, hRD⟩ : ∃ X, rwD r = X := ⟨_, rfl⟩
  rw [hRD] at e0 ⊢
  push_cast [L_law_1, e0, q1]
theorem due_new (ev : Nat) (hev : 0 < ev) (hd : M[po]? = some (.dk false okv)) (hO : OkT okv) (hdl : M[dl]? = some (.lst W)) (hW : W.length ≤ 10000) (t : Nat) (z : (Nat × Wh) × Nat) (x0 x1 x2 x5 x6 x7 x8 x11 x12 x13 : Option D) :
    L_law_1 [x0, x1, x2, some (namL a0 a1 a2 a3 a4 a5 a6 a7 a8), some (.int (ev : Int)), x5, x6, x7, x8, some (.ref po), some (.int (t : Int)), x11, x12, x13, some (.ref dl), some (rwD (asR z))] M = .ok (.nx [x0, x1, x2, some (namL a0 a1 a2 a3 a4 a5 a6 a7 a8), some (.int (ev : Int)), x5, x6, x7, x8, some (.ref po), some (.int (t : Int)), x11, x12, x13, some (.ref dl), some (rwD (asR z))]) (if dueB ev t okv z.2 (asW z.1) = true then M.set dl (.lst (W ++ [letD a0 z.2 (gA okv (.inl (z.2 : Int))).isSome z.1.2])) else M) := by
  obtain ⟨⟨t', x⟩, c⟩ := z
  have e0 : ∀ M, oIxA (rwD (asR ((t', x), c))) (.int 0) M = .ok (.str askN) M := fun _ => rfl
  have e1 : ∀ M, oIxA (rwD (asR ((t', x), c))) (.int 1) M = .ok (.int (t' : Int)) M := fun _ => rfl
  have e2 : ∀ M, oIxA (rwD (asR ((t', x), c))) (.int 2) M = .ok (.int (c : Int)) M := fun _ => rfl
  have e3 : ∀ M, oIxA (rwD (asR ((t', x), c))) (.int 3) M = .ok (whD x) M := fun _ => rfl
  have q1 : ∀ M, oEq false (.str askN) (.str [97, 115, 107]) M = .ok (.bl true) M := fun M => by rw [str_eq]; rfl
  have hg : oGetM (.ref po) [.int c] M = .ok ((gA okv (.inl (c : Int))).getD .non) M := oGetM_dk1 hd
  have ty : tyOk "dict" M (.ref po) = true := tyOk_dk hd
  have hm : ∀ M, oMod (.int ((t : Int) - t')) (.int (ev : Int)) M = .ok (.int (((t : Int) - t') % ev)) M := fun M => oMod_int _ _ (by omega)
  have f1 : ∀ M, oEq false (.int (((t : Int) - t') % ev)) (.int 0) M = .ok (.bl (decide (((t : Int) - t') % ev = 0))) M := fun M => by
    by_cases c : ((t : Int) - t') % ev = 0
    · rw [decide_eq_true c, c]; exact oEq_exT rfl (by simp [dpD])
    · rw [decide_eq_false c]; exact oEq_exF rfl rfl (by simp [dpD]) (fun z => c (D.int.inj z))
  have f2 : ∀ M, oEq false ((gA okv (.inl (c : Int))).getD .non) (.int t) M = .ok (.bl (opT okv c t)) M := fun M => by
    unfold opT
    cases hq : gA okv (.inl (c : Int)) with
    | none => exact oEq_exF rfl rfl (by simp [dpD]) (fun z => by cases z)
    | some d =>
      obtain ⟨u, rfl⟩ := hO _ _ hq
      show oEq false (.int (u : Int)) (.int t) M = .ok (.bl (decide ((u : Int) = t))) M
      by_cases cc : (u : Int) = t
      · rw [decide_eq_true cc, cc]; exact oEq_exT rfl (by simp [dpD])
      · rw [decide_eq_false cc]
        exact oEq_exF rfl rfl (by simp [dpD]) (fun z => cc (D.int.inj z))
  have n0 : ∀ M, oIxA (namL a0 a1 a2 a3 a4 a5 a6 a7 a8) (.int 0) M = .ok (.str a0) M := fun _ => rfl
  have hi : oInA false (.int (c : Int)) (.ref po) M = .ok (.bl (gA okv (.inl (c : Int))).isSome) M := by
    rw [oInA_dk hd]
    cases (gA okv (.inl (c : Int))).isSome <;> rfl
  have le := law_letter_eq a0 c (gA okv (.inl (c : Int))).isSome x M
  have tb : ∀ (b : Bool) (M : Mem), truD M (.bl b) = some b := fun _ _ => rfl
  have du : dueB ev t okv c (asW (t', x)) = (decide (((t : Int) - t') % ev = 0) || opT okv c t) := rfl
  show L_law_1 _ M = .ok _ (if dueB ev t okv c (asW (t', x)) = true then M.set dl (.lst (W ++ [letD a0 c (gA okv (.inl (c : Int))).isSome x])) else M)
  rw [du]
  obtain ⟨NL, hNL⟩ : ∃ X, namL a0 a1 a2 a3 a4 a5 a6 a7 a8 = X := ⟨_, rfl⟩
  rw [hNL] at n0 ⊢
  obtain ⟨RD, hRD⟩ : ∃ X, rwD (asR ((t', x), c)) = X := ⟨_, rfl⟩
  rw [hRD] at e0 e1 e2 e3 ⊢
  obtain ⟨WD, hWD⟩ : ∃ X, whD x = X := ⟨_, rfl⟩
  rw [hWD] at e3 le
  obtain ⟨LE, hLE⟩ : ∃ X, letD a0 c (gA okv (.inl (c : Int))).isSome x = X := ⟨_, rfl⟩
  rw [hLE] at le ⊢
  cases d1 : decide (((t : Int) - t') % ev = 0) with
  | true =>
    rw [d1] at f1
    push_cast [L_law_1, e0, q1, e1, hm, f1, tb, tyOk_at hdl, n0, e2, e3, hi, le, oAppend_at hdl (show W.length < 16777216 by omega)]
    all_goals rfl
  | false =>
    rw [d1] at f1
    cases d2 : opT okv c t with
    | true =>
      rw [d2] at f2
      push_cast [L_law_1, e0, q1, e1, hm, f1, tb, e2, ty, hg, f2, tyOk_at hdl, n0, e3, hi, le, oAppend_at hdl (show W.length < 16777216 by omega)]
      all_goals rfl
    | false =>
      rw [d2] at f2
      push_cast [L_law_1, e0, q1, e1, hm, f1, tb, e2, ty, hg, f2]
      all_goals rfl
theorem due_loop (ev : Nat) (hev : 0 < ev) (hd : M[po]? = some (.dk false okv)) (hO : OkT okv) (hdl : M[dl]? = some (.lst W)) (hn : dl ≠ po) (hW : W.length + ls.length ≤ 5000) (t : Nat) (x0 x1 x2 x5 x6 x7 x8 x11 x12 x13 x15 : Option D) :
    ∃ M' y15, forL (fun _ => True) (gN 15) L_law_1 ((rowsW a0 a1 a3 a4 a5 a6 ls).map rwD) [x0, x1, x2, some (namL a0 a1 a2 a3 a4 a5 a6 a7 a8), some (.int (ev : Int)), x5, x6, x7, x8, some (.ref po), some (.int (t : Int)), x11, x12, x13, some (.ref dl), x15] M = .ok (.nx [x0, x1, x2, some (namL a0 a1 a2 a3 a4 a5 a6 a7 a8), some (.int (ev : Int)), x5, x6, x7, x8, some (.ref po), some (.int (t : Int)), x11, x12, x13, some (.ref dl), y15]) M' ∧ M'[dl]? = some (.lst (W ++ letsL ev t okv a0 ls.zipIdx)) ∧ M'.length = M.length ∧ ∀ j, j ≠ dl → M'[j]? = M[j]? := by
  obtain ⟨env', M', e, y15, rfl, h1, h2, h3⟩ := forL_inv (g := gN 15) (body := L_law_1) (fun j env m' => ∃ y15, env = [x0, x1, x2, some (namL a0 a1 a2 a3 a4 a5 a6 a7 a8), some (.int (ev : Int)), x5, x6, x7, x8, some (.ref po), some (.int (t : Int)), x11, x12, x13, some (.ref dl), y15] ∧ m'[dl]? = some (.lst (W ++ letsL ev t okv a0 (ls.zipIdx.take (j - 4)))) ∧ m'.length = M.length ∧ ∀ j, j ≠ dl → m'[j]? = M[j]?) ((rowsW a0 a1 a3 a4 a5 a6 ls).map rwD) 0 [x0, x1, x2, some (namL a0 a1 a2 a3 a4 a5 a6 a7 a8), some (.int (ev : Int)), x5, x6, x7, x8, some (.ref po), some (.int (t : Int)), x11, x12, x13, some (.ref dl), x15] M ⟨x15, rfl, by rw [Nat.zero_sub, List.take_zero]; show M[dl]? = some (.lst (W ++ [])); rw [List.append_nil]; exact hdl, rfl, fun _ _ => rfl⟩ (by
    rintro j d env m' hk ⟨y15, rfl, h1, h2, h3⟩
    rw [Nat.zero_add] at h1 ⊢
    rw [List.getElem?_map] at hk
    obtain ⟨r, hr, rfl⟩ := Option.map_eq_some_iff.mp hk
    have ll : (LL0 a0 a1 a3 a4 a5 a6).length = 4 := rfl
    unfold rowsW at hr
    by_cases c : j < 4
    · rw [List.getElem?_append_left (by omega)] at hr
      refine ⟨_, m', ?_, some (rwD r), rfl, ?_, h2, h3⟩
      · rw [gN_eq, R.bind_ok]
        exact due_old (List.mem_of_getElem? hr) _ _ _ _ _ _ _ _ _ _ _ _ _ _ _
      · rw [show j + 1 - 4 = j - 4 by omega]; exact h1
    · rw [List.getElem?_append_right (by omega), ll, List.getElem?_map] at hr
      obtain ⟨z, hz, rfl⟩ := Option.map_eq_some_iff.mp hr
      have zl := (List.getElem?_eq_some_iff.mp hz).1
      rw [List.length_zipIdx] at zl
      have tk : ls.zipIdx.take (j + 1 - 4) = ls.zipIdx.take (j - 4) ++ [z] := by
        rw [show j + 1 - 4 = (j - 4) + 1 by omega, List.take_succ, hz]; rfl
      have lW : (W ++ letsL ev t okv a0 (ls.zipIdx.take (j - 4))).length ≤ 10000 := by
        rw [List.length_append]
        have a1 : (letsL ev t okv a0 (ls.zipIdx.take (j - 4))).length ≤ (ls.zipIdx.take (j - 4)).length := by
          unfold letsL
          rw [List.length_map]
          exact List.length_filter_le _ _
        rw [List.length_take, List.length_zipIdx] at a1
        omega
      have e := due_new (a0 := a0) (a1 := a1) (a2 := a2) (a3 := a3) (a4 := a4) (a5 := a5) (a6 := a6) (a7 := a7) (a8 := a8) ev hev (show m'[po]? = some (.dk false okv) by rw [h3 po (Ne.symm hn)]; exact hd) hO h1 lW t z x0 x1 x2 x5 x6 x7 x8 x11 x12 x13
      have s1 : letsL ev t okv a0 [z] = if dueB ev t okv z.2 (asW z.1) = true then [letD a0 z.2 (gA okv (.inl (z.2 : Int))).isSome z.1.2] else [] := by
        unfold letsL
        by_cases d : dueB ev t okv z.2 (asW z.1) = true
        · rw [if_pos d, List.filter_cons_of_pos (p := fun z : (Nat × Wh) × Nat => dueB ev t okv z.2 (asW z.1)) d]; rfl
        · rw [if_neg d, List.filter_cons_of_neg (p := fun z : (Nat × Wh) × Nat => dueB ev t okv z.2 (asW z.1)) d]; rfl
      by_cases d : dueB ev t okv z.2 (asW z.1) = true
      · rw [if_pos d] at e s1
        refine ⟨_, m'.set dl (.lst (W ++ letsL ev t okv a0 (ls.zipIdx.take (j - 4)) ++ [letD a0 z.2 (gA okv (.inl (z.2 : Int))).isSome z.1.2])), ?_, some (rwD (asR z)), rfl, ?_, by rw [List.length_set]; exact h2, fun n hn' => by rw [List.getElem?_set_ne (Ne.symm hn')]; exact h3 n hn'⟩
        · rw [gN_eq, R.bind_ok]
          exact e
        · rw [tk, letsL_app, ← List.append_assoc, s1]
          exact List.getElem?_set_self (lt_of_get h1)
      · rw [if_neg d] at e s1
        refine ⟨_, m', ?_, some (rwD (asR z)), rfl, ?_, h2, h3⟩
        · rw [gN_eq, R.bind_ok]
          exact e
        · rw [tk, letsL_app, ← List.append_assoc, s1, List.append_nil]
          exact h1)
  have rl : ((rowsW a0 a1 a3 a4 a5 a6 ls).map rwD).length - 4 = ls.zipIdx.length := by rw [List.length_map, rows_len, List.length_zipIdx]; omega
  rw [Nat.zero_add, rl, List.take_length] at h1
  exact ⟨M', y15, e, h1, h2, h3⟩
end
noncomputable def S2_0 : FS := (mIfS (tAndM (bOf (mOp oLt (mVar 10) (mC (.int 12)))) (bOf (mOp (oEq false) (mFun 2 g_law_draw [] (aCons (mVar 2) (aCons (mC (.int 3)) aNil))) (mC (.int 0))))) (mExpr (mFun 4 g_law_asked_one [] (aCons (mVar 2) (aCons (mVar 8) (aCons (mVar 3) (aCons (mVar 10) aNil)))))) mPass)
noncomputable def S2_1 : FS := (mIfS (bOf (mOp (oEq false) (mFun 2 g_law_draw [] (aCons (mVar 2) (aCons (mC (.int 3)) aNil))) (mC (.int 0)))) (mExpr (mFun 5 g_law_heard [] (aCons (mVar 2) (aCons (mVar 8) (aCons (mOp oIxA (mVar 3) (mC (.int 0))) (aCons (mVar 9) (aCons (mVar 10) aNil))))))) mPass)
noncomputable def S2_2 : FS := (mSet 11 (mLst true aNil))
noncomputable def S2_3 : FS := (mIfS (tAndM (bOf (mOp (oEq false) (mOp oMod (mVar 10) (mC (.int 2))) (mC (.int 0)))) (bOf (mOp (oEq false) (mFun 2 g_law_draw [] (aCons (mVar 2) (aCons (mC (.int 3)) aNil))) (mC (.int 0))))) (mFor (iR1 (aCons (mOp (oAdd false) (mC (.int 1)) (mFun 2 g_law_draw [] (aCons (mVar 2) (aCons (mC (.int 2)) aNil)))) aNil)) (gN 12) L_law_0) mPass)
noncomputable def S2_4 : FS := (mIfS (bOf (mOp (oEq false) (mFun 2 g_law_draw [] (aCons (mVar 2) (aCons (mC (.int 9)) aNil))) (mC (.int 0)))) (mSeq (mExpr (mMth 3 "fall" 2 g_Kernel_fall [] (mVar 8) (aCons (mC (.int 0)) aNil))) (mPar 9 11 (aCons mDNewK (aCons (mLst true aNil) aNil)))) mPass)
noncomputable def S2_5 : FS := (mSet 14 (mCall (oList true) (aCons (mVar 11) aNil)))
noncomputable def S2_6 : FS := (mFor (iSq (mMth 3 "rows" 1 g_Kernel_rows [] (mVar 8) aNil)) (gN 15) L_law_1)
noncomputable def S2_7 : FS := (mIfS (tOrM (bOf (mOp (oEq true) (mCall oRepr (aCons (mMth 3 "leave" 2 g_Kernel_leave [] (mVar 8) (aCons (mVar 10) aNil)) aNil)) (mCall oRepr (aCons (mVar 14) aNil)))) (tOrM (bOf (mOp (oEq true) (mMth 3 "settled" 1 g_Kernel_settled [] (mVar 8) aNil) (mCall oLenA (aCons (mMth 3 "rows" 1 g_Kernel_rows [] (mVar 8) aNil) aNil)))) (bOf (mOp (oEq true) (mMth 3 "waits" 1 g_Kernel_waits [] (mVar 8) aNil) (mC (.int 0)))))) (mRet (mC (.bl false))) mPass)
theorem l2_eq : L_law_2 = (mSeq S2_0 (mSeq S2_1 (mSeq S2_2 (mSeq S2_3 (mSeq S2_4 (mSeq S2_5 (mSeq S2_6 S2_7))))))) := rfl
section
variable {ev : Nat} {M : Mem} {k st w lt op po i wn dl t : Nat} {a0 a1 a2 a3 a4 a5 a6 a7 a8 : Nm} {ls : List (Nat × Wh)} {okv : List (KK × D)} {L : List D}
theorem tick_0 (h : TS ev M k st w lt op po i a0 a1 a3 a4 a5 a6 a7 a8 ls okv L) (h01 : a0 ≠ a1) (hl : ls.length ≤ 90) (x0 x1 x4 x5 x6 x7 x9 x11 x12 x13 x14 x15 : Option D) :
    ∃ M' ls', S2_0 [x0, x1, some (.ref i), some (namL a0 a1 a2 a3 a4 a5 a6 a7 a8), x4, x5, x6, x7, some (.ref k), x9, some (.int (t : Int)), x11, x12, x13, x14, x15] M = .ok (.nx [x0, x1, some (.ref i), some (namL a0 a1 a2 a3 a4 a5 a6 a7 a8), x4, x5, x6, x7, some (.ref k), x9, some (.int (t : Int)), x11, x12, x13, x14, x15]) M' ∧ TS ev M' k st w lt op po i a0 a1 a3 a4 a5 a6 a7 a8 ls' okv L ∧ ls'.length ≤ ls.length + 1 := by
  obtain ⟨NL, hNL⟩ : ∃ X, namL a0 a1 a2 a3 a4 a5 a6 a7 a8 = X := ⟨_, rfl⟩
  by_cases c : t < 12
  · have lt12 : ∀ M, oLt (.int (t : Int)) (.int 12) M = .ok (.bl true) M := fun M => by
      have : oLt (.int (t : Int)) (.int 12) M = .ok (.bl (decide ((t : Int) < 12))) M := rfl
      rw [this, decide_eq_true (by omega)]
    obtain ⟨v, M1, hv, T1, m1l, old1, d1⟩ := h.draw 3 (by omega) (by omega)
    by_cases c0 : v = 0
    · have q0 : ∀ M, oEq false (.int (v : Int)) (.int 0) M = .ok (.bl true) M := fun M => by subst c0; rfl
      obtain ⟨M2, x, e, T2, _, _⟩ := asked_one_eq (a2 := a2) T1 h01 hl t
      refine ⟨M2, _, ?_, T2, by simp⟩
      rw [hNL] at e ⊢
      push_cast [S2_0, lt12, d1, q0, e]
    · have q0 : ∀ M, oEq false (.int (v : Int)) (.int 0) M = .ok (.bl false) M := fun M => oEq_exF rfl rfl (by simp [dpD]) (fun z => c0 (by have := D.int.inj z; omega))
      refine ⟨M1, _, ?_, T1, by omega⟩
      rw [hNL]
      push_cast [S2_0, lt12, d1, q0]
  · have lt12 : ∀ M, oLt (.int (t : Int)) (.int 12) M = .ok (.bl false) M := fun M => by
      have : oLt (.int (t : Int)) (.int 12) M = .ok (.bl (decide ((t : Int) < 12))) M := rfl
      rw [this, decide_eq_false (by omega)]
    refine ⟨M, _, ?_, h, by omega⟩
    rw [hNL]
    push_cast [S2_0, lt12]
theorem tick_1 (h : TS ev M k st w lt op po i a0 a1 a3 a4 a5 a6 a7 a8 ls okv L) (h01 : a0 ≠ a1) (hl : ls.length ≤ 90) (ho : okv.length ≤ 1000) (x0 x1 x4 x5 x6 x7 x11 x12 x13 x14 x15 : Option D) :
    ∃ M' okv', S2_1 [x0, x1, some (.ref i), some (namL a0 a1 a2 a3 a4 a5 a6 a7 a8), x4, x5, x6, x7, some (.ref k), some (.ref po), some (.int (t : Int)), x11, x12, x13, x14, x15] M = .ok (.nx [x0, x1, some (.ref i), some (namL a0 a1 a2 a3 a4 a5 a6 a7 a8), x4, x5, x6, x7, some (.ref k), some (.ref po), some (.int (t : Int)), x11, x12, x13, x14, x15]) M' ∧ TS ev M' k st w lt op po i a0 a1 a3 a4 a5 a6 a7 a8 ls okv' L ∧ okv'.length ≤ okv.length + 1 := by
  have n0 : ∀ M, oIxA (namL a0 a1 a2 a3 a4 a5 a6 a7 a8) (.int 0) M = .ok (.str a0) M := fun _ => rfl
  obtain ⟨NL, hNL⟩ : ∃ X, namL a0 a1 a2 a3 a4 a5 a6 a7 a8 = X := ⟨_, rfl⟩
  rw [hNL] at n0 ⊢
  obtain ⟨v, M1, hv, T1, m1l, old1, d1⟩ := h.draw 3 (by omega) (by omega)
  by_cases c0 : v = 0
  · have q0 : ∀ M, oEq false (.int (v : Int)) (.int 0) M = .ok (.bl true) M := fun M => by subst c0; rfl
    obtain ⟨M2, okv', e, T2, l2, _⟩ := heard_eq T1 h01 hl ho t
    refine ⟨M2, _, ?_, T2, l2⟩
    push_cast [S2_1, d1, q0, n0, e]
  · have q0 : ∀ M, oEq false (.int (v : Int)) (.int 0) M = .ok (.bl false) M := fun M => oEq_exF rfl rfl (by simp [dpD]) (fun z => c0 (by have := D.int.inj z; omega))
    refine ⟨M1, _, ?_, T1, by omega⟩
    push_cast [S2_1, d1, q0]
theorem TS.app (h : TS ev M k st w lt op po i a0 a1 a3 a4 a5 a6 a7 a8 ls okv L) (B : Mem) : TS ev (M ++ B) k st w lt op po i a0 a1 a3 a4 a5 a6 a7 a8 ls okv L :=
  h.of (h.ko.app B) (by rw [List.getElem?_append_left (lt_of_get h.dic)]) (by rw [List.getElem?_append_left h.fi.lt])
theorem TS.lts (h : TS ev M k st w lt op po i a0 a1 a3 a4 a5 a6 a7 a8 ls okv L) : k < M.length ∧ st < M.length ∧ w < M.length ∧ lt < M.length ∧ op < M.length ∧ po < M.length ∧ i < M.length := by
  obtain ⟨l1, l2, l3, l4⟩ := h.ko.ka.lts
  exact ⟨l1, l2, l3, l4, lt_of_get h.ko.opn, lt_of_get h.dic, h.fi.lt⟩
theorem tick_2 (h : TS ev M k st w lt op po i a0 a1 a3 a4 a5 a6 a7 a8 ls okv []) (x0 x1 x2 x3 x4 x5 x6 x7 x8 x9 x10 x11 x12 x13 x14 x15 : Option D) :
    ∃ M', S2_2 [x0, x1, x2, x3, x4, x5, x6, x7, x8, x9, x10, x11, x12, x13, x14, x15] M = .ok (.nx [x0, x1, x2, x3, x4, x5, x6, x7, x8, x9, x10, some (.ref M.length), x12, x13, x14, x15]) M' ∧ WS ev M' k st w lt op po i M.length a0 a1 a3 a4 a5 a6 a7 a8 ls okv [] := by
  obtain ⟨l1, l2, l3, l4, l5, l6, l7⟩ := h.lts
  refine ⟨M ++ [.lst []], ?_, ⟨h.app _, app_get0 rfl, by omega, fun d hd => by cases hd⟩⟩
  push_cast [S2_2]
  all_goals rfl
theorem tick_3 (h : WS ev M k st w lt op po i wn a0 a1 a3 a4 a5 a6 a7 a8 ls okv []) (h01 : a0 ≠ a1) (hl : ls.length ≤ 90) (x0 x1 x4 x5 x7 x9 x12 x13 x14 x15 : Option D) :
    ∃ M' L y12 y13, S2_3 [x0, x1, some (.ref i), some (namL a0 a1 a2 a3 a4 a5 a6 a7 a8), x4, x5, some (ptD (a0, a3)), x7, some (.ref k), x9, some (.int (t : Int)), some (.ref wn), x12, x13, x14, x15] M = .ok (.nx [x0, x1, some (.ref i), some (namL a0 a1 a2 a3 a4 a5 a6 a7 a8), x4, x5, some (ptD (a0, a3)), x7, some (.ref k), x9, some (.int (t : Int)), some (.ref wn), y12, y13, x14, x15]) M' ∧ WS ev M' k st w lt op po i wn a0 a1 a3 a4 a5 a6 a7 a8 ls okv L ∧ L.length ≤ 2 := by
  have hm : ∀ M, oMod (.int (t : Int)) (.int 2) M = .ok (.int ((t : Int) % 2)) M := fun M => oMod_int _ _ (by omega)
  have em : ∀ M, oEq false (.int ((t : Int) % 2)) (.int 0) M = .ok (.bl (decide (t % 2 = 0))) M := fun M => by
    by_cases c : t % 2 = 0
    · rw [decide_eq_true c, show (t : Int) % 2 = 0 by omega]; rfl
    · rw [decide_eq_false c]; exact oEq_exF rfl rfl (by simp [dpD]) (fun z => c (by have := D.int.inj z; omega))
  by_cases c : t % 2 = 0
  · rw [decide_eq_true c] at em
    obtain ⟨v, M1, hv, T1, m1l, old1, d1⟩ := h.ts.draw 3 (by omega) (by omega)
    obtain ⟨w1, w2, w3, w4, w5, w6, w7⟩ := h.nw
    by_cases c0 : v = 0
    · have q0 : ∀ M, oEq false (.int (v : Int)) (.int 0) M = .ok (.bl true) M := fun M => by subst c0; rfl
      obtain ⟨u, M2, hu, T2, m2l, old2, d2⟩ := T1.draw 2 (by omega) (by omega)
      have W2 : WS ev M2 k st w lt op po i wn a0 a1 a3 a4 a5 a6 a7 a8 ls okv [] := ⟨T2, by rw [old2 wn w7, old1 wn w7]; exact h.wan, h.nw, h.ok⟩
      obtain ⟨env', M3, e3, L3, y12, y13, rfl, W3, L3l⟩ := forL_inv (g := gN 12) (body := L_law_0) (fun j env m' => ∃ L y12 y13, env = [x0, x1, some (.ref i), some (namL a0 a1 a2 a3 a4 a5 a6 a7 a8), x4, x5, some (ptD (a0, a3)), x7, some (.ref k), x9, some (.int (t : Int)), some (.ref wn), y12, y13, x14, x15] ∧ WS ev m' k st w lt op po i wn a0 a1 a3 a4 a5 a6 a7 a8 ls okv L ∧ L.length ≤ j) (rngItems 0 (1 + u)) 0 [x0, x1, some (.ref i), some (namL a0 a1 a2 a3 a4 a5 a6 a7 a8), x4, x5, some (ptD (a0, a3)), x7, some (.ref k), x9, some (.int (t : Int)), some (.ref wn), x12, x13, x14, x15] M2 ⟨[], x12, x13, rfl, W2, Nat.le_refl _⟩ (by
        rintro j d env m' hk ⟨L, y12, y13, rfl, W, Ll⟩
        obtain ⟨rfl, hj⟩ := rngItems_get hk
        rw [Nat.zero_add] at Ll ⊢
        obtain ⟨M', x, z13, e, W'⟩ := want_turn (a2 := a2) W h01 hl (by omega) t x0 x1 x4 x5 x7 x9 (some (.int ((0 : Int) + (j : Int)))) y13 x14 x15
        refine ⟨_, M', ?_, L ++ [x], some (.int ((0 : Int) + (j : Int))), z13, rfl, W', by simp; omega⟩
        rw [gN_eq, R.bind_ok]
        exact e)
      rw [rngItems_len, Nat.zero_add] at L3l
      refine ⟨M3, L3, y12, y13, ?_, W3, by omega⟩
      have ro : rngOk ((1 + u : Nat) : Int) = true := rngOk_of (by omega) (by omega)
      have tc : ((1 + u : Nat) : Int).toNat = 1 + u := by omega
      have sm : (1 : Int) + (u : Int) = ((1 + u : Nat) : Int) := by omega
      obtain ⟨NL, hNL⟩ : ∃ X, namL a0 a1 a2 a3 a4 a5 a6 a7 a8 = X := ⟨_, rfl⟩
      rw [hNL] at e3 ⊢
      obtain ⟨PD, hPD⟩ : ∃ X, ptD (a0, a3) = X := ⟨_, rfl⟩
      rw [hPD] at e3 ⊢
      push_cast [S2_3, hm, em, d1, q0, mFor_eq, d2, sm, ro, tc, e3]
    · have q0 : ∀ M, oEq false (.int (v : Int)) (.int 0) M = .ok (.bl false) M := fun M => oEq_exF rfl rfl (by simp [dpD]) (fun z => c0 (by have := D.int.inj z; omega))
      refine ⟨M1, [], x12, x13, ?_, ⟨T1, by rw [old1 wn w7]; exact h.wan, h.nw, h.ok⟩, by simp⟩
      obtain ⟨NL, hNL⟩ : ∃ X, namL a0 a1 a2 a3 a4 a5 a6 a7 a8 = X := ⟨_, rfl⟩
      rw [hNL]
      push_cast [S2_3, hm, em, d1, q0]
  · rw [decide_eq_false c] at em
    refine ⟨M, [], x12, x13, ?_, h, by simp⟩
    obtain ⟨NL, hNL⟩ : ∃ X, namL a0 a1 a2 a3 a4 a5 a6 a7 a8 = X := ⟨_, rfl⟩
    rw [hNL]
    push_cast [S2_3, hm, em]
theorem tick_4 (h : WS ev M k st w lt op po i wn a0 a1 a3 a4 a5 a6 a7 a8 ls okv L) (x0 x1 x3 x4 x5 x6 x7 x10 x12 x13 x14 x15 : Option D) :
    ∃ M' w' lt' op' po' wn' okv' L', S2_4 [x0, x1, some (.ref i), x3, x4, x5, x6, x7, some (.ref k), some (.ref po), x10, some (.ref wn), x12, x13, x14, x15] M = .ok (.nx [x0, x1, some (.ref i), x3, x4, x5, x6, x7, some (.ref k), some (.ref po'), x10, some (.ref wn'), x12, x13, x14, x15]) M' ∧ WS ev M' k st w' lt' op' po' i wn' a0 a1 a3 a4 a5 a6 a7 a8 ls okv' L' ∧ okv'.length ≤ okv.length ∧ L'.length ≤ L.length := by
  obtain ⟨v, M1, hv, T1, m1l, old1, d1⟩ := h.ts.draw 9 (by omega) (by omega)
  obtain ⟨w1, w2, w3, w4, w5, w6, w7⟩ := h.nw
  by_cases c0 : v = 0
  · have q0 : ∀ M, oEq false (.int (v : Int)) (.int 0) M = .ok (.bl true) M := fun M => by subst c0; rfl
    obtain ⟨M2, e2, m2l, ko2, old2⟩ := kernel_fall T1.ko.ka 0
    have mn : min (rowsW a0 a1 a3 a4 a5 a6 ls).length ((rowsW a0 a1 a3 a4 a5 a6 ls).length + 0) = (rowsW a0 a1 a3 a4 a5 a6 ls).length := by omega
    rw [mn, List.take_length] at ko2
    rw [mn, Nat.sub_self] at e2
    have e2 : g_Kernel_fall [.ref k, .int 0] M1 = .ok (.int 0) M2 := e2
    obtain ⟨l1, l2, l3, l4, l5, l6, l7⟩ := T1.lts
    obtain ⟨n1, n2, n3, n4, n5, n6⟩ := T1.ni
    have ko3 := ko2.app [.dk false [], .lst []]
    have f3 : FI (M2 ++ [.dk false [], .lst []]) i := T1.fi.same (by rw [List.getElem?_append_left (by omega), old2 i l7 n1 n2])
    refine ⟨M2 ++ [.dk false [], .lst []], M1.length + 3, M1.length, M1.length + 2, M2.length, M2.length + 1, [], [], ?_, ⟨⟨ko3, app_get0 rfl, f3, T1.hk, fun c d hd => (by cases hd), by omega, by omega⟩, app_get1 rfl, by omega, fun d hd => (by cases hd)⟩, by simp, by simp⟩
    obtain ⟨kp, hk⟩ := T1.ko.at_
    have i1 := insOf_at hk
    have l0 := lk_kn_fall (planD (HHs a0 a1 a3 a4 a5) (QQs a0 a1 a3 a4 a5 a6)) (.str a0) (.int 6) (.int (ev : Int)) (.ref st) (.ref lt) kp (.ref op)
    obtain ⟨PLN, hPLN⟩ : ∃ X, planD (HHs a0 a1 a3 a4 a5) (QQs a0 a1 a3 a4 a5 a6) = X := ⟨_, rfl⟩
    rw [hPLN] at i1 l0
    have le1 : ∀ c : Cell, (M2 ++ [c]).length = M2.length + 1 := fun c => by simp
    have ap1 : (M2 ++ [Cell.dk false []]) ++ [Cell.lst []] = M2 ++ [.dk false [], .lst []] := by simp
    push_cast [S2_4, d1, q0, mMth_eq, i1, l0, e2, mDNewK_eq, le1, ap1]
    all_goals rfl
  · have q0 : ∀ M, oEq false (.int (v : Int)) (.int 0) M = .ok (.bl false) M := fun M => oEq_exF rfl rfl (by simp [dpD]) (fun z => c0 (by have := D.int.inj z; omega))
    refine ⟨M1, w, lt, op, po, wn, okv, L, ?_, ⟨T1, by rw [old1 wn w7]; exact h.wan, h.nw, h.ok⟩, Nat.le_refl _, Nat.le_refl _⟩
    push_cast [S2_4, d1, q0]
end
section
variable {ev : Nat} {M : Mem} {k st w lt op po i wn dl t : Nat} {a0 a1 a2 a3 a4 a5 a6 a7 a8 : Nm} {ls : List (Nat × Wh)} {okv : List (KK × D)} {L : List D}
structure W9 (a0 a1 a2 a3 a4 a5 a6 a7 a8 : Nm) : Prop where
  w0 : Wd6 a0
  w1 : Wd6 a1
  w2 : Wd6 a2
  w3 : Wd6 a3
  w4 : Wd6 a4
  w5 : Wd6 a5
  w6 : Wd6 a6
  w7 : Wd6 a7
  w8 : Wd6 a8
theorem wok_sh (W : W9 a0 a1 a2 a3 a4 a5 a6 a7 a8) {d : D} (h : WOk a0 a1 a3 a4 a5 d) : ShD 600 4 d ∧ exD d = true ∧ dpD d ≤ 8 := by
  have sw : ∀ {v : Nm}, Wd6 v → ShD 6 1 (.str v) := fun hv => (ShD.str hv.1 hv.2).mono (Nat.le_refl _) (Nat.zero_le _)
  have si : ∀ {n : Nat}, n < 1000000 → ShD 31 1 (.int (n : Int)) := fun hn => (sh_nat hn).mono (Nat.le_refl _) (Nat.zero_le _)
  have up : ∀ {v : Nm}, Wd6 v → ShD 6 2 (.str v) := fun hv => (sw hv).mono (Nat.le_refl _) (by omega)
  have cw : Wd6 [119, 97, 110, 116] := ⟨by decide, by decide⟩
  rcases h with rfl | rfl
  · refine ⟨(ShD.tup (n := 2) (ShLD.cons (up W.w0) (ShLD.cons (up W.w1) (ShLD.cons (ShD.tup (n := 1) (ShLD.cons (sw cw) (ShLD.cons (sh_pt W.w0 W.w3) (ShLD.cons (si (n := 0) (by omega)) .nil)))) .nil)))).mono (by omega) (by omega), ?_, ?_⟩
    · simp [wantD, exD, exL, ptD]
    · simp [wantD, dpD, dpL, ptD]
  · refine ⟨(ShD.tup (n := 2) (ShLD.cons (up W.w0) (ShLD.cons (up W.w1) (ShLD.cons (ShD.tup (n := 1) (ShLD.cons (sw cw) (ShLD.cons (sh_pt W.w0 W.w3) (ShLD.cons (si (n := 1) (by omega)) .nil)))) .nil)))).mono (by omega) (by omega), ?_, ?_⟩
    · simp [wantD, exD, exL, ptD]
    · simp [wantD, dpD, dpL, ptD]
theorem due_shown (W : W9 a0 a1 a2 a3 a4 a5 a6 a7 a8) (hk : ∀ x ∈ ls, WhK a0 a1 a3 a4 a5 a6 a7 a8 x.2) (hl : ls.length ≤ 90) (hL : L.length ≤ 2) (hW : ∀ d ∈ L, WOk a0 a1 a3 a4 a5 d) : ∃ s, ∀ (M : Mem) (b : Nat), M[b]? = some (.lst (L ++ letsL ev t okv a0 ls.zipIdx)) → oRepr [.ref b] M = .ok (.str s) M := by
  have all : ∀ d ∈ L ++ letsL ev t okv a0 ls.zipIdx, ShD 600 4 d ∧ exD d = true ∧ dpD d ≤ 8 := fun d hd => by
    rcases List.mem_append.mp hd with h | h
    · exact wok_sh W (hW d h)
    · unfold letsL at h
      obtain ⟨z, hz, rfl⟩ := List.mem_map.mp h
      have hz := List.mem_zipIdx_iff_getElem?.mp (show (z.1, z.2) ∈ ls.zipIdx from (List.mem_filter.mp hz).1)
      have zl := (List.getElem?_eq_some_iff.mp hz).1
      exact letD_sh W.w0 W.w1 W.w3 W.w4 W.w5 W.w6 W.w7 W.w8 (hk _ (List.mem_of_getElem? hz)) (by omega) _
  have ll : (L ++ letsL ev t okv a0 ls.zipIdx).length ≤ 100 := by
    have a1 : (letsL ev t okv a0 ls.zipIdx).length ≤ ls.zipIdx.length := by
      unfold letsL
      rw [List.length_map]
      exact List.length_filter_le _ _
    rw [List.length_zipIdx] at a1
    rw [List.length_append]; omega
  have pl : PlL 8 (L ++ letsL ev t okv a0 ls.zipIdx) := fun d hd => by
    obtain ⟨p, h1, h2⟩ := ex_pl (all d hd).2.1
    exact ⟨p, h1, Nat.le_trans h2 (all d hd).2.2⟩
  obtain ⟨s, _, hs⟩ := repr_list (ShLD.all ll fun d hd => (all d hd).1) pl (by omega) (by omega)
  exact ⟨s, hs⟩
theorem tick_end (W : W9 a0 a1 a2 a3 a4 a5 a6 a7 a8) (hev : 0 < ev) (h : WS ev M k st w lt op po i wn a0 a1 a3 a4 a5 a6 a7 a8 ls okv L) (h01 : a0 ≠ a1) (hl : ls.length ≤ 90) (hL : L.length ≤ 2) (x0 x1 x5 x6 x7 x12 x13 x14 x15 : Option D) :
    ∃ M' lt' y14 y15, (mSeq S2_5 (mSeq S2_6 S2_7)) [x0, x1, some (.ref i), some (namL a0 a1 a2 a3 a4 a5 a6 a7 a8), some (.int (ev : Int)), x5, x6, x7, some (.ref k), some (.ref po), some (.int (t : Int)), some (.ref wn), x12, x13, x14, x15] M = .ok (.nx [x0, x1, some (.ref i), some (namL a0 a1 a2 a3 a4 a5 a6 a7 a8), some (.int (ev : Int)), x5, x6, x7, some (.ref k), some (.ref po), some (.int (t : Int)), some (.ref wn), x12, x13, y14, y15]) M' ∧ TS ev M' k st w lt' op po i a0 a1 a3 a4 a5 a6 a7 a8 ls okv [] := by
  obtain ⟨rf, al, asE, _⟩ := rows_facts h01 ls h.ts.hk
  have rl := rows_len (a0 := a0) (a1 := a1) (a3 := a3) (a4 := a4) (a5 := a5) (a6 := a6) ls
  obtain ⟨l1, l2, l3, l4, l5, l6, l7⟩ := h.ts.lts
  obtain ⟨n1, n2, n3, n4, n5, n6⟩ := h.ts.ni
  obtain ⟨p1, p2, p3, p4, p5⟩ := h.ts.np
  have T5 := h.ts.app [.lst L]
  have g5 : (M ++ [Cell.lst L])[M.length]? = some (.lst L) := app_get0 rfl
  have re5 := rows_eq T5.ko.ka
  obtain ⟨kp5, hk5⟩ := T5.ko.at_
  have i5 := insOf_at hk5
  obtain ⟨M6, y15, e6, g6, m6l, old6⟩ := due_loop (a2 := a2) (a7 := a7) (a8 := a8) (ls := ls) ev hev T5.dic T5.ot g5 (by omega) (by omega) t x0 x1 (some (.ref i)) x5 x6 x7 (some (.ref k)) (some (.ref wn)) x12 x13 x15 (a0 := a0) (a1 := a1) (a3 := a3) (a4 := a4) (a5 := a5) (a6 := a6)
  have T6 := T5.of (T5.ko.keep old6 (by omega)) (old6 po (by omega)) (old6 i (by omega))
  obtain ⟨m, e7, ml, g7, ko7, old7⟩ := leave_eq T6.ko al (fun r hr => (rf r hr).1) (by omega) hev T6.ot asE (by omega) t
  have mm5 : (M ++ [Cell.lst L]).length = M.length + 1 := by simp
  obtain ⟨s, hs⟩ := due_shown (ev := ev) (t := t) (okv := okv) W h.ts.hk hl hL h.ok
  have r1 := hs m lt g7
  have r2 := hs m M.length (by rw [old7 M.length (by omega) (by omega) (by omega) (by omega)]; exact g6)
  have T7 : TS ev m k st w (M6.length + 2) op po i a0 a1 a3 a4 a5 a6 a7 a8 ls okv [] := ⟨ko7, by rw [old7 po (by omega) p1 p2 p4]; exact T6.dic, T6.fi.same (old7 i (by omega) n1 n2 n4), h.ts.hk, h.ts.ot, by omega, by omega⟩
  refine ⟨m, _, some (.ref M.length), y15, ?_, T7⟩
  have se := settled_eq ko7.ka
  have wa := waits_eq ko7.ka
  have re7 := rows_eq ko7.ka
  obtain ⟨kp6, hk6⟩ := T6.ko.at_
  have i6 := insOf_at hk6
  obtain ⟨kp7, hk7⟩ := ko7.at_
  have i7 := insOf_at hk7
  have ol : oList true [.ref wn] M = .ok (.ref M.length) (M ++ [.lst L]) := by
    simp only [oList, seqOf, lstOf, h.wan]
    rfl
  have lr5 := lk_kn_rows (planD (HHs a0 a1 a3 a4 a5) (QQs a0 a1 a3 a4 a5 a6)) (.str a0) (.int 6) (.int (ev : Int)) (.ref st) (.ref lt) kp5 (.ref op)
  have ll6 := lk_kn_leave (planD (HHs a0 a1 a3 a4 a5) (QQs a0 a1 a3 a4 a5 a6)) (.str a0) (.int 6) (.int (ev : Int)) (.ref st) (.ref lt) kp6 (.ref op)
  have ls7 := lk_kn_settled (planD (HHs a0 a1 a3 a4 a5) (QQs a0 a1 a3 a4 a5 a6)) (.str a0) (.int 6) (.int (ev : Int)) (.ref st) (.ref (M6.length + 2)) kp7 (.ref op)
  have lr7 := lk_kn_rows (planD (HHs a0 a1 a3 a4 a5) (QQs a0 a1 a3 a4 a5 a6)) (.str a0) (.int 6) (.int (ev : Int)) (.ref st) (.ref (M6.length + 2)) kp7 (.ref op)
  have lw7 := lk_kn_waits (planD (HHs a0 a1 a3 a4 a5) (QQs a0 a1 a3 a4 a5 a6)) (.str a0) (.int 6) (.int (ev : Int)) (.ref st) (.ref (M6.length + 2)) kp7 (.ref op)
  obtain ⟨PLN, hPLN⟩ : ∃ X, planD (HHs a0 a1 a3 a4 a5) (QQs a0 a1 a3 a4 a5 a6) = X := ⟨_, rfl⟩
  rw [hPLN] at i5 i6 i7 lr5 ll6 ls7 lr7 lw7
  have ll1 : ((rowsW a0 a1 a3 a4 a5 a6 ls).map rwD).length < 16777216 := by rw [List.length_map]; omega
  have oll : ∀ M, oLenA [.tup ((rowsW a0 a1 a3 a4 a5 a6 ls).map rwD)] M = .ok (.int ((rowsW a0 a1 a3 a4 a5 a6 ls).length : Int)) M := fun M => by
    have : oLenA [.tup ((rowsW a0 a1 a3 a4 a5 a6 ls).map rwD)] M = .ok (.int (((rowsW a0 a1 a3 a4 a5 a6 ls).map rwD).length : Int)) M := rfl
    rw [this, List.length_map]
  obtain ⟨LD, hLD⟩ : ∃ X, (rowsW a0 a1 a3 a4 a5 a6 ls).map rwD = X := ⟨_, rfl⟩
  rw [hLD] at re5 re7 e6 ll1 oll
  have s1 : ∀ M, srcOf M (.tup LD) = some ⟨LD, fun _ => True⟩ := fun _ => rfl
  have sne : ∀ M, oEq true (.str s) (.str s) M = .ok (.bl false) M := fun M => oEq_exT rfl (by simp [dpD])
  have ine : ∀ (n : Int) M, oEq true (.int n) (.int n) M = .ok (.bl false) M := fun n M => oEq_exT rfl (by simp [dpD])
  have l0 : (([] : List D).length : Int) = 0 := rfl
  rw [l0] at wa
  obtain ⟨NL, hNL⟩ : ∃ X, namL a0 a1 a2 a3 a4 a5 a6 a7 a8 = X := ⟨_, rfl⟩
  rw [hNL] at e6 ⊢
  push_cast [S2_5, S2_6, S2_7, ol, mFor_eq, mMth_eq, i5, lr5, re5, s1, if_pos ll1, e6, i6, ll6, e7, r1, r2, sne, i7, ls7, se, lr7, re7, oll, ine, lw7, wa]
theorem tick_eq (W : W9 a0 a1 a2 a3 a4 a5 a6 a7 a8) (hev : 0 < ev) (h : TS ev M k st w lt op po i a0 a1 a3 a4 a5 a6 a7 a8 ls okv []) (h01 : a0 ≠ a1) (hl : ls.length ≤ 80) (ho : okv.length ≤ 900) (x0 x1 x5 x7 x11 x12 x13 x14 x15 : Option D) :
    ∃ M' w' lt' op' po' ls' okv' y11 y12 y13 y14 y15, L_law_2 [x0, x1, some (.ref i), some (namL a0 a1 a2 a3 a4 a5 a6 a7 a8), some (.int (ev : Int)), x5, some (ptD (a0, a3)), x7, some (.ref k), some (.ref po), some (.int (t : Int)), x11, x12, x13, x14, x15] M = .ok (.nx [x0, x1, some (.ref i), some (namL a0 a1 a2 a3 a4 a5 a6 a7 a8), some (.int (ev : Int)), x5, some (ptD (a0, a3)), x7, some (.ref k), some (.ref po'), some (.int (t : Int)), y11, y12, y13, y14, y15]) M' ∧ TS ev M' k st w' lt' op' po' i a0 a1 a3 a4 a5 a6 a7 a8 ls' okv' [] ∧ ls'.length ≤ ls.length + 1 ∧ okv'.length ≤ okv.length + 1 := by
  obtain ⟨M1, ls1, e1, T1, l1⟩ := tick_0 (t := t) (a2 := a2) h h01 (by omega) x0 x1 (some (.int (ev : Int))) x5 (some (ptD (a0, a3))) x7 (some (.ref po)) x11 x12 x13 x14 x15
  obtain ⟨M2, okv2, e2, T2, l2⟩ := tick_1 (t := t) (a2 := a2) T1 h01 (by omega) (by omega) x0 x1 (some (.int (ev : Int))) x5 (some (ptD (a0, a3))) x7 x11 x12 x13 x14 x15
  obtain ⟨M3, e3, T3⟩ := tick_2 T2 x0 x1 (some (.ref i)) (some (namL a0 a1 a2 a3 a4 a5 a6 a7 a8)) (some (.int (ev : Int))) x5 (some (ptD (a0, a3))) x7 (some (.ref k)) (some (.ref po)) (some (.int (t : Int))) x11 x12 x13 x14 x15
  obtain ⟨M4, L4, y12, y13, e4, T4, l4⟩ := tick_3 (t := t) (a2 := a2) T3 h01 (by omega) x0 x1 (some (.int (ev : Int))) x5 x7 (some (.ref po)) x12 x13 x14 x15
  obtain ⟨M5, w', lt', op', po', wn', okv', L', e5, T5, l5, l5'⟩ := tick_4 T4 x0 x1 (some (namL a0 a1 a2 a3 a4 a5 a6 a7 a8)) (some (.int (ev : Int))) x5 (some (ptD (a0, a3))) x7 (some (.int (t : Int))) y12 y13 x14 x15
  obtain ⟨M6, lt6, y14, y15, e6, T6⟩ := tick_end (t := t) (a2 := a2) W hev T5 h01 (by omega) (by omega) x0 x1 x5 (some (ptD (a0, a3))) x7 y12 y13 x14 x15
  refine ⟨M6, w', lt6, op', po', ls1, okv', some (.ref wn'), y12, y13, y14, y15, ?_, T6, l1, by omega⟩
  have sq : ∀ (a b : FS) (e : Fn.Env) (m : Mem) (e' : Fn.Env) (m' : Mem), a e m = .ok (.nx e') m' → mSeq a b e m = b e' m' := fun a b e m e' m' h => by push_cast [h]
  rw [l2_eq, sq _ _ _ _ _ _ e1, sq _ _ _ _ _ _ e2, sq _ _ _ _ _ _ e3, sq _ _ _ _ _ _ e4, sq _ _ _ _ _ _ e5]
  exact e6
end
noncomputable def S3_0 : FS := (mSet 2 (mFun 2 g_law_flow [] (aCons (mVar 0) (aCons (mVar 1) aNil))))
noncomputable def S3_1 : FS := (mPar 3 4 (aCons (mFun 2 g_law_names [] (aCons (mVar 2) (aCons (mC (.int 9)) aNil))) (aCons (mOp (oAdd false) (mC (.int 1)) (mFun 2 g_law_draw [] (aCons (mVar 2) (aCons (mC (.int 6)) aNil)))) aNil)))
noncomputable def S3_2 : FS := (mSet 5 (mTup (aCons (mTup (aCons (mOp oIxA (mVar 3) (mC (.int 0))) (aCons (mTup (aCons (mOp oIxA (mVar 3) (mC (.int 3))) aNil)) (aCons (mTup aNil) (aCons (mTup (aCons (mOp oIxA (mVar 3) (mC (.int 5))) aNil)) aNil))))) (aCons (mTup (aCons (mOp oIxA (mVar 3) (mC (.int 1))) (aCons (mTup (aCons (mOp oIxA (mVar 3) (mC (.int 4))) aNil)) (aCons (mTup (aCons (mTup (aCons (mOp oIxA (mVar 3) (mC (.int 5))) (aCons (mC (.str [111, 119, 110])) (aCons (mTup aNil) aNil)))) aNil)) (aCons (mTup aNil) aNil))))) aNil))))
noncomputable def S3_3 : FS := (mSet 6 (mTup (aCons (mOp oIxA (mVar 3) (mC (.int 0))) (aCons (mOp oIxA (mVar 3) (mC (.int 3))) aNil))))
noncomputable def S3_4 : FS := (mSet 7 (mTup (aCons (mTup (aCons (mTup (aCons (mOp oIxA (mVar 3) (mC (.int 0))) (aCons (mOp oIxA (mVar 3) (mC (.int 5))) aNil))) (aCons (mTup (aCons (mOp oIxA (mVar 3) (mC (.int 6))) aNil)) (aCons (mC (.int 2)) (aCons (mVar 6) (aCons (mC .non) aNil)))))) aNil)))
noncomputable def S3_5 : FS := (mSet 7 (mOp (oAdd false) (mVar 7) (mTup (aCons (mTup (aCons (mTup (aCons (mOp oIxA (mVar 3) (mC (.int 1))) (aCons (mOp oIxA (mVar 3) (mC (.int 4))) aNil))) (aCons (mTup (aCons (mC (.str [103, 105, 118, 101])) aNil)) (aCons (mC (.int 1)) (aCons (mVar 6) (aCons (mC .non) aNil)))))) aNil))))
noncomputable def S3_6 : FS := (mSet 7 (mOp (oAdd false) (mVar 7) (mTup (aCons (mTup (aCons (mTup (aCons (mOp oIxA (mVar 3) (mC (.int 1))) (aCons (mOp oIxA (mVar 3) (mC (.int 5))) aNil))) (aCons (mTup (aCons (mC (.str [99, 97, 108, 108])) aNil)) (aCons (mC (.int 1)) (aCons (mVar 6) (aCons (mC .non) aNil)))))) aNil))))
noncomputable def S3_7 : FS := (mPar 8 9 (aCons (mMakeKwP 3 2 1 5 (piIx [0, 1, 2, 4, 3]) [.int 6] g_Kernel___init__ (aCons (mTup (aCons (mVar 5) (aCons (mVar 7) aNil))) (aCons (mOp oIxA (mVar 3) (mC (.int 0))) aNil)) (aCons (mVar 4) aNil)) (aCons mDNewK aNil)))
noncomputable def S3_8 : FS := (mIfS (bOf (mOp (oEq false) (mVar 4) (mC (.int 3)))) (mSet 8 (mMake 3 5 g_Kernel___init__ [.int 6, .int 3] (aCons (mTup (aCons (mVar 5) (aCons (mVar 7) aNil))) (aCons (mOp oIxA (mVar 3) (mC (.int 0))) aNil)))) mPass)
noncomputable def S3_9 : FS := (mIfS (tOrM (bOf (mOp (oEq true) (mC c_AGAIN) (mC (.int 3)))) (bOf (mUn (oIsi "bool") (mC c_AGAIN)))) (mRet (mC (.bl false))) mPass)
noncomputable def S3_10 : FS := (mFor (iR1 (aCons (mC (.int 60)) aNil)) (gN 10) L_law_2)
theorem l3_eq : L_law_3 = (mSeq S3_0 (mSeq S3_1 (mSeq S3_2 (mSeq S3_3 (mSeq S3_4 (mSeq S3_5 (mSeq S3_6 (mSeq S3_7 (mSeq S3_8 (mSeq S3_9 S3_10)))))))))) := rfl
theorem sq_nx (a b : FS) (e : Fn.Env) (m : Mem) (e' : Fn.Env) (m' : Mem) (h : a e m = .ok (.nx e') m') : mSeq a b e m = b e' m' := by push_cast [h]
section
variable {ev : Nat} {M : Mem} {k st w lt op po i : Nat} {a0 a1 a2 a3 a4 a5 a6 a7 a8 : Nm}
theorem head_eq (x0 x1 x2 x4 x5 x6 x7 x8 x9 x10 x11 x12 x13 x14 x15 : Option D) :
    ∀ (b : FS), (mSeq S3_2 (mSeq S3_3 (mSeq S3_4 (mSeq S3_5 (mSeq S3_6 b))))) [x0, x1, x2, some (namL a0 a1 a2 a3 a4 a5 a6 a7 a8), x4, x5, x6, x7, x8, x9, x10, x11, x12, x13, x14, x15] M = b [x0, x1, x2, some (namL a0 a1 a2 a3 a4 a5 a6 a7 a8), x4, some (.tup ((HHs a0 a1 a3 a4 a5).map huD)), some (ptD (a0, a3)), some (.tup ((QQs a0 a1 a3 a4 a5 a6).map rtD)), x8, x9, x10, x11, x12, x13, x14, x15] M := by
  intro b
  have q0 : ∀ M, oIxA (namL a0 a1 a2 a3 a4 a5 a6 a7 a8) (.int 0) M = .ok (.str a0) M := fun _ => rfl
  have q1 : ∀ M, oIxA (namL a0 a1 a2 a3 a4 a5 a6 a7 a8) (.int 1) M = .ok (.str a1) M := fun _ => rfl
  have q3 : ∀ M, oIxA (namL a0 a1 a2 a3 a4 a5 a6 a7 a8) (.int 3) M = .ok (.str a3) M := fun _ => rfl
  have q4 : ∀ M, oIxA (namL a0 a1 a2 a3 a4 a5 a6 a7 a8) (.int 4) M = .ok (.str a4) M := fun _ => rfl
  have q5 : ∀ M, oIxA (namL a0 a1 a2 a3 a4 a5 a6 a7 a8) (.int 5) M = .ok (.str a5) M := fun _ => rfl
  have q6 : ∀ M, oIxA (namL a0 a1 a2 a3 a4 a5 a6 a7 a8) (.int 6) M = .ok (.str a6) M := fun _ => rfl
  have hH : D.tup ((HHs a0 a1 a3 a4 a5).map huD) = .tup [.tup [.str a0, .tup [.str a3], .tup [], .tup [.str a5]], .tup [.str a1, .tup [.str a4], .tup [.tup [.str a5, .str [111, 119, 110], .tup []]], .tup []]] := rfl
  have hQ : D.tup ((QQs a0 a1 a3 a4 a5 a6).map rtD) = .tup [.tup [.tup [.str a0, .str a5], .tup [.str a6], .int 2, .tup [.str a0, .str a3], .non], .tup [.tup [.str a1, .str a4], .tup [.str [103, 105, 118, 101]], .int 1, .tup [.str a0, .str a3], .non], .tup [.tup [.str a1, .str a5], .tup [.str [99, 97, 108, 108]], .int 1, .tup [.str a0, .str a3], .non]] := rfl
  have hp : ptD (a0, a3) = .tup [.str a0, .str a3] := rfl
  rw [hH, hQ, hp]
  obtain ⟨NL, hNL⟩ : ∃ X, namL a0 a1 a2 a3 a4 a5 a6 a7 a8 = X := ⟨_, rfl⟩
  rw [hNL] at q0 q1 q3 q4 q5 q6 ⊢
  push_cast [S3_2, S3_3, S3_4, S3_5, S3_6, q0, q1, q3, q4, q5, q6, oAddTT]
theorem make_eq (h01 : a0 ≠ a1) (fi : FI M i) (x0 x1 x6 x8 x9 x10 x11 x12 x13 x14 x15 : Option D) :
    ∃ M' k st w lt op po, (∀ b : FS, (mSeq S3_7 (mSeq S3_8 b)) [x0, x1, some (.ref i), some (namL a0 a1 a2 a3 a4 a5 a6 a7 a8), some (.int (ev : Int)), some (.tup ((HHs a0 a1 a3 a4 a5).map huD)), x6, some (.tup ((QQs a0 a1 a3 a4 a5 a6).map rtD)), x8, x9, x10, x11, x12, x13, x14, x15] M = b [x0, x1, some (.ref i), some (namL a0 a1 a2 a3 a4 a5 a6 a7 a8), some (.int (ev : Int)), some (.tup ((HHs a0 a1 a3 a4 a5).map huD)), x6, some (.tup ((QQs a0 a1 a3 a4 a5 a6).map rtD)), some (.ref k), some (.ref po), x10, x11, x12, x13, x14, x15] M') ∧ TS ev M' k st w lt op po i a0 a1 a3 a4 a5 a6 a7 a8 [] [] [] := by
  have pa : PaOk (QQs a0 a1 a3 a4 a5 a6) := fun k g hk p hp => by
    have hm := List.mem_of_getElem? hk
    unfold QQs at hm
    simp only [List.mem_cons, List.not_mem_nil, or_false] at hm
    rcases hm with z | z | z <;> rw [z] at hp <;> cases hp
  have il := fi.lt
  have r0 : rowsW a0 a1 a3 a4 a5 a6 [] = LL0 a0 a1 a3 a4 a5 a6 := by simp [rowsW]
  obtain ⟨M2, ki, m2l, _, ⟨J, hJ⟩, ko⟩ := kernel_init2 (Q := QQs a0 a1 a3 a4 a5 a6) (by simp [QQs]) pa (HHs a0 a1 a3 a4 a5) a0 ev M
  rw [bgW_eq h01, ← r0] at ko
  have f2 : FI M2 i := fi.same (by rw [hJ, List.getElem?_append_left il])
  have m3l : (M2 ++ [Cell.dk false []]).length = M.length + 7 := by simp; omega
  have T3 : TS ev (M2 ++ [Cell.dk false []]) M.length (M.length + 1) (M.length + 2) (M.length + 3) (M.length + 5) M2.length i a0 a1 a3 a4 a5 a6 a7 a8 [] [] [] := ⟨ko.app _, app_get0 rfl, f2.same (by rw [List.getElem?_append_left (by omega)]), fun x hx => (by cases hx), fun c d hd => (by cases hd), by omega, by omega⟩
  obtain ⟨M3, hM3⟩ : ∃ X, M2 ++ [Cell.dk false []] = X := ⟨_, rfl⟩
  rw [hM3] at T3 m3l
  have pD : ∀ H Q, planD H Q = .tup [.tup (H.map huD), .tup (Q.map rtD)] := fun _ _ => rfl
  rw [pD] at ki
  have q0 : ∀ M, oIxA (namL a0 a1 a2 a3 a4 a5 a6 a7 a8) (.int 0) M = .ok (.str a0) M := fun _ => rfl
  have pi : ∀ (P N E : D) (n : Nat), (piIx [0, 1, 2, 4, 3]).on [D.ref n, P, N] [E, .int 6] = [.ref n, P, N, .int 6, E] := fun _ _ _ _ => rfl
  by_cases c : ev = 3
  · subst c
    obtain ⟨M4, ki4, m4l, _, ⟨J4, hJ4⟩, ko4⟩ := kernel_init2 (Q := QQs a0 a1 a3 a4 a5 a6) (by simp [QQs]) pa (HHs a0 a1 a3 a4 a5) a0 3 M3
    rw [bgW_eq h01, ← r0] at ko4
    rw [pD] at ki4
    obtain ⟨l1, l2, l3, l4, l5, l6, l7⟩ := T3.lts
    refine ⟨M4, M3.length, M3.length + 1, M3.length + 2, M3.length + 3, M3.length + 5, M2.length, fun b => ?_, ⟨ko4, by rw [hJ4, List.getElem?_append_left l6]; exact T3.dic, T3.fi.same (by rw [hJ4, List.getElem?_append_left l7]), fun x hx => (by cases hx), fun c d hd => (by cases hd), by omega, by omega⟩⟩
    have e3 : ∀ M, oEq false (.int ((3 : Nat) : Int)) (.int 3) M = .ok (.bl true) M := fun _ => rfl
    obtain ⟨E3, hE3⟩ : ∃ X : Int, ((3 : Nat) : Int) = X := ⟨_, rfl⟩
    have E3' : (3 : Int) = E3 := hE3
    rw [hE3] at ki e3 ⊢
    have ki4 : g_Kernel___init__ [.ref M3.length, .tup [.tup ((HHs a0 a1 a3 a4 a5).map huD), .tup ((QQs a0 a1 a3 a4 a5 a6).map rtD)], .str a0, .int 6, .int 3] (M3 ++ [.ins 3 []]) = .ok .non M4 := ki4
    obtain ⟨NL, hNL⟩ : ∃ X, namL a0 a1 a2 a3 a4 a5 a6 a7 a8 = X := ⟨_, rfl⟩
    rw [hNL] at q0 ⊢
    obtain ⟨HD, hHD⟩ : ∃ X, D.tup ((HHs a0 a1 a3 a4 a5).map huD) = X := ⟨_, rfl⟩
    obtain ⟨RD, hRD⟩ : ∃ X, D.tup ((QQs a0 a1 a3 a4 a5 a6).map rtD) = X := ⟨_, rfl⟩
    rw [hHD, hRD] at ki ki4 ⊢
    push_cast [S3_7, S3_8, mMakeKwP_eq, q0, pi, ki, mDNewK_eq, hM3, e3, mMake_eq, ki4]
  · have e3 : ∀ M, oEq false (.int (ev : Int)) (.int 3) M = .ok (.bl false) M := fun M => oEq_exF rfl rfl (by simp [dpD]) (fun z => c (by have := D.int.inj z; omega))
    refine ⟨M3, M.length, M.length + 1, M.length + 2, M.length + 3, M.length + 5, M2.length, fun b => ?_, T3⟩
    obtain ⟨NL, hNL⟩ : ∃ X, namL a0 a1 a2 a3 a4 a5 a6 a7 a8 = X := ⟨_, rfl⟩
    rw [hNL] at q0 ⊢
    obtain ⟨HD, hHD⟩ : ∃ X, D.tup ((HHs a0 a1 a3 a4 a5).map huD) = X := ⟨_, rfl⟩
    obtain ⟨RD, hRD⟩ : ∃ X, D.tup ((QQs a0 a1 a3 a4 a5 a6).map rtD) = X := ⟨_, rfl⟩
    rw [hHD, hRD] at ki ⊢
    push_cast [S3_7, S3_8, mMakeKwP_eq, q0, pi, ki, mDNewK_eq, hM3, e3]
theorem ticks_eq (W : W9 a0 a1 a2 a3 a4 a5 a6 a7 a8) (hev : 0 < ev) (h : TS ev M k st w lt op po i a0 a1 a3 a4 a5 a6 a7 a8 [] [] []) (h01 : a0 ≠ a1) (x0 x1 x5 x7 x10 x11 x12 x13 x14 x15 : Option D) :
    ∃ M' y9 y10 y11 y12 y13 y14 y15, (mSeq S3_9 S3_10) [x0, x1, some (.ref i), some (namL a0 a1 a2 a3 a4 a5 a6 a7 a8), some (.int (ev : Int)), x5, some (ptD (a0, a3)), x7, some (.ref k), some (.ref po), x10, x11, x12, x13, x14, x15] M = .ok (.nx [x0, x1, some (.ref i), some (namL a0 a1 a2 a3 a4 a5 a6 a7 a8), some (.int (ev : Int)), x5, some (ptD (a0, a3)), x7, some (.ref k), y9, y10, y11, y12, y13, y14, y15]) M' := by
  obtain ⟨env', M', e, w', lt', op', po', ls', okv', y10, y11, y12, y13, y14, y15, rfl, T, _, _⟩ := forL_inv (g := gN 10) (body := L_law_2) (fun j env m' => ∃ w lt op po ls okv y10 y11 y12 y13 y14 y15, env = [x0, x1, some (.ref i), some (namL a0 a1 a2 a3 a4 a5 a6 a7 a8), some (.int (ev : Int)), x5, some (ptD (a0, a3)), x7, some (.ref k), some (.ref po), y10, y11, y12, y13, y14, y15] ∧ TS ev m' k st w lt op po i a0 a1 a3 a4 a5 a6 a7 a8 ls okv [] ∧ ls.length ≤ j ∧ okv.length ≤ j) (rngItems 0 60) 0 [x0, x1, some (.ref i), some (namL a0 a1 a2 a3 a4 a5 a6 a7 a8), some (.int (ev : Int)), x5, some (ptD (a0, a3)), x7, some (.ref k), some (.ref po), x10, x11, x12, x13, x14, x15] M ⟨_, _, _, _, _, _, _, _, _, _, _, _, rfl, h, Nat.le_refl _, Nat.le_refl _⟩ (by
    rintro j d env m' hk ⟨w, lt, op, po, ls, okv, y10, y11, y12, y13, y14, y15, rfl, T, l1, l2⟩
    obtain ⟨rfl, hj⟩ := rngItems_get hk
    rw [Nat.zero_add] at l1 l2 ⊢
    obtain ⟨M', w', lt', op', po', ls', okv', z11, z12, z13, z14, z15, e, T', l1', l2'⟩ := tick_eq (t := j) W hev T h01 (by omega) (by omega) x0 x1 x5 x7 y11 y12 y13 y14 y15
    refine ⟨_, M', ?_, w', lt', op', po', ls', okv', some (.int (j : Int)), z11, z12, z13, z14, z15, rfl, T', by omega, by omega⟩
    rw [gN_eq, R.bind_ok, show (0 : Int) + (j : Int) = (j : Int) by omega]
    exact e)
  refine ⟨M', some (.ref po'), y10, y11, y12, y13, y14, y15, ?_⟩
  · have ro : rngOk 60 = true := rngOk_of (by omega) (by omega)
    have tc : (60 : Int).toNat = 60 := by decide
    have ca : ∀ M, oEq true c_AGAIN (.int 3) M = .ok (.bl false) M := fun _ => oEq_exT rfl (Nat.zero_le _)
    have cb : ∀ M, oIsi "bool" c_AGAIN M = .ok (.bl false) M := fun _ => rfl
    obtain ⟨CA, hCA⟩ : ∃ X, c_AGAIN = X := ⟨_, rfl⟩
    rw [hCA] at ca cb
    obtain ⟨NL, hNL⟩ : ∃ X, namL a0 a1 a2 a3 a4 a5 a6 a7 a8 = X := ⟨_, rfl⟩
    rw [hNL] at e ⊢
    obtain ⟨PD, hPD⟩ : ∃ X, ptD (a0, a3) = X := ⟨_, rfl⟩
    rw [hPD] at e ⊢
    push_cast [S3_9, S3_10, hCA, ca, cb, mFor_eq, ro, tc, e]
end
theorem nine {F : List Nm} (h : F.length = 9) : ∃ a0 a1 a2 a3 a4 a5 a6 a7 a8, F = [a0, a1, a2, a3, a4, a5, a6, a7, a8] := by
  match F, h with
  | [a0, a1, a2, a3, a4, a5, a6, a7, a8], _ => exact ⟨a0, a1, a2, a3, a4, a5, a6, a7, a8, rfl⟩
theorem nm_6 {w : Nm} (h : bw w) : Wd6 w := by
  obtain ⟨h1, h2, h3⟩ := isNm_iff.mp h
  refine ⟨h2, fun c hc => ?_⟩
  have := h3 c hc
  have all : ∀ c ∈ abc, c < 1000000 := by decide
  exact all c this
theorem turn38 (ns : List Int) (n : Nat) (hn : n < 1000) (M : Mem) (x2 x3 x4 x5 x6 x7 x8 x9 x10 x11 x12 x13 x14 x15 : Option D) :
    ∃ M' y2 y3 y4 y5 y6 y7 y8 y9 y10 y11 y12 y13 y14 y15, L_law_3 [some (.fz (intsD ns)), some (.int (n : Int)), x2, x3, x4, x5, x6, x7, x8, x9, x10, x11, x12, x13, x14, x15] M = .ok (.nx [some (.fz (intsD ns)), some (.int (n : Int)), y2, y3, y4, y5, y6, y7, y8, y9, y10, y11, y12, y13, y14, y15]) M' := by
  obtain ⟨s, hs, ef⟩ := flow_eq ns n M hn
  have f0 : FlAt (M ++ [s.c]) M.length (M ++ [s.c]) := FlAt.start hs (by simp)
  obtain ⟨F, M1, Fw, Fn, Fl, f1, en⟩ := names_eq f0 9 (by omega)
  obtain ⟨a0, a1, a2, a3, a4, a5, a6, a7, a8, rfl⟩ := nine Fl
  have Wd : ∀ w ∈ [a0, a1, a2, a3, a4, a5, a6, a7, a8], Wd6 w := fun w hw => nm_6 (Fw w hw)
  have h01 : a0 ≠ a1 := fun z => by subst z; simp at Fn
  have W : W9 a0 a1 a2 a3 a4 a5 a6 a7 a8 := ⟨Wd _ (by simp), Wd _ (by simp), Wd _ (by simp), Wd _ (by simp), Wd _ (by simp), Wd _ (by simp), Wd _ (by simp), Wd _ (by simp), Wd _ (by simp)⟩
  obtain ⟨s', hs', hf1, _⟩ := f1.get
  have fi1 : FI M1 M.length := ⟨s', hs', hf1⟩
  obtain ⟨v, M2, hv, fi2, _, _, d2⟩ := fi1.draw 6 (by omega) (by omega)
  obtain ⟨M3, k, st, w, lt, op, po, e3, T3⟩ := make_eq (ev := 1 + v) (a2 := a2) (a3 := a3) (a4 := a4) (a5 := a5) (a6 := a6) (a7 := a7) (a8 := a8) h01 fi2 (some (.fz (intsD ns))) (some (.int (n : Int))) (some (ptD (a0, a3))) x8 x9 x10 x11 x12 x13 x14 x15
  obtain ⟨M4, y9, y10, y11, y12, y13, y14, y15, e4⟩ := ticks_eq W (by omega) T3 h01 (some (.fz (intsD ns))) (some (.int (n : Int))) (some (.tup ((HHs a0 a1 a3 a4 a5).map huD))) (some (.tup ((QQs a0 a1 a3 a4 a5 a6).map rtD))) x10 x11 x12 x13 x14 x15
  refine ⟨M4, some (.ref M.length), some (namL a0 a1 a2 a3 a4 a5 a6 a7 a8), some (.int ((1 + v : Nat) : Int)), some (.tup ((HHs a0 a1 a3 a4 a5).map huD)), some (ptD (a0, a3)), some (.tup ((QQs a0 a1 a3 a4 a5 a6).map rtD)), some (.ref k), y9, y10, y11, y12, y13, y14, y15, ?_⟩
  · have en : g_law_names [.ref M.length, .int 9] (M ++ [s.c]) = .ok (namL a0 a1 a2 a3 a4 a5 a6 a7 a8) M1 := en
    have sm : (1 : Int) + (v : Int) = ((1 + v : Nat) : Int) := by omega
    have e0 : S3_0 [some (.fz (intsD ns)), some (.int (n : Int)), x2, x3, x4, x5, x6, x7, x8, x9, x10, x11, x12, x13, x14, x15] M = .ok (.nx [some (.fz (intsD ns)), some (.int (n : Int)), some (.ref M.length), x3, x4, x5, x6, x7, x8, x9, x10, x11, x12, x13, x14, x15]) (M ++ [s.c]) := by
      push_cast [S3_0, ef]
    have e1 : S3_1 [some (.fz (intsD ns)), some (.int (n : Int)), some (.ref M.length), x3, x4, x5, x6, x7, x8, x9, x10, x11, x12, x13, x14, x15] (M ++ [s.c]) = .ok (.nx [some (.fz (intsD ns)), some (.int (n : Int)), some (.ref M.length), some (namL a0 a1 a2 a3 a4 a5 a6 a7 a8), some (.int ((1 + v : Nat) : Int)), x5, x6, x7, x8, x9, x10, x11, x12, x13, x14, x15]) M2 := by
      obtain ⟨NL, hNL⟩ : ∃ X, namL a0 a1 a2 a3 a4 a5 a6 a7 a8 = X := ⟨_, rfl⟩
      rw [hNL] at en ⊢
      push_cast [S3_1, en, d2, sm]
    rw [l3_eq, sq_nx _ _ _ _ _ _ e0, sq_nx _ _ _ _ _ _ e1, head_eq, e3]
    exact e4
theorem law_holds : ∀ ns : List Int, ns.length ≤ 63 → ∃ m, g_law [.fz (ns.map .int)] [] = .ok (.bl true) m := by
  intro ns hn
  show ∃ m, g_law [.fz (intsD ns)] [] = .ok (.bl true) m
  have il : (intsD ns).length = ns.length := by simp [intsD]
  obtain ⟨c, hc, hm1, hm2⟩ : ∃ c : Nat, c ≤ 2 ∧ (∀ M, oMin [.int 2, .int (ns.length : Int)] M = .ok (.int (min 2 ns.length : Nat)) M) ∧ (∀ M, oMax [.int 1, .int (min 2 ns.length : Nat)] M = .ok (.int (c : Int)) M) := by
    refine ⟨max 1 (min 2 ns.length), by omega, fun M => ?_, fun M => ?_⟩
    · rw [oMin_int]; congr 2; split <;> omega
    · rw [oMax_int]; congr 2; split <;> omega
  obtain ⟨env', M1, e1, x1, x2, x3, x4, x5, x6, x7, x8, x9, x10, x11, x12, x13, x14, x15, rfl⟩ := forL_inv (g := gN 1) (body := L_law_3) (fun _ env m' => ∃ x1 x2 x3 x4 x5 x6 x7 x8 x9 x10 x11 x12 x13 x14 x15, env = [some (.fz (intsD ns)), x1, x2, x3, x4, x5, x6, x7, x8, x9, x10, x11, x12, x13, x14, x15]) (rngItems 0 c) 0 [some (.fz (intsD ns)), none, none, none, none, none, none, none, none, none, none, none, none, none, none, none] [] ⟨_, _, _, _, _, _, _, _, _, _, _, _, _, _, _, rfl⟩ (by
    rintro j d env m' hk ⟨x1, x2, x3, x4, x5, x6, x7, x8, x9, x10, x11, x12, x13, x14, x15, rfl⟩
    obtain ⟨rfl, hj⟩ := rngItems_get hk
    obtain ⟨M', y2, y3, y4, y5, y6, y7, y8, y9, y10, y11, y12, y13, y14, y15, e⟩ := turn38 ns j (by omega) m' x2 x3 x4 x5 x6 x7 x8 x9 x10 x11 x12 x13 x14 x15
    refine ⟨_, M', ?_, some (.int (j : Int)), y2, y3, y4, y5, y6, y7, y8, y9, y10, y11, y12, y13, y14, y15, rfl⟩
    rw [gN_eq, R.bind_ok, show (0 : Int) + (j : Int) = (j : Int) by omega]
    exact e)
  refine ⟨M1, runB_rt (N := 16) (?_ : B_law [some (.fz (intsD ns)), none, none, none, none, none, none, none, none, none, none, none, none, none, none, none] [] = _)⟩
  have ro : rngOk (c : Int) = true := rngOk_of (by omega) (by omega)
  have tc : (c : Int).toNat = c := by omega
  have ol : ∀ M, oLenA [.fz (intsD ns)] M = .ok (.int (ns.length : Int)) M := fun M => by
    have : oLenA [.fz (intsD ns)] M = .ok (.int ((intsD ns).length : Int)) M := rfl
    rw [this, il]
  push_cast [B_law, ol, hm1, hm2, mFor_eq, ro, tc, e1]
end K38
set_option pp.deepTerms false
set_option pp.maxSteps 400
set_option Elab.async false
set_option linter.all false
set_option maxRecDepth 100000
set_option maxHeartbeats 4000000
namespace K38
open PySem PySem.Spec PyProof.Rows L2 Fn
set_option genInjectivity false
set_option genSizeOf false
def _root_.PySem.W.Fast.tw11867117583995802553 : Nat := 0
def _root_.PySem.W.Fast.tw7225763321625136674 : Nat := 0
def _root_.PySem.W.Fast.tw13006113487501806941 : Nat := 0
def _root_.PySem.W.Fast.tw17066645054794343568 : Nat := 0
def _root_.PySem.W.Fast.tw17668557551237908418 : Nat := 0
def _root_.PySem.W.Fast.tw8076757784150853658 : Nat := 0
def _root_.PySem.W.Fast.tw14217428644491876871 : Nat := 0
def _root_.PySem.W.Fast.tw3797817021505507839 : Nat := 0
def _root_.PySem.W.Fast.tw10646008585251102462 : Nat := 0
def _root_.PySem.W.Fast.tw7982378700067260046 : Nat := 0
def _root_.PySem.W.Fast.tw15418420154967859756 : Nat := 0
def _root_.PySem.W.Fast.tw16522247065343794539 : Nat := 0
def _root_.PySem.W.Fast.tw10172181518324368963 : Nat := 0
def _root_.PySem.W.Fast.tw2312063180635001685 : Nat := 0
/-- what the top has written -/
structure Tx (K : PySem.W.Frag) (mg : Str → Option Value) (cl : Nat → Addr) where
  a_root_numbers : Addr
  d_root_numbers : FuncData
  f_root_numbers : Fun K "root_numbers" "root_numbers" s_root_numbers a_root_numbers d_root_numbers
  m_root_numbers : mg "root_numbers" = some (.ref a_root_numbers)
  b_root_numbers : Binds K d_root_numbers ["plan"] []
  a_Table___init__ : Addr
  d_Table___init__ : FuncData
  f_Table___init__ : Fun K "__init__" "Table.__init__" s_Table___init__ a_Table___init__ d_Table___init__
  b_Table___init__ : Binds K d_Table___init__ ["self"] []
  a_Table_free_place : Addr
  d_Table_free_place : FuncData
  f_Table_free_place : Fun K "free_place" "Table.free_place" s_Table_free_place a_Table_free_place d_Table_free_place
  me_Table_free_place : Meth K (cl 0) "free_place" a_Table_free_place
  b_Table_free_place : Binds K d_Table_free_place ["self"] []
  a_Table_leads : Addr
  d_Table_leads : FuncData
  f_Table_leads : Fun K "leads" "Table.leads" s_Table_leads a_Table_leads d_Table_leads
  me_Table_leads : Meth K (cl 0) "leads" a_Table_leads
  b_Table_leads : Binds K d_Table_leads ["self", "handle"] []
  a_Table_handles : Addr
  d_Table_handles : FuncData
  f_Table_handles : Fun K "handles" "Table.handles" s_Table_handles a_Table_handles d_Table_handles
  me_Table_handles : Meth K (cl 0) "handles" a_Table_handles
  b_Table_handles : Binds K d_Table_handles ["self"] []
  a_asks : Addr
  d_asks : FuncData
  f_asks : Fun K "asks" "asks" s_asks a_asks d_asks
  m_asks : mg "asks" = some (.ref a_asks)
  b_asks : Binds K d_asks ["rows"] []
  a_beings : Addr
  d_beings : FuncData
  f_beings : Fun K "beings" "beings" s_beings a_beings d_beings
  m_beings : mg "beings" = some (.ref a_beings)
  b_beings : Binds K d_beings ["plan"] []
  a_servant_at : Addr
  d_servant_at : FuncData
  f_servant_at : Fun K "servant_at" "servant_at" s_servant_at a_servant_at d_servant_at
  m_servant_at : mg "servant_at" = some (.ref a_servant_at)
  b_servant_at : Binds K d_servant_at ["plan", "place"] []
  a_Stone___init__ : Addr
  d_Stone___init__ : FuncData
  f_Stone___init__ : FunV K "__init__" "Stone.__init__" s_Stone___init__ a_Stone___init__ d_Stone___init__
  b_Stone___init__ : Binds K d_Stone___init__ ["self", "rows"] []
  a_Stone_write : Addr
  d_Stone_write : FuncData
  f_Stone_write : Fun K "write" "Stone.write" s_Stone_write a_Stone_write d_Stone_write
  me_Stone_write : Meth K (cl 2) "write" a_Stone_write
  b_Stone_write : Binds K d_Stone_write ["self", "row"] []
  a_Stone_settle : Addr
  d_Stone_settle : FuncData
  f_Stone_settle : Fun K "settle" "Stone.settle" s_Stone_settle a_Stone_settle d_Stone_settle
  me_Stone_settle : Meth K (cl 2) "settle" a_Stone_settle
  b_Stone_settle : Binds K d_Stone_settle ["self"] []
  a_Stone_fall : Addr
  d_Stone_fall : FuncData
  f_Stone_fall : Fun K "fall" "Stone.fall" s_Stone_fall a_Stone_fall d_Stone_fall
  me_Stone_fall : Meth K (cl 2) "fall" a_Stone_fall
  b_Stone_fall : Binds K d_Stone_fall ["self", "kept"] []
  a_Stone_rows : Addr
  d_Stone_rows : FuncData
  f_Stone_rows : Fun K "rows" "Stone.rows" s_Stone_rows a_Stone_rows d_Stone_rows
  me_Stone_rows : Meth K (cl 2) "rows" a_Stone_rows
  b_Stone_rows : Binds K d_Stone_rows ["self"] []
  a_Stone_settled : Addr
  d_Stone_settled : FuncData
  f_Stone_settled : Fun K "settled" "Stone.settled" s_Stone_settled a_Stone_settled d_Stone_settled
  me_Stone_settled : Meth K (cl 2) "settled" a_Stone_settled
  b_Stone_settled : Binds K d_Stone_settled ["self"] []
  a_Kernel_waits : Addr
  d_Kernel_waits : FuncData
  f_Kernel_waits : Fun K "waits" "Kernel.waits" s_Kernel_waits a_Kernel_waits d_Kernel_waits
  me_Kernel_waits : Meth K (cl 3) "waits" a_Kernel_waits
  b_Kernel_waits : Binds K d_Kernel_waits ["self"] []
  a_Kernel_say : Addr
  d_Kernel_say : FuncData
  f_Kernel_say : Fun K "say" "Kernel.say" s_Kernel_say a_Kernel_say d_Kernel_say
  me_Kernel_say : Meth K (cl 3) "say" a_Kernel_say
  b_Kernel_say : Binds K d_Kernel_say ["self", "house", "what"] []
  a_law_cell : Addr
  d_law_cell : FuncData
  f_law_cell : Fun K "_law_cell" "_law_cell" s_law_cell a_law_cell d_law_cell
  m_law_cell : mg "_law_cell" = some (.ref a_law_cell)
  b_law_cell : Binds K d_law_cell ["_law_script", "_law_k"] []
  a_law_draw : Addr
  d_law_draw : FuncData
  f_law_draw : Fun K "_law_draw" "_law_draw" s_law_draw a_law_draw d_law_draw
  m_law_draw : mg "_law_draw" = some (.ref a_law_draw)
  b_law_draw : Binds K d_law_draw ["_law_flow_here", "_law_many"] []
  a_law_letter : Addr
  d_law_letter : FuncData
  f_law_letter : Fun K "_law_letter" "_law_letter" s_law_letter a_law_letter d_law_letter
  m_law_letter : mg "_law_letter" = some (.ref a_law_letter)
  b_law_letter : Binds K d_law_letter ["_law_house", "_law_count", "_law_what", "_law_opened"] []
  a_Table_put : Addr
  d_Table_put : FuncData
  f_Table_put : Fun K "put" "Table.put" s_Table_put a_Table_put d_Table_put
  me_Table_put : Meth K (cl 0) "put" a_Table_put
  b_Table_put : Binds K d_Table_put ["self", "house", "number"] []
  a_Table_drop : Addr
  d_Table_drop : FuncData
  f_Table_drop : Fun K "drop" "Table.drop" s_Table_drop a_Table_drop d_Table_drop
  me_Table_drop : Meth K (cl 0) "drop" a_Table_drop
  b_Table_drop : Binds K d_Table_drop ["self", "handle"] []
  a_first_rows : Addr
  d_first_rows : FuncData
  f_first_rows : Fun K "first_rows" "first_rows" s_first_rows a_first_rows d_first_rows
  m_first_rows : mg "first_rows" = some (.ref a_first_rows)
  b_first_rows : Binds K d_first_rows ["plan", "house"] []
  a_Kernel_rows : Addr
  d_Kernel_rows : FuncData
  f_Kernel_rows : Fun K "rows" "Kernel.rows" s_Kernel_rows a_Kernel_rows d_Kernel_rows
  me_Kernel_rows : Meth K (cl 3) "rows" a_Kernel_rows
  b_Kernel_rows : Binds K d_Kernel_rows ["self"] []
  a_Kernel_settled : Addr
  d_Kernel_settled : FuncData
  f_Kernel_settled : Fun K "settled" "Kernel.settled" s_Kernel_settled a_Kernel_settled d_Kernel_settled
  me_Kernel_settled : Meth K (cl 3) "settled" a_Kernel_settled
  b_Kernel_settled : Binds K d_Kernel_settled ["self"] []
  a_Kernel_fall : Addr
  d_Kernel_fall : FuncData
  f_Kernel_fall : Fun K "fall" "Kernel.fall" s_Kernel_fall a_Kernel_fall d_Kernel_fall
  me_Kernel_fall : Meth K (cl 3) "fall" a_Kernel_fall
  b_Kernel_fall : Binds K d_Kernel_fall ["self", "kept"] []
  a_Kernel_wrote : Addr
  d_Kernel_wrote : FuncData
  f_Kernel_wrote : Fun K "wrote" "Kernel.wrote" s_Kernel_wrote a_Kernel_wrote d_Kernel_wrote
  me_Kernel_wrote : Meth K (cl 3) "wrote" a_Kernel_wrote
  b_Kernel_wrote : Binds K d_Kernel_wrote ["self", "row"] []
  a_Kernel_write_ask : Addr
  d_Kernel_write_ask : FuncData
  f_Kernel_write_ask : Fun K "write_ask" "Kernel.write_ask" s_Kernel_write_ask a_Kernel_write_ask d_Kernel_write_ask
  me_Kernel_write_ask : Meth K (cl 3) "write_ask" a_Kernel_write_ask
  b_Kernel_write_ask : Binds K d_Kernel_write_ask ["self", "count", "what"] []
  a_Kernel_take_said : Addr
  d_Kernel_take_said : FuncData
  f_Kernel_take_said : Fun K "take_said" "Kernel.take_said" s_Kernel_take_said a_Kernel_take_said d_Kernel_take_said
  me_Kernel_take_said : Meth K (cl 3) "take_said" a_Kernel_take_said
  b_Kernel_take_said : Binds K d_Kernel_take_said ["self", "sender", "what", "tick"] []
  a_law_flow : Addr
  d_law_flow : FuncData
  f_law_flow : Fun K "_law_flow" "_law_flow" s_law_flow a_law_flow d_law_flow
  m_law_flow : mg "_law_flow" = some (.ref a_law_flow)
  b_law_flow : Binds K d_law_flow ["_law_script", "_law_k"] []
  a_law_names : Addr
  d_law_names : FuncData
  f_law_names : Fun K "_law_names" "_law_names" s_law_names a_law_names d_law_names
  m_law_names : mg "_law_names" = some (.ref a_law_names)
  b_law_names : Binds K d_law_names ["_law_flow_here", "_law_many"] []
  a_replayed : Addr
  d_replayed : FuncData
  f_replayed : Fun K "replayed" "replayed" s_replayed a_replayed d_replayed
  m_replayed : mg "replayed" = some (.ref a_replayed)
  b_replayed : Binds K d_replayed ["rows", "being"] []
  a_Kernel___init__ : Addr
  d_Kernel___init__ : FuncData
  f_Kernel___init__ : Fun K "__init__" "Kernel.__init__" s_Kernel___init__ a_Kernel___init__ d_Kernel___init__
  a_Kernel_asked : Addr
  d_Kernel_asked : FuncData
  f_Kernel_asked : Fun K "asked" "Kernel.asked" s_Kernel_asked a_Kernel_asked d_Kernel_asked
  me_Kernel_asked : Meth K (cl 3) "asked" a_Kernel_asked
  b_Kernel_asked : Binds K d_Kernel_asked ["self", "tick", "what"] []
  a_Kernel_leave : Addr
  d_Kernel_leave : FuncData
  f_Kernel_leave : Fun K "leave" "Kernel.leave" s_Kernel_leave a_Kernel_leave d_Kernel_leave
  me_Kernel_leave : Meth K (cl 3) "leave" a_Kernel_leave
  b_Kernel_leave : Binds K d_Kernel_leave ["self", "tick"] []
  a_Kernel_take : Addr
  d_Kernel_take : FuncData
  f_Kernel_take : Fun K "take" "Kernel.take" s_Kernel_take a_Kernel_take d_Kernel_take
  me_Kernel_take : Meth K (cl 3) "take" a_Kernel_take
  b_Kernel_take : Binds K d_Kernel_take ["self", "sender", "what", "tick"] []
  a_table : Addr
  d_table : FuncData
  f_table : Fun K "table" "table" s_table a_table d_table
  m_table : mg "table" = some (.ref a_table)
  b_table : Binds K d_table ["rows", "being"] []
  a_law_heard : Addr
  d_law_heard : FuncData
  f_law_heard : Fun K "_law_heard" "_law_heard" s_law_heard a_law_heard d_law_heard
  m_law_heard : mg "_law_heard" = some (.ref a_law_heard)
  b_law_heard : Binds K d_law_heard ["_law_flow_here", "_law_kernel", "_law_house", "_law_opened", "_law_tick"] []
  a_Kernel_led : Addr
  d_Kernel_led : FuncData
  f_Kernel_led : Fun K "led" "Kernel.led" s_Kernel_led a_Kernel_led d_Kernel_led
  me_Kernel_led : Meth K (cl 3) "led" a_Kernel_led
  b_Kernel_led : Binds K d_Kernel_led ["self", "person", "handle"] []
  a_Kernel_want : Addr
  d_Kernel_want : FuncData
  f_Kernel_want : Fun K "want" "Kernel.want" s_Kernel_want a_Kernel_want d_Kernel_want
  me_Kernel_want : Meth K (cl 3) "want" a_Kernel_want
  b_Kernel_want : Binds K d_Kernel_want ["self", "person", "handle", "tick"] []
  a_Kernel_hand : Addr
  d_Kernel_hand : FuncData
  f_Kernel_hand : Fun K "hand" "Kernel.hand" s_Kernel_hand a_Kernel_hand d_Kernel_hand
  me_Kernel_hand : Meth K (cl 3) "hand" a_Kernel_hand
  b_Kernel_hand : Binds K d_Kernel_hand ["self", "person", "handle", "way", "rights", "far", "tick"] []
  a_Kernel_cut : Addr
  d_Kernel_cut : FuncData
  f_Kernel_cut : Fun K "cut" "Kernel.cut" s_Kernel_cut a_Kernel_cut d_Kernel_cut
  me_Kernel_cut : Meth K (cl 3) "cut" a_Kernel_cut
  b_Kernel_cut : Binds K d_Kernel_cut ["self", "person", "own", "number", "tick"] []
  a_Kernel_call : Addr
  d_Kernel_call : FuncData
  f_Kernel_call : Fun K "call" "Kernel.call" s_Kernel_call a_Kernel_call d_Kernel_call
  me_Kernel_call : Meth K (cl 3) "call" a_Kernel_call
  b_Kernel_call : Binds K d_Kernel_call ["self", "person", "way", "word", "what", "tick"] []
  a_law_asked_one : Addr
  d_law_asked_one : FuncData
  f_law_asked_one : Fun K "_law_asked_one" "_law_asked_one" s_law_asked_one a_law_asked_one d_law_asked_one
  m_law_asked_one : mg "_law_asked_one" = some (.ref a_law_asked_one)
  b_law_asked_one : Binds K d_law_asked_one ["_law_flow_here", "_law_kernel", "_law_names_here", "_law_tick"] []
  a_law : Addr
  d_law : FuncData
  f_law : Fun K "law" "law" s_law a_law d_law
  m_law : mg "law" = some (.ref a_law)
  b_law : Binds K d_law ["_law_script"] []
  m_table_replay : mg "table_replay" = some (.ref a_table)
  cls_Table : Cls K (cl 0)
  c_Table : mg "Table" = some (.ref (cl 0))
  cls_Stone : Cls K (cl 2)
  c_Stone : mg "Stone" = some (.ref (cl 2))
  cls_Kernel : Cls K (cl 3)
  c_Kernel : mg "Kernel" = some (.ref (cl 3))
  mk_Table : Mk K (cl 0) a_Table___init__
  mk_Stone : Mk K (cl 2) a_Stone___init__
  mk_Kernel : Mk K (cl 3) a_Kernel___init__
  na_Table_used : NoAttr K (cl 0) "used"
  na_Table_there : NoAttr K (cl 0) "there"
  na_Table_known : NoAttr K (cl 0) "known"
  na_Stone_written : NoAttr K (cl 2) "written"
  na_Stone_firm : NoAttr K (cl 2) "firm"
  na_Kernel_letters : NoAttr K (cl 3) "letters"
  na_Kernel_house : NoAttr K (cl 3) "house"
  na_Kernel_stone : NoAttr K (cl 3) "stone"
  na_Kernel_kept : NoAttr K (cl 3) "kept"
  na_Kernel_opened : NoAttr K (cl 3) "opened"
  na_Kernel_plan : NoAttr K (cl 3) "plan"
  na_Kernel_lease : NoAttr K (cl 3) "lease"
  na_Kernel_every : NoAttr K (cl 3) "every"
  dv_Kernel___init___2 : List Value
  du_Kernel___init___2 : List V
  bd_Kernel___init___2 : Binds K d_Kernel___init__ ["self", "plan", "house", "lease", "again"] dv_Kernel___init___2
  vd_Kernel___init___2 : Vals du_Kernel___init___2 dv_Kernel___init___2
  cd_Kernel___init___2 : ClosedK K cl [.int 6, .int 3] du_Kernel___init___2
  kk_Kernel___init___3_again : KwBK K cl d_Kernel___init__ ["self", "plan", "house", "lease", "again"] 3 ["again"] (piIx [0, 1, 2, 4, 3]) [.int 6]
  n_abs : mg "abs" = none
  n_bool : mg "bool" = none
  n_enumerate : mg "enumerate" = none
  n_int : mg "int" = none
  n_isinstance : mg "isinstance" = none
  n_len : mg "len" = none
  n_list : mg "list" = none
  n_max : mg "max" = none
  n_min : mg "min" = none
  n_range : mg "range" = none
  n_repr : mg "repr" = none
  n_sorted : mg "sorted" = none
  n_tuple : mg "tuple" = none
  v_AGAIN : ∃ u, mg "AGAIN" = some u ∧ ∃ t, u = .int 3 t
section
variable {P : Program} {w : World} {K : PySem.W.Frag} {mg : Str → Option Value} {base : Heap} {cl : Nat → Addr}
theorem Tx.k_AGAIN (T : Tx K mg cl) {X : Cx} {E : XK} {pos : Pos} (hg : Gl X "AGAIN" := by rfl) (hm : X.mg = mg := by rfl) : PE X (.Name "AGAIN" pos) (tE ⟨X.K, cl, X.w⟩ E (mC c_AGAIN)) := by
  obtain ⟨u, h, t, e⟩ := T.v_AGAIN
  subst e
  exact sn_glob (v := .int 3) hg (by rw [hm]; exact h) ⟨t, rfl⟩ (fun _ _ => rfl)
theorem ok_root_numbers (T : Tx K mg cl) : FnOk P w K mg base CX0 1 T.a_root_numbers T.d_root_numbers ["plan"] (spOf ⟨K, cl, w⟩ 1 g_root_numbers) := by
  refine fn_def (B := B_root_numbers) T.f_root_numbers sc_root_numbers (fun cdv A outer s H E hr => ?_) (fun ds M _ => ref_gc B_root_numbers 9 ds M)
  have hu := huE hr
  have hu1 := hu1E hr
  exact (sb_cons (ss_par (i := 1) (j := 2) rfl sc_root_numbers.nd rfl rfl (by decide) rfl rfl (sa_cons (sn_lst true sa_nil) (sa_cons sn_dnewK sa_nil)) (by rfl)) (sb_cons (ss_for (sl := [3, 4, 5, 6, 7]) PassesOwn.never rfl (si_seq (sn_ixA hu (sn_var (pv 0)) sn_int)) (sg_tup rfl (sgs_cons (sg_name (pg_name (i := 3) sc_root_numbers.nd rfl (.inl rfl)) (by decide)) (sgs_cons (sg_name (pg_name (i := 4) sc_root_numbers.nd rfl (.inl rfl)) (by decide)) (sgs_cons (sg_name (pg_name (i := 5) sc_root_numbers.nd rfl (.inl rfl)) (by decide)) (sgs_cons (sg_name (pg_name (i := 6) sc_root_numbers.nd rfl (.inl rfl)) (by decide)) (sgs_cons (sg_name (pg_name (i := 7) sc_root_numbers.nd rfl (.inl rfl)) (by decide)) sgs_nil)))))) (sb_cons (ss_set (i := 8) (sn_ixA hu (sn_var (pv 3)) sn_int) sc_root_numbers.nd rfl (.inl rfl)) (sb_cons (ss_expr (sn_meth PySem.F.plainAttrs_list PySem.F.slot_list_append PySem.F.type_list_append mt_append mt1_append (sn_var (pv 1)) (sa_cons (sn_meth PySem.F.plainAttrs_dict PySem.F.slot_dict_get PySem.F.type_dict_get (mt_dget hu) mt1_dget (sn_var (pv 2)) (sa_cons (sn_var (pv 8)) (sa_cons sn_int sa_nil))) sa_nil))) (sb_one (ss_asg (sl := []) (sn_add false (sn_meth PySem.F.plainAttrs_dict PySem.F.slot_dict_get PySem.F.type_dict_get (mt_dget hu) mt1_dget (sn_var (pv 2)) (sa_cons (sn_var (pv 8)) (sa_cons sn_int sa_nil))) sn_int) (sg_ixA hu (sn_var (pv 2)) (sn_var (pv 8)))))))) (sb_one (ss_ret (sn_var (pv 1))))))
theorem ok_Table___init__ (T : Tx K mg cl) : FnOk P w K mg base CX0 1 T.a_Table___init__ T.d_Table___init__ ["self"] (spOf ⟨K, cl, w⟩ 1 g_Table___init__) := by
  refine fn_def (B := B_Table___init__) T.f_Table___init__ sc_Table___init__ (fun cdv A outer s H E hr => ?_) (fun ds M _ => ref_run B_Table___init__ 1 ds M)
  have hu := huE hr
  have hu1 := hu1E hr
  exact (sb_cons (ss_fld (c0 := 0) T.cls_Table T.na_Table_used (sn_var (pv 0)) (sn_lst true sa_nil)) (sb_cons (ss_fld (c0 := 0) T.cls_Table T.na_Table_there (sn_var (pv 0)) sn_dnewK) (sb_one (ss_fld (c0 := 0) T.cls_Table T.na_Table_known (sn_var (pv 0)) sn_dnewT))))
theorem ok_Table_free_place (T : Tx K mg cl) : FnOk P w K mg base CX0 1 T.a_Table_free_place T.d_Table_free_place ["self"] (spOf ⟨K, cl, w⟩ 1 g_Table_free_place) := by
  refine fn_def (B := B_Table_free_place) T.f_Table_free_place sc_Table_free_place (fun cdv A outer s H E hr => ?_) (fun ds M _ => ref_run B_Table_free_place 2 ds M)
  have hu := huE hr
  have hu1 := hu1E hr
  exact (sb_cons (ss_set (i := 1) sn_int sc_Table_free_place.nd rfl (.inl rfl)) (sb_cons (ss_while PassesOwn.never (st_cmp (op_inA hu) op2_inA rfl (sn_var (pv 1)) (sn_fld (c0 := 0) T.cls_Table T.na_Table_there (sn_var (pv 0)))) (sb_one (ss_aug (i := 1) ip2_add sn_int ip_add sc_Table_free_place.nd rfl (.inl rfl)))) (sb_one (ss_ret (sn_var (pv 1))))))
theorem ok_Table_leads (T : Tx K mg cl) : FnOk P w K mg base CX0 1 T.a_Table_leads T.d_Table_leads ["self", "handle"] (spOf ⟨K, cl, w⟩ 2 g_Table_leads) := by
  refine fn_def (B := B_Table_leads) T.f_Table_leads sc_Table_leads (fun cdv A outer s H E hr => ?_) (fun ds M _ => ref_run B_Table_leads 4 ds M)
  have hu := huE hr
  have hu1 := hu1E hr
  exact (sb_cons (ss_asg (sl := [2, 3]) (sn_var (pv 1)) (sg_tup rfl (sgs_cons (sg_name (pg_name (i := 2) sc_Table_leads.nd rfl (.inl rfl)) (by decide)) (sgs_cons (sg_name (pg_name (i := 3) sc_Table_leads.nd rfl (.inl rfl)) (by decide)) sgs_nil)))) (sb_cons (ss_if (PW.pt (sw_or (st_cmp (op_notInA hu) op2_notInA rfl (sn_var (pv 2)) (sn_fld (c0 := 0) T.cls_Table T.na_Table_there (sn_var (pv 0)))) (sw_or1 (st_cmp (op_neP hu) op2_ne (nomark _) (sn_ixA hu (sn_ixA hu (sn_fld (c0 := 0) T.cls_Table T.na_Table_there (sn_var (pv 0))) (sn_var (pv 2))) sn_int) (sn_var (pv 3)))))) (sb_one (ss_ret sn_non)) sb_nil) (sb_one (ss_ret (sn_ixA hu (sn_ixA hu (sn_fld (c0 := 0) T.cls_Table T.na_Table_there (sn_var (pv 0))) (sn_var (pv 2))) sn_int)))))
theorem ok_Table_handles (T : Tx K mg cl) : FnOk P w K mg base CX0 1 T.a_Table_handles T.d_Table_handles ["self"] (spOf ⟨K, cl, w⟩ 1 g_Table_handles) := by
  refine fn_def (B := B_Table_handles) T.f_Table_handles sc_Table_handles (fun cdv A outer s H E hr => ?_) (fun ds M _ => ref_run B_Table_handles 4 ds M)
  have hu := huE hr
  have hu1 := hu1E hr
  exact (sb_one (ss_ret (sn_callB (cr_sortedD hu) (fn_sorted (c := false)) rfl T.n_sorted (by decide +kernel) (sa_cons (sn_lock (mFld 0 "there" (mVar 0)) (sn_lc false (own := [("place", 1), ("turn", 2), ("thing", 3)]) rfl sc_Table_handles.nd (si_itemsA (sn_fld (c0 := 0) T.cls_Table T.na_Table_there (sn_var (pv 0)))) (blkOk_by (N := ["self", "place", "turn", "thing"]) (sc := defScope s_Table_handles) (by decide +kernel)) (fun _ _ _ _ _ => (sg_tup rfl (sgs_cons (sg_name (pg_name (i := 1) sc_Table_handles.nd rfl (.inl rfl)) (by decide)) (sgs_cons (sg_tup rfl (sgs_cons (sg_name (pg_name (i := 2) sc_Table_handles.nd rfl (.inl rfl)) (by decide)) (sgs_cons (sg_name (pg_name (i := 3) sc_Table_handles.nd rfl (.inl rfl)) (by decide)) sgs_nil))) sgs_nil)))) (fun _ _ _ _ _ => sts_nil) (fun _ _ _ _ _ => (sn_tup (sa_cons (sn_var (pv 1)) (sa_cons (sn_var (pv 2)) sa_nil)))))) sa_nil))))
theorem ok_asks (T : Tx K mg cl) : FnOk P w K mg base CX0 1 T.a_asks T.d_asks ["rows"] (spOf ⟨K, cl, w⟩ 1 g_asks) := by
  refine fn_def (B := B_asks) T.f_asks sc_asks (fun cdv A outer s H E hr => ?_) (fun ds M _ => ref_run B_asks 6 ds M)
  have hu := huE hr
  have hu1 := hu1E hr
  exact (sb_cons (ss_set (i := 1) sn_dnewK sc_asks.nd rfl (.inr rfl)) (sb_cons (ss_for (sl := [2, 3, 4]) PassesOwn.never rfl (si_seq (sn_var (pv 0))) (sg_star (i := 2) rfl (sgs_cons (sg_name (pg_name (i := 2) sc_asks.nd rfl (.inl rfl)) (by decide)) (sgs_cons (sg_name (pg_name (i := 3) sc_asks.nd rfl (.inl rfl)) (by decide)) (sgs_star (sg_name (pg_name (i := 4) sc_asks.nd rfl (.inl rfl)) (by decide)) sgs_nil))) (by decide)) (sb_cons (ss_if (st_cmp (op_eqP hu) op2_eq (nomark _) (sn_var (pv 2)) (sn_strL (by decide +kernel))) (sb_one (ss_asg (sl := []) (sn_tup (sa_cons (sn_var (pv 3)) (sa_cons (sn_ixA hu (sn_var (pv 4)) sn_int) (sa_cons sn_non sa_nil)))) (sg_ixA hu (sn_var (pv 1)) (sn_ixA hu (sn_var (pv 4)) sn_int)))) sb_nil) (sb_one (ss_if (st_cmp (op_eqP hu) op2_eq (nomark _) (sn_var (pv 2)) (sn_strL (by decide +kernel))) (sb_one (ss_asg (sl := []) (sn_add false (sn_sl false (sn_ixA hu (sn_var (pv 1)) (sn_ixA hu (sn_var (pv 4)) sn_int)) sp_none (sp_some sn_int)) (sn_tup (sa_cons (sn_ixA hu (sn_var (pv 4)) sn_int) sa_nil))) (sg_ixA hu (sn_var (pv 1)) (sn_ixA hu (sn_var (pv 4)) sn_int)))) sb_nil)))) (sb_one (ss_ret (sn_dc (own := [("count", 5)]) rfl sc_asks.nd (si_seq (sn_callB (cr_sortS rfl hu) (fn_sortS (c := false)) rfl T.n_sorted (by decide +kernel) (sa_cons (sn_var (pv 1)) sa_nil))) (blkOk_by (N := ["rows", "found", "word", "tick", "parts", "count"]) (sc := defScope s_asks) (by decide +kernel)) (fun _ _ _ _ _ => (sg_name (pg_name (i := 5) sc_asks.nd rfl (.inl rfl)) (by decide))) (fun _ _ _ _ _ => sts_nil) (fun _ _ _ _ _ => (sn_var (pv 5))) (fun _ _ _ _ _ => (sn_ixA hu (sn_var (pv 1)) (sn_var (pv 5)))))))))
theorem ok_beings (T : Tx K mg cl) : FnOk P w K mg base CX0 1 T.a_beings T.d_beings ["plan"] (spOf ⟨K, cl, w⟩ 1 g_beings) := by
  refine fn_def (B := B_beings) T.f_beings sc_beings (fun cdv A outer s H E hr => ?_) (fun ds M _ => ref_gc B_beings 8 ds M)
  have hu := huE hr
  have hu1 := hu1E hr
  exact (sb_cons (ss_set (i := 1) (sn_lst true sa_nil) sc_beings.nd rfl (.inl rfl)) (sb_cons (ss_for (sl := [2, 3, 4, 5]) PassesOwn.never rfl (si_seq (sn_ix (sn_var (pv 0)) sn_int)) (sg_tup rfl (sgs_cons (sg_name (pg_name (i := 2) sc_beings.nd rfl (.inr rfl)) (by decide)) (sgs_cons (sg_name (pg_name (i := 3) sc_beings.nd rfl (.inl rfl)) (by decide)) (sgs_cons (sg_name (pg_name (i := 4) sc_beings.nd rfl (.inl rfl)) (by decide)) (sgs_cons (sg_name (pg_name (i := 5) sc_beings.nd rfl (.inl rfl)) (by decide)) sgs_nil))))) (sb_one (ss_expr (sn_meth PySem.F.plainAttrs_list PySem.F.slot_list_extend PySem.F.type_list_extend mt_extend mt1_extend (sn_var (pv 1)) (sa_cons (sn_lc false (own := [("one", 6)]) rfl sc_beings.nd (si_seq (sn_add false (sn_callTy call_list_of (fn_list (c := false)) rfl T.n_list (by decide +kernel) (sa_cons (sn_var (pv 3)) sa_nil)) (sn_lc false (own := [("servant", 7)]) rfl sc_beings.nd (si_seq (sn_var (pv 4))) (blkOk_by (N := ["plan", "found", "name", "persons", "servants", "things", "one", "servant"]) (sc := defScope s_beings) (by decide +kernel)) (fun _ _ _ _ _ => (sg_name (pg_name (i := 7) sc_beings.nd rfl (.inl rfl)) (by decide))) (fun _ _ _ _ _ => sts_nil) (fun _ _ _ _ _ => (sn_ix (sn_var (pv 7)) sn_int))))) (blkOk_by (N := ["plan", "found", "name", "persons", "servants", "things", "one", "servant"]) (sc := defScope s_beings) (by decide +kernel)) (fun _ _ _ _ _ => (sg_name (pg_name (i := 6) sc_beings.nd rfl (.inl rfl)) (by decide))) (fun _ _ _ _ _ => sts_nil) (fun _ _ _ _ _ => (sn_tup (sa_cons (sn_var (pv 2)) (sa_cons (sn_var (pv 6)) sa_nil))))) sa_nil))))) (sb_one (ss_ret (sn_callTy call_tuple_of fn_tuple rfl T.n_tuple (by decide +kernel) (sa_cons (sn_var (pv 1)) sa_nil))))))
theorem ok_servant_at (T : Tx K mg cl) : FnOk P w K mg base CX0 1 T.a_servant_at T.d_servant_at ["plan", "place"] (spOf ⟨K, cl, w⟩ 2 g_servant_at) := by
  refine fn_def (B := B_servant_at) T.f_servant_at sc_servant_at (fun cdv A outer s H E hr => ?_) (fun ds M _ => ref_run B_servant_at 7 ds M)
  have hu := huE hr
  have hu1 := hu1E hr
  exact (sb_cons (ss_for (sl := [2, 3, 4, 5]) PassesOwn.never rfl (si_seq (sn_ix (sn_var (pv 0)) sn_int)) (sg_tup rfl (sgs_cons (sg_name (pg_name (i := 2) sc_servant_at.nd rfl (.inl rfl)) (by decide)) (sgs_cons (sg_name (pg_name (i := 3) sc_servant_at.nd rfl (.inl rfl)) (by decide)) (sgs_cons (sg_name (pg_name (i := 4) sc_servant_at.nd rfl (.inl rfl)) (by decide)) (sgs_cons (sg_name (pg_name (i := 5) sc_servant_at.nd rfl (.inl rfl)) (by decide)) sgs_nil))))) (sb_one (ss_for (sl := [6]) PassesOwn.never rfl (si_seq (sn_var (pv 4))) (sg_name (pg_name (i := 6) sc_servant_at.nd rfl (.inl rfl)) (by decide)) (sb_one (ss_if (st_cmp (op_eqP hu) op2_eq (nomark _) (sn_tup (sa_cons (sn_var (pv 2)) (sa_cons (sn_ix (sn_var (pv 6)) sn_int) sa_nil))) (sn_var (pv 1))) (sb_one (ss_ret (sn_var (pv 6)))) sb_nil))))) (sb_one (ss_ret sn_non)))
theorem ok_Stone___init__ (T : Tx K mg cl) : FnOk P w K mg base CX0 1 T.a_Stone___init__ T.d_Stone___init__ ["self", "rows"] (spOf ⟨K, cl, w⟩ 2 g_Stone___init__) := by
  refine fn_defV (B := B_Stone___init__) T.f_Stone___init__ sc_Stone___init__ (fun cdv A outer s H E hr => ?_) (fun ds M _ => ref_run B_Stone___init__ 2 ds M)
  have hu := huE hr
  have hu1 := hu1E hr
  exact (sb_cons (ss_fld (c0 := 2) T.cls_Stone T.na_Stone_written (sn_var (pv 0)) (sn_callTy call_list_of (fn_list (c := true)) rfl T.n_list (by decide +kernel) (sa_cons (sn_var (pv 1)) sa_nil))) (sb_one (ss_fld (c0 := 2) T.cls_Stone T.na_Stone_firm (sn_var (pv 0)) (sn_callB call_lenA fn_len rfl T.n_len PySem.boot_len (sa_cons (sn_fld (c0 := 2) T.cls_Stone T.na_Stone_written (sn_var (pv 0))) sa_nil)))))
theorem ok_Stone_write (T : Tx K mg cl) : FnOk P w K mg base CX0 1 T.a_Stone_write T.d_Stone_write ["self", "row"] (spOf ⟨K, cl, w⟩ 2 g_Stone_write) := by
  refine fn_def (B := B_Stone_write) T.f_Stone_write sc_Stone_write (fun cdv A outer s H E hr => ?_) (fun ds M _ => ref_run B_Stone_write 2 ds M)
  have hu := huE hr
  have hu1 := hu1E hr
  exact (sb_one (ss_expr (sn_meth PySem.F.plainAttrs_list PySem.F.slot_list_append PySem.F.type_list_append mt_append mt1_append (sn_fld (c0 := 2) T.cls_Stone T.na_Stone_written (sn_var (pv 0))) (sa_cons (sn_var (pv 1)) sa_nil))))
theorem ok_Stone_settle (T : Tx K mg cl) : FnOk P w K mg base CX0 1 T.a_Stone_settle T.d_Stone_settle ["self"] (spOf ⟨K, cl, w⟩ 1 g_Stone_settle) := by
  refine fn_def (B := B_Stone_settle) T.f_Stone_settle sc_Stone_settle (fun cdv A outer s H E hr => ?_) (fun ds M _ => ref_run B_Stone_settle 1 ds M)
  have hu := huE hr
  have hu1 := hu1E hr
  exact (sb_one (ss_fld (c0 := 2) T.cls_Stone T.na_Stone_firm (sn_var (pv 0)) (sn_callB call_lenA fn_len rfl T.n_len PySem.boot_len (sa_cons (sn_fld (c0 := 2) T.cls_Stone T.na_Stone_written (sn_var (pv 0))) sa_nil))))
theorem ok_Stone_fall (T : Tx K mg cl) : FnOk P w K mg base CX0 1 T.a_Stone_fall T.d_Stone_fall ["self", "kept"] (spOf ⟨K, cl, w⟩ 2 g_Stone_fall) := by
  refine fn_def (B := B_Stone_fall) T.f_Stone_fall sc_Stone_fall (fun cdv A outer s H E hr => ?_) (fun ds M _ => ref_run B_Stone_fall 4 ds M)
  have hu := huE hr
  have hu1 := hu1E hr
  exact (sb_cons (ss_set (i := 2) (sn_callB (call_min2 rfl) fn_2I rfl T.n_min (by decide +kernel) (sa_cons (sn_callB call_lenA fn_len rfl T.n_len PySem.boot_len (sa_cons (sn_fld (c0 := 2) T.cls_Stone T.na_Stone_written (sn_var (pv 0))) sa_nil)) (sa_cons (sn_add false (sn_fld (c0 := 2) T.cls_Stone T.na_Stone_firm (sn_var (pv 0))) (sn_var (pv 1))) sa_nil))) sc_Stone_fall.nd rfl (.inl rfl)) (sb_cons (ss_set (i := 3) (sn_sub (sn_callB call_lenA fn_len rfl T.n_len PySem.boot_len (sa_cons (sn_fld (c0 := 2) T.cls_Stone T.na_Stone_written (sn_var (pv 0))) sa_nil)) (sn_var (pv 2))) sc_Stone_fall.nd rfl (.inl rfl)) (sb_cons (ss_fld (c0 := 2) T.cls_Stone T.na_Stone_written (sn_var (pv 0)) (sn_sl true (sn_fld (c0 := 2) T.cls_Stone T.na_Stone_written (sn_var (pv 0))) sp_none (sp_some (sn_var (pv 2))))) (sb_cons (ss_fld (c0 := 2) T.cls_Stone T.na_Stone_firm (sn_var (pv 0)) (sn_var (pv 2))) (sb_one (ss_ret (sn_var (pv 3))))))))
theorem ok_Stone_rows (T : Tx K mg cl) : FnOk P w K mg base CX0 1 T.a_Stone_rows T.d_Stone_rows ["self"] (spOf ⟨K, cl, w⟩ 1 g_Stone_rows) := by
  refine fn_def (B := B_Stone_rows) T.f_Stone_rows sc_Stone_rows (fun cdv A outer s H E hr => ?_) (fun ds M _ => ref_run B_Stone_rows 1 ds M)
  have hu := huE hr
  have hu1 := hu1E hr
  exact (sb_one (ss_ret (sn_callTy call_tuple_of fn_tuple rfl T.n_tuple (by decide +kernel) (sa_cons (sn_fld (c0 := 2) T.cls_Stone T.na_Stone_written (sn_var (pv 0))) sa_nil))))
theorem ok_Stone_settled (T : Tx K mg cl) : FnOk P w K mg base CX0 1 T.a_Stone_settled T.d_Stone_settled ["self"] (spOf ⟨K, cl, w⟩ 1 g_Stone_settled) := by
  refine fn_def (B := B_Stone_settled) T.f_Stone_settled sc_Stone_settled (fun cdv A outer s H E hr => ?_) (fun ds M _ => ref_run B_Stone_settled 1 ds M)
  have hu := huE hr
  have hu1 := hu1E hr
  exact (sb_one (ss_ret (sn_fld (c0 := 2) T.cls_Stone T.na_Stone_firm (sn_var (pv 0)))))
theorem ok_Kernel_waits (T : Tx K mg cl) : FnOk P w K mg base CX0 1 T.a_Kernel_waits T.d_Kernel_waits ["self"] (spOf ⟨K, cl, w⟩ 1 g_Kernel_waits) := by
  refine fn_def (B := B_Kernel_waits) T.f_Kernel_waits sc_Kernel_waits (fun cdv A outer s H E hr => ?_) (fun ds M _ => ref_run B_Kernel_waits 1 ds M)
  have hu := huE hr
  have hu1 := hu1E hr
  exact (sb_one (ss_ret (sn_callB call_lenA fn_len rfl T.n_len PySem.boot_len (sa_cons (sn_fld (c0 := 3) T.cls_Kernel T.na_Kernel_letters (sn_var (pv 0))) sa_nil))))
theorem ok_Kernel_say (T : Tx K mg cl) : FnOk P w K mg base CX0 1 T.a_Kernel_say T.d_Kernel_say ["self", "house", "what"] (spOf ⟨K, cl, w⟩ 3 g_Kernel_say) := by
  refine fn_def (B := B_Kernel_say) T.f_Kernel_say sc_Kernel_say (fun cdv A outer s H E hr => ?_) (fun ds M _ => ref_run B_Kernel_say 3 ds M)
  have hu := huE hr
  have hu1 := hu1E hr
  exact (sb_one (ss_expr (sn_meth PySem.F.plainAttrs_list PySem.F.slot_list_append PySem.F.type_list_append mt_append mt1_append (sn_fld (c0 := 3) T.cls_Kernel T.na_Kernel_letters (sn_var (pv 0))) (sa_cons (sn_tup (sa_cons (sn_fld (c0 := 3) T.cls_Kernel T.na_Kernel_house (sn_var (pv 0))) (sa_cons (sn_var (pv 1)) (sa_cons (sn_var (pv 2)) sa_nil)))) sa_nil))))
theorem ok_law_cell (T : Tx K mg cl) : FnOk P w K mg base CX0 1 T.a_law_cell T.d_law_cell ["_law_script", "_law_k"] (spOf ⟨K, cl, w⟩ 2 g_law_cell) := by
  refine fn_def (B := B_law_cell) T.f_law_cell sc_law_cell (fun cdv A outer s H E hr => ?_) (fun ds M _ => ref_run B_law_cell 3 ds M)
  have hu := huE hr
  have hu1 := hu1E hr
  exact (sb_cons (ss_if (st_cmp (op_lt.or op_lt_str) op2_ord (nomark _) (sn_var (pv 1)) (sn_callB call_lenA fn_len rfl T.n_len PySem.boot_len (sa_cons (sn_var (pv 0)) sa_nil))) (sb_one (ss_ret (sn_ix (sn_var (pv 0)) (sn_var (pv 1))))) sb_nil) (sb_cons (ss_set (i := 2) (sn_add false (sn_mul false (sn_var (pv 1)) sn_int) sn_int) sc_law_cell.nd rfl (.inl rfl)) (sb_cons (ss_if (st_cmp (op_gt.or op_gt_str) op2_ord (nomark _) (sn_callB call_lenA fn_len rfl T.n_len PySem.boot_len (sa_cons (sn_var (pv 0)) sa_nil)) sn_int) (sb_one (ss_set (i := 2) (sn_add false (sn_mul false (sn_mod (sn_ix (sn_var (pv 0)) (sn_mod (sn_mul false (sn_var (pv 1)) sn_int) (sn_callB call_lenA fn_len rfl T.n_len PySem.boot_len (sa_cons (sn_var (pv 0)) sa_nil)))) sn_int) sn_int) (sn_mul false (sn_var (pv 1)) sn_int)) sc_law_cell.nd rfl (.inl rfl))) sb_nil) (sb_one (ss_ret (sn_mul false (sn_mod (sn_var (pv 2)) sn_int) sn_int))))))
theorem ok_law_draw (T : Tx K mg cl) : FnOk P w K mg base CX0 1 T.a_law_draw T.d_law_draw ["_law_flow_here", "_law_many"] (spOf ⟨K, cl, w⟩ 2 g_law_draw) := by
  refine fn_def (B := B_law_draw) T.f_law_draw sc_law_draw (fun cdv A outer s H E hr => ?_) (fun ds M _ => ref_run B_law_draw 3 ds M)
  have hu := huE hr
  have hu1 := hu1E hr
  exact (sb_cons (ss_if (st_cmp (op_gt.or op_gt_str) op2_ord (nomark _) (sn_ix (sn_var (pv 0)) sn_int) sn_int) (sb_cons (ss_set (i := 2) (sn_mod (sn_ix (sn_var (pv 0)) sn_int) (sn_var (pv 1))) sc_law_draw.nd rfl (.inl rfl)) (sb_cons (ss_asg (sl := []) (sn_div (sn_ix (sn_var (pv 0)) sn_int) (sn_var (pv 1))) (sg_ix (sn_var (pv 0)) sn_int)) (sb_one (ss_ret (sn_var (pv 2)))))) sb_nil) (sb_cons (ss_asg (sl := []) (sn_add false (sn_ix (sn_var (pv 0)) sn_int) sn_int) (sg_ix (sn_var (pv 0)) sn_int)) (sb_cons (ss_asg (sl := []) (sn_mod (sn_add false (sn_add false (sn_mul false (sn_ix (sn_var (pv 0)) sn_int) sn_int) sn_int) (sn_ix (sn_var (pv 0)) sn_int)) sn_int) (sg_ix (sn_var (pv 0)) sn_int)) (sb_one (ss_ret (sn_mod (sn_div (sn_ix (sn_var (pv 0)) sn_int) sn_int) (sn_var (pv 1))))))))
theorem ok_law_letter (T : Tx K mg cl) : FnOk P w K mg base CX0 1 T.a_law_letter T.d_law_letter ["_law_house", "_law_count", "_law_what", "_law_opened"] (spOf ⟨K, cl, w⟩ 4 g_law_letter) := by
  refine fn_def (B := B_law_letter) T.f_law_letter sc_law_letter (fun cdv A outer s H E hr => ?_) (fun ds M _ => ref_run B_law_letter 13 ds M)
  have hu := huE hr
  have hu1 := hu1E hr
  exact (sb_cons (ss_par (i := 4) (j := 5) rfl sc_law_letter.nd rfl rfl (by decide) rfl rfl (sa_cons (sn_tup (sa_cons (sn_var (pv 0)) (sa_cons (sn_var (pv 1)) sa_nil))) (sa_cons (sn_ix (sn_var (pv 2)) sn_int) sa_nil)) (by rfl)) (sb_cons (ss_if (st_cmp (op_eqP hu) op2_eq (nomark _) (sn_ix (sn_var (pv 2)) sn_int) (sn_strL (by decide +kernel))) (sb_one (ss_ret (sn_tup (sa_cons (sn_var (pv 0)) (sa_cons (sn_ix (sn_var (pv 2)) sn_int) (sa_cons (sn_tup (sa_cons (sn_strL (by decide +kernel)) (sa_cons (sn_var (pv 4)) (sa_cons (sn_var (pv 5)) (sa_cons (sn_ix (sn_var (pv 2)) sn_int) (sa_cons (sn_ix (sn_var (pv 2)) sn_int) sa_nil)))))) sa_nil)))))) sb_nil) (sb_cons (ss_if (st_cmp (op_eqP hu) op2_eq (nomark _) (sn_ix (sn_var (pv 2)) sn_int) (sn_strL (by decide +kernel))) (sb_one (ss_ret (sn_tup (sa_cons (sn_var (pv 0)) (sa_cons (sn_ix (sn_ix (sn_var (pv 2)) sn_int) sn_int) (sa_cons (sn_add false (sn_tup (sa_cons (sn_strL (by decide +kernel)) (sa_cons (sn_var (pv 4)) (sa_cons (sn_var (pv 5)) sa_nil)))) (sn_sl false (sn_var (pv 2)) (sp_some sn_int) sp_none)) sa_nil)))))) sb_nil) (sb_cons (ss_asg (sl := [6, 5, 7, 8, 9, 10, 11, 12]) (sn_var (pv 2)) (sg_tup rfl (sgs_cons (sg_name (pg_name (i := 6) sc_law_letter.nd rfl (.inl rfl)) (by decide)) (sgs_cons (sg_name (pg_name (i := 5) sc_law_letter.nd rfl (.inl rfl)) (by decide)) (sgs_cons (sg_name (pg_name (i := 7) sc_law_letter.nd rfl (.inl rfl)) (by decide)) (sgs_cons (sg_name (pg_name (i := 8) sc_law_letter.nd rfl (.inl rfl)) (by decide)) (sgs_cons (sg_name (pg_name (i := 9) sc_law_letter.nd rfl (.inl rfl)) (by decide)) (sgs_cons (sg_name (pg_name (i := 10) sc_law_letter.nd rfl (.inl rfl)) (by decide)) (sgs_cons (sg_name (pg_name (i := 11) sc_law_letter.nd rfl (.inl rfl)) (by decide)) (sgs_cons (sg_name (pg_name (i := 12) sc_law_letter.nd rfl (.inl rfl)) (by decide)) sgs_nil)))))))))) (sb_cons (ss_if (st_truth (sn_var (pv 3))) (sb_one (ss_ret (sn_tup (sa_cons (sn_var (pv 0)) (sa_cons (sn_var (pv 7)) (sa_cons (sn_tup (sa_cons (sn_strL (by decide +kernel)) (sa_cons (sn_var (pv 4)) (sa_cons (sn_var (pv 5)) (sa_cons (sn_var (pv 8)) (sa_cons (sn_var (pv 9)) (sa_cons (sn_var (pv 10)) (sa_cons (sn_var (pv 12)) sa_nil)))))))) sa_nil)))))) sb_nil) (sb_one (ss_ret (sn_tup (sa_cons (sn_var (pv 0)) (sa_cons (sn_ix (sn_var (pv 12)) sn_int) (sa_cons (sn_tup (sa_cons (sn_strL (by decide +kernel)) (sa_cons (sn_var (pv 4)) (sa_cons (sn_var (pv 5)) (sa_cons (sn_var (pv 11)) (sa_cons (sn_var (pv 12)) sa_nil)))))) sa_nil)))))))))))
theorem ok_Table_put (T : Tx K mg cl) : FnOk P w K mg base CX0 2 T.a_Table_put T.d_Table_put ["self", "house", "number"] (spOf ⟨K, cl, w⟩ 3 g_Table_put) := by
  refine fn_def (B := B_Table_put) T.f_Table_put sc_Table_put (fun cdv A outer s H E hr => ?_) (fun ds M _ => ref_run B_Table_put 6 ds M)
  have hu := huE hr
  have hu1 := hu1E hr
  exact (sb_cons (ss_set (i := 3) (sn_tup (sa_cons (sn_var (pv 1)) (sa_cons (sn_var (pv 2)) sa_nil))) sc_Table_put.nd rfl (.inl rfl)) (sb_cons (ss_if (st_cmp (op_inA hu) op2_inA rfl (sn_var (pv 3)) (sn_fld (c0 := 0) T.cls_Table T.na_Table_known (sn_var (pv 0)))) (sb_one (ss_ret sn_non)) sb_nil) (sb_cons (ss_asg (sl := []) sn_bl (sg_ixA hu (sn_fld (c0 := 0) T.cls_Table T.na_Table_known (sn_var (pv 0))) (sn_var (pv 3)))) (sb_cons (ss_set (i := 4) (sn_mth0 (c0 := 0) (sn_var (pv 0)) T.cls_Table T.me_Table_free_place (ok_Table_free_place T) (hr.mono (by decide)) T.b_Table_free_place .nil closedK_nil passA) sc_Table_put.nd rfl (.inl rfl)) (sb_cons (ss_if (st_cmp (op_eqP hu) op2_eq (nomark _) (sn_var (pv 4)) (sn_callB call_lenAA fn_lenA rfl T.n_len PySem.boot_len (sa_cons (sn_fld (c0 := 0) T.cls_Table T.na_Table_used (sn_var (pv 0))) sa_nil))) (sb_one (ss_expr (sn_meth PySem.F.plainAttrs_list PySem.F.slot_list_append PySem.F.type_list_append mt_append mt1_append (sn_fld (c0 := 0) T.cls_Table T.na_Table_used (sn_var (pv 0))) (sa_cons sn_int sa_nil)))) sb_nil) (sb_cons (ss_set (i := 5) (sn_ixA hu (sn_fld (c0 := 0) T.cls_Table T.na_Table_used (sn_var (pv 0))) (sn_var (pv 4))) sc_Table_put.nd rfl (.inl rfl)) (sb_cons (ss_augIx ip2_add ip_add hu (sn_fld (c0 := 0) T.cls_Table T.na_Table_used (sn_var (pv 0))) (sn_var (pv 4)) sn_int) (sb_cons (ss_asg (sl := []) (sn_tup (sa_cons (sn_var (pv 5)) (sa_cons (sn_var (pv 3)) sa_nil))) (sg_ixA hu (sn_fld (c0 := 0) T.cls_Table T.na_Table_there (sn_var (pv 0))) (sn_var (pv 4)))) (sb_one (ss_ret (sn_tup (sa_cons (sn_var (pv 4)) (sa_cons (sn_var (pv 5)) sa_nil)))))))))))))
theorem ok_Table_drop (T : Tx K mg cl) : FnOk P w K mg base CX0 2 T.a_Table_drop T.d_Table_drop ["self", "handle"] (spOf ⟨K, cl, w⟩ 2 g_Table_drop) := by
  refine fn_def (B := B_Table_drop) T.f_Table_drop sc_Table_drop (fun cdv A outer s H E hr => ?_) (fun ds M _ => ref_run B_Table_drop 2 ds M)
  have hu := huE hr
  have hu1 := hu1E hr
  exact (sb_cons (ss_if (st_isN (sn_mth (c0 := 0) (sn_var (pv 0)) T.cls_Table T.me_Table_leads (ok_Table_leads T) (hr.mono (by decide)) T.b_Table_leads .nil closedK_nil passA (sa_cons (sn_var (pv 1)) sa_nil))) (sb_one (ss_ret sn_bl)) sb_nil) (sb_cons (ss_expr (sn_meth PySem.F.plainAttrs_dict PySem.F.slot_dict_pop PySem.F.type_dict_pop (mt_popE hu) mt1_popE (sn_fld (c0 := 0) T.cls_Table T.na_Table_there (sn_var (pv 0))) (sa_cons (sn_ixA hu (sn_var (pv 1)) sn_int) sa_nil))) (sb_one (ss_ret sn_bl))))
theorem ok_first_rows (T : Tx K mg cl) : FnOk P w K mg base CX0 2 T.a_first_rows T.d_first_rows ["plan", "house"] (spOf ⟨K, cl, w⟩ 2 g_first_rows) := by
  refine fn_def (B := B_first_rows) T.f_first_rows sc_first_rows (fun cdv A outer s H E hr => ?_) (fun ds M _ => ref_gc B_first_rows 12 ds M)
  have hu := huE hr
  have hu1 := hu1E hr
  exact (sb_cons (ss_set (i := 2) (sn_call (ok_root_numbers T) (hr.mono (by decide)) rfl T.m_root_numbers T.f_root_numbers.kp T.b_root_numbers .nil closed_nil passA (sa_cons (sn_var (pv 0)) sa_nil)) sc_first_rows.nd rfl (.inl rfl)) (sb_cons (ss_par (i := 3) (j := 4) rfl sc_first_rows.nd rfl rfl (by decide) rfl rfl (sa_cons (sn_lst true sa_nil) (sa_cons (sn_lst true sa_nil) sa_nil)) (by rfl)) (sb_cons (ss_for (sl := [5, 6, 7, 8, 9, 10]) PassesOwn.never rfl (si_enumX rfl T.n_enumerate (sn_ix (sn_var (pv 0)) sn_int)) (sg_tup rfl (sgs_cons (sg_name (pg_name (i := 5) sc_first_rows.nd rfl (.inl rfl)) (by decide)) (sgs_cons (sg_tup rfl (sgs_cons (sg_name (pg_name (i := 6) sc_first_rows.nd rfl (.inl rfl)) (by decide)) (sgs_cons (sg_name (pg_name (i := 7) sc_first_rows.nd rfl (.inl rfl)) (by decide)) (sgs_cons (sg_name (pg_name (i := 8) sc_first_rows.nd rfl (.inl rfl)) (by decide)) (sgs_cons (sg_name (pg_name (i := 9) sc_first_rows.nd rfl (.inl rfl)) (by decide)) (sgs_cons (sg_name (pg_name (i := 10) sc_first_rows.nd rfl (.inl rfl)) (by decide)) sgs_nil)))))) sgs_nil))) (sb_cons (ss_set (i := 11) (sn_if (st_isN (sn_var (pv 10))) sn_non (sn_ix (sn_var (pv 2)) (sn_var (pv 10)))) sc_first_rows.nd rfl (.inl rfl)) (sb_cons (ss_if (st_cmp (op_eqP hu) op2_eq (nomark _) (sn_ix (sn_var (pv 6)) sn_int) (sn_var (pv 1))) (sb_one (ss_expr (sn_meth PySem.F.plainAttrs_list PySem.F.slot_list_append PySem.F.type_list_append mt_append mt1_append (sn_var (pv 3)) (sa_cons (sn_tup (sa_cons (sn_strL (by decide +kernel)) (sa_cons sn_int (sa_cons (sn_ix (sn_var (pv 2)) (sn_var (pv 5))) (sa_cons (sn_var (pv 6)) (sa_cons (sn_var (pv 7)) (sa_cons (sn_var (pv 8)) (sa_cons (sn_var (pv 9)) (sa_cons (sn_var (pv 11)) sa_nil))))))))) sa_nil)))) sb_nil) (sb_one (ss_if (st_cmp (op_eqP hu) op2_eq (nomark _) (sn_ix (sn_var (pv 9)) sn_int) (sn_var (pv 1))) (sb_one (ss_expr (sn_meth PySem.F.plainAttrs_list PySem.F.slot_list_append PySem.F.type_list_append mt_append mt1_append (sn_var (pv 4)) (sa_cons (sn_tup (sa_cons (sn_strL (by decide +kernel)) (sa_cons sn_int (sa_cons (sn_var (pv 9)) (sa_cons (sn_ix (sn_var (pv 6)) sn_int) (sa_cons (sn_ix (sn_var (pv 2)) (sn_var (pv 5))) (sa_cons (sn_var (pv 6)) (sa_cons (sn_var (pv 7)) (sa_cons (sn_var (pv 8)) (sa_cons sn_non sa_nil)))))))))) sa_nil)))) sb_nil))))) (sb_one (ss_ret (sn_add false (sn_var (pv 3)) (sn_var (pv 4))))))))
theorem ok_Kernel_rows (T : Tx K mg cl) : FnOk P w K mg base CX0 2 T.a_Kernel_rows T.d_Kernel_rows ["self"] (spOf ⟨K, cl, w⟩ 1 g_Kernel_rows) := by
  refine fn_def (B := B_Kernel_rows) T.f_Kernel_rows sc_Kernel_rows (fun cdv A outer s H E hr => ?_) (fun ds M _ => ref_run B_Kernel_rows 1 ds M)
  have hu := huE hr
  have hu1 := hu1E hr
  exact (sb_one (ss_ret (sn_mth0 (c0 := 2) (sn_fld (c0 := 3) T.cls_Kernel T.na_Kernel_stone (sn_var (pv 0))) T.cls_Stone T.me_Stone_rows (ok_Stone_rows T) (hr.mono (by decide)) T.b_Stone_rows .nil closedK_nil passA)))
theorem ok_Kernel_settled (T : Tx K mg cl) : FnOk P w K mg base CX0 2 T.a_Kernel_settled T.d_Kernel_settled ["self"] (spOf ⟨K, cl, w⟩ 1 g_Kernel_settled) := by
  refine fn_def (B := B_Kernel_settled) T.f_Kernel_settled sc_Kernel_settled (fun cdv A outer s H E hr => ?_) (fun ds M _ => ref_run B_Kernel_settled 1 ds M)
  have hu := huE hr
  have hu1 := hu1E hr
  exact (sb_one (ss_ret (sn_mth0 (c0 := 2) (sn_fld (c0 := 3) T.cls_Kernel T.na_Kernel_stone (sn_var (pv 0))) T.cls_Stone T.me_Stone_settled (ok_Stone_settled T) (hr.mono (by decide)) T.b_Stone_settled .nil closedK_nil passA)))
theorem ok_Kernel_fall (T : Tx K mg cl) : FnOk P w K mg base CX0 2 T.a_Kernel_fall T.d_Kernel_fall ["self", "kept"] (spOf ⟨K, cl, w⟩ 2 g_Kernel_fall) := by
  refine fn_def (B := B_Kernel_fall) T.f_Kernel_fall sc_Kernel_fall (fun cdv A outer s H E hr => ?_) (fun ds M _ => ref_run B_Kernel_fall 2 ds M)
  have hu := huE hr
  have hu1 := hu1E hr
  exact (sb_cons (ss_asg (sl := [0, 0, 0]) (sn_tup (sa_cons (sn_lst true sa_nil) (sa_cons sn_dnewT (sa_cons sn_dnewK sa_nil)))) (sg_tup rfl (sgs_cons (sg_fld (c0 := 3) T.cls_Kernel T.na_Kernel_letters (sn_var (pv 0))) (sgs_cons (sg_fld (c0 := 3) T.cls_Kernel T.na_Kernel_kept (sn_var (pv 0))) (sgs_cons (sg_fld (c0 := 3) T.cls_Kernel T.na_Kernel_opened (sn_var (pv 0))) sgs_nil))))) (sb_one (ss_ret (sn_mth (c0 := 2) (sn_fld (c0 := 3) T.cls_Kernel T.na_Kernel_stone (sn_var (pv 0))) T.cls_Stone T.me_Stone_fall (ok_Stone_fall T) (hr.mono (by decide)) T.b_Stone_fall .nil closedK_nil passA (sa_cons (sn_var (pv 1)) sa_nil)))))
theorem ok_Kernel_wrote (T : Tx K mg cl) : FnOk P w K mg base CX0 2 T.a_Kernel_wrote T.d_Kernel_wrote ["self", "row"] (spOf ⟨K, cl, w⟩ 2 g_Kernel_wrote) := by
  refine fn_def (B := B_Kernel_wrote) T.f_Kernel_wrote sc_Kernel_wrote (fun cdv A outer s H E hr => ?_) (fun ds M _ => ref_run B_Kernel_wrote 2 ds M)
  have hu := huE hr
  have hu1 := hu1E hr
  exact (sb_cons (ss_expr (sn_mth (c0 := 2) (sn_fld (c0 := 3) T.cls_Kernel T.na_Kernel_stone (sn_var (pv 0))) T.cls_Stone T.me_Stone_write (ok_Stone_write T) (hr.mono (by decide)) T.b_Stone_write .nil closedK_nil passA (sa_cons (sn_var (pv 1)) sa_nil))) (sb_one (ss_expr (sn_mth0 (c0 := 2) (sn_fld (c0 := 3) T.cls_Kernel T.na_Kernel_stone (sn_var (pv 0))) T.cls_Stone T.me_Stone_settle (ok_Stone_settle T) (hr.mono (by decide)) T.b_Stone_settle .nil closedK_nil passA))))
theorem ok_Kernel_write_ask (T : Tx K mg cl) : FnOk P w K mg base CX0 2 T.a_Kernel_write_ask T.d_Kernel_write_ask ["self", "count", "what"] (spOf ⟨K, cl, w⟩ 3 g_Kernel_write_ask) := by
  refine fn_def (B := B_Kernel_write_ask) T.f_Kernel_write_ask sc_Kernel_write_ask (fun cdv A outer s H E hr => ?_) (fun ds M _ => ref_run B_Kernel_write_ask 17 ds M)
  have hu := huE hr
  have hu1 := hu1E hr
  exact (sb_cons (ss_asg (sl := [3, 4, 5]) (sn_var (pv 2)) (sg_star (i := 2) rfl (sgs_cons (sg_name (pg_name (i := 3) sc_Kernel_write_ask.nd rfl (.inl rfl)) (by decide)) (sgs_cons (sg_name (pg_name (i := 4) sc_Kernel_write_ask.nd rfl (.inl rfl)) (by decide)) (sgs_star (sg_name (pg_name (i := 5) sc_Kernel_write_ask.nd rfl (.inl rfl)) (by decide)) sgs_nil))) (by decide))) (sb_cons (ss_set (i := 6) (sn_tup (sa_cons (sn_fld (c0 := 3) T.cls_Kernel T.na_Kernel_house (sn_var (pv 0))) (sa_cons (sn_var (pv 1)) sa_nil))) sc_Kernel_write_ask.nd rfl (.inl rfl)) (sb_one (ss_if (st_cmp (op_eqP hu) op2_eq (nomark _) (sn_var (pv 3)) (sn_strL (by decide +kernel))) (sb_cons (ss_asg (sl := [7, 8, 9]) (sn_var (pv 5)) (sg_tupB rfl (sgs_cons (sg_name (pg_name (i := 7) sc_Kernel_write_ask.nd rfl (.inl rfl)) (by decide)) (sgs_cons (sg_name (pg_name (i := 8) sc_Kernel_write_ask.nd rfl (.inl rfl)) (by decide)) (sgs_cons (sg_name (pg_name (i := 9) sc_Kernel_write_ask.nd rfl (.inl rfl)) (by decide)) sgs_nil))))) (sb_one (ss_expr (sn_mth (c0 := 3) (sn_var (pv 0)) T.cls_Kernel T.me_Kernel_say (ok_Kernel_say T) (hr.mono (by decide)) T.b_Kernel_say .nil closedK_nil passA (sa_cons (sn_var (pv 7)) (sa_cons (sn_tup (sa_cons (sn_strL (by decide +kernel)) (sa_cons (sn_var (pv 6)) (sa_cons (sn_var (pv 4)) (sa_cons (sn_var (pv 8)) (sa_cons (sn_var (pv 9)) sa_nil)))))) sa_nil)))))) (sb_one (ss_if (st_cmp (op_eqP hu) op2_eq (nomark _) (sn_var (pv 3)) (sn_strL (by decide +kernel))) (sb_cons (ss_asg (sl := [10, 11, 12, 13]) (sn_var (pv 5)) (sg_tupB rfl (sgs_cons (sg_name (pg_name (i := 10) sc_Kernel_write_ask.nd rfl (.inl rfl)) (by decide)) (sgs_cons (sg_name (pg_name (i := 11) sc_Kernel_write_ask.nd rfl (.inl rfl)) (by decide)) (sgs_cons (sg_name (pg_name (i := 12) sc_Kernel_write_ask.nd rfl (.inl rfl)) (by decide)) (sgs_cons (sg_name (pg_name (i := 13) sc_Kernel_write_ask.nd rfl (.inl rfl)) (by decide)) sgs_nil)))))) (sb_one (ss_expr (sn_mth (c0 := 3) (sn_var (pv 0)) T.cls_Kernel T.me_Kernel_say (ok_Kernel_say T) (hr.mono (by decide)) T.b_Kernel_say .nil closedK_nil passA (sa_cons (sn_ixA hu (sn_var (pv 11)) sn_int) (sa_cons (sn_tup (sa_cons (sn_strL (by decide +kernel)) (sa_cons (sn_var (pv 6)) (sa_cons (sn_var (pv 4)) (sa_cons (sn_var (pv 10)) (sa_cons (sn_var (pv 11)) (sa_cons (sn_var (pv 12)) (sa_cons (sn_var (pv 13)) sa_nil)))))))) sa_nil)))))) (sb_cons (ss_asg (sl := [7, 9, 14, 15, 10, 16]) (sn_var (pv 5)) (sg_tupB rfl (sgs_cons (sg_name (pg_name (i := 7) sc_Kernel_write_ask.nd rfl (.inl rfl)) (by decide)) (sgs_cons (sg_name (pg_name (i := 9) sc_Kernel_write_ask.nd rfl (.inl rfl)) (by decide)) (sgs_cons (sg_name (pg_name (i := 14) sc_Kernel_write_ask.nd rfl (.inl rfl)) (by decide)) (sgs_cons (sg_name (pg_name (i := 15) sc_Kernel_write_ask.nd rfl (.inl rfl)) (by decide)) (sgs_cons (sg_name (pg_name (i := 10) sc_Kernel_write_ask.nd rfl (.inl rfl)) (by decide)) (sgs_cons (sg_name (pg_name (i := 16) sc_Kernel_write_ask.nd rfl (.inl rfl)) (by decide)) sgs_nil)))))))) (sb_one (ss_if (st_cmp (op_inA hu) op2_inA rfl (sn_var (pv 1)) (sn_fld (c0 := 3) T.cls_Kernel T.na_Kernel_opened (sn_var (pv 0)))) (sb_one (ss_expr (sn_mth (c0 := 3) (sn_var (pv 0)) T.cls_Kernel T.me_Kernel_say (ok_Kernel_say T) (hr.mono (by decide)) T.b_Kernel_say .nil closedK_nil passA (sa_cons (sn_var (pv 7)) (sa_cons (sn_tup (sa_cons (sn_strL (by decide +kernel)) (sa_cons (sn_var (pv 6)) (sa_cons (sn_var (pv 4)) (sa_cons (sn_var (pv 9)) (sa_cons (sn_var (pv 14)) (sa_cons (sn_var (pv 15)) (sa_cons (sn_var (pv 16)) sa_nil)))))))) sa_nil))))) (sb_one (ss_expr (sn_mth (c0 := 3) (sn_var (pv 0)) T.cls_Kernel T.me_Kernel_say (ok_Kernel_say T) (hr.mono (by decide)) T.b_Kernel_say .nil closedK_nil passA (sa_cons (sn_ixA hu (sn_var (pv 16)) sn_int) (sa_cons (sn_tup (sa_cons (sn_strL (by decide +kernel)) (sa_cons (sn_var (pv 6)) (sa_cons (sn_var (pv 4)) (sa_cons (sn_var (pv 10)) (sa_cons (sn_var (pv 16)) sa_nil)))))) sa_nil))))))))))))))
theorem ok_Kernel_take_said (T : Tx K mg cl) : FnOk P w K mg base CX0 2 T.a_Kernel_take_said T.d_Kernel_take_said ["self", "sender", "what", "tick"] (spOf ⟨K, cl, w⟩ 4 g_Kernel_take_said) := by
  refine fn_def (B := B_Kernel_take_said) T.f_Kernel_take_said sc_Kernel_take_said (fun cdv A outer s H E hr => ?_) (fun ds M _ => ref_run B_Kernel_take_said 12 ds M)
  have hu := huE hr
  have hu1 := hu1E hr
  exact (sb_cons (ss_asg (sl := [4, 5, 6, 7]) (sn_var (pv 2)) (sg_star (i := 2) rfl (sgs_cons (sg_name (pg_name (i := 4) sc_Kernel_take_said.nd rfl (.inl rfl)) (by decide)) (sgs_cons (sg_tup rfl (sgs_cons (sg_name (pg_name (i := 5) sc_Kernel_take_said.nd rfl (.inl rfl)) (by decide)) (sgs_cons (sg_name (pg_name (i := 6) sc_Kernel_take_said.nd rfl (.inl rfl)) (by decide)) sgs_nil))) (sgs_star (sg_name (pg_name (i := 7) sc_Kernel_take_said.nd rfl (.inl rfl)) (by decide)) sgs_nil))) (by decide))) (sb_cons (ss_set (i := 8) (sn_mth0 (c0 := 2) (sn_fld (c0 := 3) T.cls_Kernel T.na_Kernel_stone (sn_var (pv 0))) T.cls_Stone T.me_Stone_rows (ok_Stone_rows T) (hr.mono (by decide)) T.b_Stone_rows .nil closedK_nil passA) sc_Kernel_take_said.nd rfl (.inl rfl)) (sb_cons (ss_set (i := 9) (sn_call (ok_asks T) (hr.mono (by decide)) rfl T.m_asks T.f_asks.kp T.b_asks .nil closed_nil passA (sa_cons (sn_var (pv 8)) sa_nil)) sc_Kernel_take_said.nd rfl (.inl rfl)) (sb_cons (ss_if (PW.pt (sw_or (st_cmp (op_notInA hu) op2_notInA rfl (sn_var (pv 6)) (sn_var (pv 9))) (sw_or1 (st_notN (sn_ixA hu (sn_ixA hu (sn_var (pv 9)) (sn_var (pv 6))) sn_int))))) (sb_one ss_retN) sb_nil) (sb_cons (ss_if (st_cmp (op_eqP hu) op2_eq (nomark _) (sn_var (pv 4)) (sn_strL (by decide +kernel))) (sb_cons (ss_asg (sl := []) (sn_meth PySem.F.plainAttrs_dict PySem.F.slot_dict_get PySem.F.type_dict_get (mt_dget hu) mt1_dget (sn_fld (c0 := 3) T.cls_Kernel T.na_Kernel_opened (sn_var (pv 0))) (sa_cons (sn_var (pv 6)) (sa_cons (sn_var (pv 3)) sa_nil))) (sg_ixA hu (sn_fld (c0 := 3) T.cls_Kernel T.na_Kernel_opened (sn_var (pv 0))) (sn_var (pv 6)))) (sb_one ss_retN)) sb_nil) (sb_cons ss_dead (sb_cons ss_dead (sb_one ss_dead))))))))
theorem ok_law_flow (T : Tx K mg cl) : FnOk P w K mg base CX0 2 T.a_law_flow T.d_law_flow ["_law_script", "_law_k"] (spOf ⟨K, cl, w⟩ 2 g_law_flow) := by
  refine fn_def (B := B_law_flow) T.f_law_flow sc_law_flow (fun cdv A outer s H E hr => ?_) (fun ds M _ => ref_run B_law_flow 3 ds M)
  have hu := huE hr
  have hu1 := hu1E hr
  exact (sb_cons (ss_set (i := 2) (sn_callB call_abs fn_abs rfl T.n_abs (by decide +kernel) (sa_cons (sn_call (ok_law_cell T) (hr.mono (by decide)) rfl T.m_law_cell T.f_law_cell.kp T.b_law_cell .nil closed_nil passA (sa_cons (sn_var (pv 0)) (sa_cons (sn_var (pv 1)) sa_nil))) sa_nil)) sc_law_flow.nd rfl (.inl rfl)) (sb_one (ss_ret (sn_lst true (sa_cons (sn_mul false (sn_var (pv 2)) (sn_callTy call_int1 fn_int rfl T.n_int (by decide +kernel) (sa_cons (sn_ge (sn_var (pv 2)) (sn_pow sn_int sn_int)) sa_nil))) (sa_cons sn_int (sa_cons (sn_add false (sn_mod (sn_var (pv 2)) sn_int) (sn_mul false sn_int (sn_var (pv 1)))) sa_nil)))))))
theorem ok_law_names (T : Tx K mg cl) : FnOk P w K mg base CX0 2 T.a_law_names T.d_law_names ["_law_flow_here", "_law_many"] (spOf ⟨K, cl, w⟩ 2 g_law_names) := by
  refine fn_def (B := B_law_names) T.f_law_names sc_law_names (fun cdv A outer s H E hr => ?_) (fun ds M _ => ref_gc B_law_names 11 ds M)
  have hu := huE hr
  have hu1 := hu1E hr
  exact (sb_cons (ss_set (i := 2) (sn_strL (by decide +kernel)) sc_law_names.nd rfl (.inr rfl)) (sb_cons (ss_set (i := 3) (sn_meth PySem.F.plainAttrs_str PySem.F.slot_str_join PySem.F.type_str_join mt_join mt1_join (sn_strL (by decide +kernel)) (sa_cons (sn_lc false (own := [("_law_j", 4)]) rfl sc_law_names.nd (si_range1 rfl T.n_range (sa_cons (sn_call (ok_law_draw T) (hr.mono (by decide)) rfl T.m_law_draw T.f_law_draw.kp T.b_law_draw .nil closed_nil passA (sa_cons (sn_var (pv 0)) (sa_cons sn_int sa_nil))) sa_nil)) (blkOk_by (N := ["_law_flow_here", "_law_many", "_law_some", "_law_word", "_law_j", "_law_at", "_law_first", "_law_longer", "_law_found", "_law_k", "_law_name"]) (sc := defScope s_law_names) (by decide +kernel)) (fun _ _ _ _ _ => (sg_name (pg_name (i := 4) sc_law_names.nd rfl (.inl rfl)) (by decide))) (fun _ _ _ _ _ => sts_nil) (fun _ _ _ _ _ => (sn_ix (sn_var (pv 2)) (sn_call (ok_law_draw T) (hr.mono (by decide)) rfl T.m_law_draw T.f_law_draw.kp T.b_law_draw .nil closed_nil passA (sa_cons (sn_var (pv 0)) (sa_cons sn_int sa_nil)))))) sa_nil)) sc_law_names.nd rfl (.inl rfl)) (sb_cons (ss_par3 (i := 5) (j := 6) (l := 7) rfl sc_law_names.nd rfl rfl rfl (by decide) (by decide) (by decide) rfl rfl rfl (sa_cons (sn_call (ok_law_draw T) (hr.mono (by decide)) rfl T.m_law_draw T.f_law_draw.kp T.b_law_draw .nil closed_nil passA (sa_cons (sn_var (pv 0)) (sa_cons (sn_add false (sn_callB call_lenA fn_len rfl T.n_len PySem.boot_len (sa_cons (sn_var (pv 3)) sa_nil)) sn_int) sa_nil))) (sa_cons (sn_call (ok_law_draw T) (hr.mono (by decide)) rfl T.m_law_draw T.f_law_draw.kp T.b_law_draw .nil closed_nil passA (sa_cons (sn_var (pv 0)) (sa_cons sn_int sa_nil))) (sa_cons (sn_call (ok_law_draw T) (hr.mono (by decide)) rfl T.m_law_draw T.f_law_draw.kp T.b_law_draw .nil closed_nil passA (sa_cons (sn_var (pv 0)) (sa_cons sn_int sa_nil))) sa_nil))) (by rfl)) (sb_cons (ss_set (i := 8) (sn_lst true sa_nil) sc_law_names.nd rfl (.inl rfl)) (sb_cons (ss_for (sl := [9]) PassesOwn.never rfl (si_range1 rfl T.n_range (sa_cons (sn_var (pv 1)) sa_nil)) (sg_name (pg_name (i := 9) sc_law_names.nd rfl (.inl rfl)) (by decide)) (sb_cons (ss_set (i := 10) (sn_add false (sn_add false (sn_sl false (sn_var (pv 3)) sp_none (sp_some (sn_var (pv 5)))) (sn_ix (sn_var (pv 2)) (sn_mod (sn_add false (sn_var (pv 6)) (sn_mul false sn_int (sn_var (pv 9)))) sn_int))) (sn_sl false (sn_var (pv 3)) (sp_some (sn_var (pv 5))) sp_none)) sc_law_names.nd rfl (.inl rfl)) (sb_cons (ss_if (st_cmp (op_gt.or op_gt_str) op2_ord (nomark _) (sn_mul false (sn_var (pv 7)) (sn_mod (sn_var (pv 9)) sn_int)) sn_int) (sb_one (ss_set (i := 10) (sn_add false (sn_sl false (sn_ix (sn_var (pv 8)) (sn_neg sn_int)) sp_none (sp_some (sn_callB call_lenA fn_len rfl T.n_len PySem.boot_len (sa_cons (sn_var (pv 10)) sa_nil)))) (sn_ix (sn_var (pv 2)) (sn_mod (sn_add false (sn_var (pv 6)) (sn_mul false sn_int (sn_var (pv 9)))) sn_int))) sc_law_names.nd rfl (.inl rfl))) sb_nil) (sb_one (ss_expr (sn_meth PySem.F.plainAttrs_list PySem.F.slot_list_append PySem.F.type_list_append mt_append mt1_append (sn_var (pv 8)) (sa_cons (sn_var (pv 10)) sa_nil))))))) (sb_one (ss_ret (sn_var (pv 8)))))))))
theorem ok_replayed (T : Tx K mg cl) : FnOk P w K mg base CX0 3 T.a_replayed T.d_replayed ["rows", "being"] (spOf ⟨K, cl, w⟩ 2 g_replayed) := by
  refine fn_def (B := B_replayed) T.f_replayed sc_replayed (fun cdv A outer s H E hr => ?_) (fun ds M _ => ref_run B_replayed 8 ds M)
  have hu := huE hr
  have hu1 := hu1E hr
  exact (sb_cons (ss_par (i := 2) (j := 3) rfl sc_replayed.nd rfl rfl (by decide) rfl rfl (sa_cons (sn_make0 (c0 := 0) T.mk_Table (ok_Table___init__ T) (hr.mono (by decide)) rfl T.c_Table T.b_Table___init__ .nil closedK_nil passA) (sa_cons sn_dnewT sa_nil)) (by rfl)) (sb_cons (ss_for (sl := [4, 5, 6]) PassesOwn.never rfl (si_seq (sn_var (pv 0))) (sg_star (i := 2) rfl (sgs_cons (sg_name (pg_name (i := 4) sc_replayed.nd rfl (.inl rfl)) (by decide)) (sgs_cons (sg_name (pg_name (i := 5) sc_replayed.nd rfl (.inl rfl)) (by decide)) (sgs_star (sg_name (pg_name (i := 6) sc_replayed.nd rfl (.inl rfl)) (by decide)) sgs_nil))) (by decide)) (sb_cons (ss_if (PW.pt (sw_and (st_cmp (op_eqP hu) op2_eq (nomark _) (sn_var (pv 4)) (sn_strL (by decide +kernel))) (sw_and1 (st_cmp (op_eqP hu) op2_eq (nomark _) (sn_ixA hu (sn_var (pv 6)) sn_int) (sn_var (pv 1)))))) (sb_cons (ss_expr (sn_mth (c0 := 0) (sn_var (pv 2)) T.cls_Table T.me_Table_put (ok_Table_put T) (hr.mono (by decide)) T.b_Table_put .nil closedK_nil passA (sa_cons (sn_ixA hu (sn_var (pv 6)) sn_int) (sa_cons (sn_ixA hu (sn_var (pv 6)) sn_int) sa_nil)))) (sb_one (ss_asg (sl := []) (sn_callTy call_tuple_of fn_tuple rfl T.n_tuple (by decide +kernel) (sa_cons (sn_sl false (sn_var (pv 6)) (sp_some sn_int) (sp_some sn_int)) sa_nil)) (sg_ixA hu (sn_var (pv 3)) (sn_tup (sa_cons (sn_ixA hu (sn_var (pv 6)) sn_int) (sa_cons (sn_ixA hu (sn_var (pv 6)) sn_int) sa_nil))))))) sb_nil) (sb_one (ss_if (PW.pt (sw_and (st_cmp (op_eqP hu) op2_eq (nomark _) (sn_var (pv 4)) (sn_strL (by decide +kernel))) (sw_and1 (st_cmp (op_eqP hu) op2_eq (nomark _) (sn_ixA hu (sn_var (pv 6)) sn_int) (sn_var (pv 1)))))) (sb_one (ss_for (sl := [7]) PassesOwn.never rfl (si_seq (sn_mth0 (c0 := 0) (sn_var (pv 2)) T.cls_Table T.me_Table_handles (ok_Table_handles T) (hr.mono (by decide)) T.b_Table_handles .nil closedK_nil passA)) (sg_name (pg_name (i := 7) sc_replayed.nd rfl (.inl rfl)) (by decide)) (sb_one (ss_if (st_cmp (op_eqP hu) op2_eq (nomark _) (sn_ixA hu (sn_var (pv 7)) sn_int) (sn_ixA hu (sn_var (pv 6)) sn_int)) (sb_one (ss_expr (sn_mth (c0 := 0) (sn_var (pv 2)) T.cls_Table T.me_Table_drop (ok_Table_drop T) (hr.mono (by decide)) T.b_Table_drop .nil closedK_nil passA (sa_cons (sn_var (pv 7)) sa_nil)))) sb_nil)))) sb_nil)))) (sb_one (ss_ret (sn_tup (sa_cons (sn_var (pv 2)) (sa_cons (sn_var (pv 3)) sa_nil)))))))
theorem ok_Kernel___init__ (T : Tx K mg cl) : FnOk P w K mg base CX0 3 T.a_Kernel___init__ T.d_Kernel___init__ ["self", "plan", "house", "lease", "again"] (spOf ⟨K, cl, w⟩ 5 g_Kernel___init__) := by
  refine fn_def (B := B_Kernel___init__) T.f_Kernel___init__ sc_Kernel___init__ (fun cdv A outer s H E hr => ?_) (fun ds M _ => ref_run B_Kernel___init__ 5 ds M)
  have hu := huE hr
  have hu1 := hu1E hr
  exact (sb_cons (ss_fld (c0 := 3) T.cls_Kernel T.na_Kernel_plan (sn_var (pv 0)) (sn_var (pv 1))) (sb_cons (ss_fld (c0 := 3) T.cls_Kernel T.na_Kernel_house (sn_var (pv 0)) (sn_var (pv 2))) (sb_cons (ss_fld (c0 := 3) T.cls_Kernel T.na_Kernel_lease (sn_var (pv 0)) (sn_var (pv 3))) (sb_cons (ss_fld (c0 := 3) T.cls_Kernel T.na_Kernel_every (sn_var (pv 0)) (sn_var (pv 4))) (sb_cons (ss_fld (c0 := 3) T.cls_Kernel T.na_Kernel_stone (sn_var (pv 0)) (sn_make (c0 := 2) T.mk_Stone (ok_Stone___init__ T) (hr.mono (by decide)) rfl T.c_Stone T.b_Stone___init__ .nil closedK_nil passA (sa_cons (sn_call (ok_first_rows T) (hr.mono (by decide)) rfl T.m_first_rows T.f_first_rows.kp T.b_first_rows .nil closed_nil passA (sa_cons (sn_var (pv 1)) (sa_cons (sn_var (pv 2)) sa_nil))) sa_nil))) (sb_cons (ss_fld (c0 := 3) T.cls_Kernel T.na_Kernel_letters (sn_var (pv 0)) (sn_lst true sa_nil)) (sb_cons (ss_fld (c0 := 3) T.cls_Kernel T.na_Kernel_kept (sn_var (pv 0)) sn_dnewT) (sb_one (ss_fld (c0 := 3) T.cls_Kernel T.na_Kernel_opened (sn_var (pv 0)) sn_dnewK)))))))))
theorem ok_Kernel_asked (T : Tx K mg cl) : FnOk P w K mg base CX0 3 T.a_Kernel_asked T.d_Kernel_asked ["self", "tick", "what"] (spOf ⟨K, cl, w⟩ 3 g_Kernel_asked) := by
  refine fn_def (B := B_Kernel_asked) T.f_Kernel_asked sc_Kernel_asked (fun cdv A outer s H E hr => ?_) (fun ds M _ => ref_run B_Kernel_asked 4 ds M)
  have hu := huE hr
  have hu1 := hu1E hr
  exact (sb_cons (ss_set (i := 3) (sn_callB call_lenAA fn_lenA rfl T.n_len PySem.boot_len (sa_cons (sn_call (ok_asks T) (hr.mono (by decide)) rfl T.m_asks T.f_asks.kp T.b_asks .nil closed_nil passA (sa_cons (sn_mth0 (c0 := 2) (sn_fld (c0 := 3) T.cls_Kernel T.na_Kernel_stone (sn_var (pv 0))) T.cls_Stone T.me_Stone_rows (ok_Stone_rows T) (hr.mono (by decide)) T.b_Stone_rows .nil closedK_nil passA) sa_nil)) sa_nil)) sc_Kernel_asked.nd rfl (.inl rfl)) (sb_cons (ss_expr (sn_mth (c0 := 3) (sn_var (pv 0)) T.cls_Kernel T.me_Kernel_wrote (ok_Kernel_wrote T) (hr.mono (by decide)) T.b_Kernel_wrote .nil closedK_nil passA (sa_cons (sn_tup (sa_cons (sn_strL (by decide +kernel)) (sa_cons (sn_var (pv 1)) (sa_cons (sn_var (pv 3)) (sa_cons (sn_var (pv 2)) sa_nil))))) sa_nil))) (sb_one (ss_ret (sn_var (pv 3))))))
theorem ok_Kernel_leave (T : Tx K mg cl) : FnOk P w K mg base CX0 3 T.a_Kernel_leave T.d_Kernel_leave ["self", "tick"] (spOf ⟨K, cl, w⟩ 2 g_Kernel_leave) := by
  refine fn_def (B := B_Kernel_leave) T.f_Kernel_leave sc_Kernel_leave (fun cdv A outer s H E hr => ?_) (fun ds M _ => ref_run B_Kernel_leave 8 ds M)
  have hu := huE hr
  have hu1 := hu1E hr
  exact (sb_cons (ss_for (sl := [2, 3, 4, 5]) PassesOwn.never rfl (si_itemsA (sn_lk (sn_call (ok_asks T) (hr.mono (by decide)) rfl T.m_asks T.f_asks.kp T.b_asks .nil closed_nil passA (sa_cons (sn_mth0 (c0 := 2) (sn_fld (c0 := 3) T.cls_Kernel T.na_Kernel_stone (sn_var (pv 0))) T.cls_Stone T.me_Stone_rows (ok_Stone_rows T) (hr.mono (by decide)) T.b_Stone_rows .nil closedK_nil passA) sa_nil)))) (sg_tup rfl (sgs_cons (sg_name (pg_name (i := 2) sc_Kernel_leave.nd rfl (.inl rfl)) (by decide)) (sgs_cons (sg_tup rfl (sgs_cons (sg_name (pg_name (i := 3) sc_Kernel_leave.nd rfl (.inl rfl)) (by decide)) (sgs_cons (sg_name (pg_name (i := 4) sc_Kernel_leave.nd rfl (.inl rfl)) (by decide)) (sgs_cons (sg_name (pg_name (i := 5) sc_Kernel_leave.nd rfl (.inl rfl)) (by decide)) sgs_nil)))) sgs_nil))) (sb_cons (ss_set (i := 6) (sn_orT (sn_eq hu (sn_mod (sn_sub (sn_var (pv 1)) (sn_var (pv 3))) (sn_fld (c0 := 3) T.cls_Kernel T.na_Kernel_every (sn_var (pv 0)))) sn_int) (sn_one (sn_eq hu (sn_meth PySem.F.plainAttrs_dict PySem.F.slot_dict_get PySem.F.type_dict_get (mt_dget hu) mt1_dget (sn_fld (c0 := 3) T.cls_Kernel T.na_Kernel_opened (sn_var (pv 0))) (sa_cons (sn_var (pv 2)) sa_nil)) (sn_var (pv 1))))) sc_Kernel_leave.nd rfl (.inl rfl)) (sb_one (ss_if (PW.pt (sw_and (st_isN (sn_var (pv 5))) (sw_and1 (st_truth (sn_var (pv 6)))))) (sb_one (ss_expr (sn_mth (c0 := 3) (sn_var (pv 0)) T.cls_Kernel T.me_Kernel_write_ask (ok_Kernel_write_ask T) (hr.mono (by decide)) T.b_Kernel_write_ask .nil closedK_nil passA (sa_cons (sn_var (pv 2)) (sa_cons (sn_var (pv 4)) sa_nil))))) sb_nil)))) (sb_cons (ss_expr (sn_mth0 (c0 := 2) (sn_fld (c0 := 3) T.cls_Kernel T.na_Kernel_stone (sn_var (pv 0))) T.cls_Stone T.me_Stone_settle (ok_Stone_settle T) (hr.mono (by decide)) T.b_Stone_settle .nil closedK_nil passA)) (sb_cons (ss_set (i := 7) (sn_fld (c0 := 3) T.cls_Kernel T.na_Kernel_letters (sn_var (pv 0))) sc_Kernel_leave.nd rfl (.inl rfl)) (sb_cons (ss_fld (c0 := 3) T.cls_Kernel T.na_Kernel_letters (sn_var (pv 0)) (sn_lst true sa_nil)) (sb_one (ss_ret (sn_var (pv 7))))))))
theorem ok_Kernel_take (T : Tx K mg cl) : FnOk P w K mg base CX0 3 T.a_Kernel_take T.d_Kernel_take ["self", "sender", "what", "tick"] (spOf ⟨K, cl, w⟩ 4 g_Kernel_take) := by
  refine fn_def (B := B_Kernel_take) T.f_Kernel_take sc_Kernel_take (fun cdv A outer s H E hr => ?_) (fun ds M _ => ref_run B_Kernel_take 5 ds M)
  have hu := huE hr
  have hu1 := hu1E hr
  exact (sb_one (ss_if (st_cmp op_in_seq op2_inF rfl (sn_ix (sn_var (pv 2)) sn_int) (sn_tup (sa_cons (sn_strL (by decide +kernel)) (sa_cons (sn_strL (by decide +kernel)) (sa_cons (sn_strL (by decide +kernel)) (sa_cons (sn_strL (by decide +kernel)) (sa_cons (sn_strL (by decide +kernel)) (sa_cons (sn_strL (by decide +kernel)) sa_nil)))))))) (sb_one ss_dead) (sb_one (ss_if (st_cmp (op_eqP hu) op2_eq (nomark _) (sn_ix (sn_var (pv 2)) sn_int) (sn_strL (by decide +kernel))) (sb_cons ss_dead (sb_one ss_dead)) (sb_one (ss_expr (sn_mth (c0 := 3) (sn_var (pv 0)) T.cls_Kernel T.me_Kernel_take_said (ok_Kernel_take_said T) (hr.mono (by decide)) T.b_Kernel_take_said .nil closedK_nil passA (sa_cons (sn_var (pv 1)) (sa_cons (sn_var (pv 2)) (sa_cons (sn_var (pv 3)) sa_nil))))))))))
theorem ok_table (T : Tx K mg cl) : FnOk P w K mg base CX0 4 T.a_table T.d_table ["rows", "being"] (spOf ⟨K, cl, w⟩ 2 g_table) := by
  refine fn_def (B := B_table) T.f_table sc_table (fun cdv A outer s H E hr => ?_) (fun ds M _ => ref_gc B_table 5 ds M)
  have hu := huE hr
  have hu1 := hu1E hr
  exact (sb_cons (ss_asg (sl := [2, 3]) (sn_call (ok_replayed T) (hr.mono (by decide)) rfl T.m_replayed T.f_replayed.kp T.b_replayed .nil closed_nil passA (sa_cons (sn_var (pv 0)) (sa_cons (sn_var (pv 1)) sa_nil))) (sg_tup rfl (sgs_cons (sg_name (pg_name (i := 2) sc_table.nd rfl (.inr rfl)) (by decide)) (sgs_cons (sg_name (pg_name (i := 3) sc_table.nd rfl (.inr rfl)) (by decide)) sgs_nil)))) (sb_one (ss_ret (sn_lc false (own := [("handle", 4)]) rfl sc_table.nd (si_seq (sn_mth0 (c0 := 0) (sn_var (pv 2)) T.cls_Table T.me_Table_handles (ok_Table_handles T) (hr.mono (by decide)) T.b_Table_handles .nil closedK_nil passA)) (blkOk_by (N := ["rows", "being", "found", "things", "handle"]) (sc := defScope s_table) (by decide +kernel)) (fun _ _ _ _ _ => (sg_name (pg_name (i := 4) sc_table.nd rfl (.inl rfl)) (by decide))) (fun _ _ _ _ _ => sts_nil) (fun _ _ _ _ _ => (sn_add false (sn_add false (sn_tup (sa_cons (sn_var (pv 4)) sa_nil)) (sn_mth (c0 := 0) (sn_var (pv 2)) T.cls_Table T.me_Table_leads (ok_Table_leads T) (hr.mono (by decide)) T.b_Table_leads .nil closedK_nil passA (sa_cons (sn_var (pv 4)) sa_nil))) (sn_ixA hu (sn_var (pv 3)) (sn_mth (c0 := 0) (sn_var (pv 2)) T.cls_Table T.me_Table_leads (ok_Table_leads T) (hr.mono (by decide)) T.b_Table_leads .nil closedK_nil passA (sa_cons (sn_var (pv 4)) sa_nil)))))))))
theorem ok_law_heard (T : Tx K mg cl) : FnOk P w K mg base CX0 4 T.a_law_heard T.d_law_heard ["_law_flow_here", "_law_kernel", "_law_house", "_law_opened", "_law_tick"] (spOf ⟨K, cl, w⟩ 5 g_law_heard) := by
  refine fn_def (B := B_law_heard) T.f_law_heard sc_law_heard (fun cdv A outer s H E hr => ?_) (fun ds M _ => ref_run B_law_heard 8 ds M)
  have hu := huE hr
  have hu1 := hu1E hr
  exact (sb_cons (ss_setLc false (i := 5) (own := [("_law_row", 6)]) rfl sc_law_heard.nd rfl rfl (sw_true rfl rfl rfl (by decide +kernel)) (si_seq (sn_mth0 (c0 := 3) (sn_var (pv 1)) T.cls_Kernel T.me_Kernel_rows (ok_Kernel_rows T) (hr.mono (by decide)) T.b_Kernel_rows .nil closedK_nil passA)) (blkOk_by (N := ["_law_flow_here", "_law_kernel", "_law_house", "_law_opened", "_law_tick", "_law_hands", "_law_row", "_law_turn"]) (sc := defScope s_law_heard) (by decide +kernel)) (fun _ _ _ _ _ => (sg_name (pg_name (i := 6) sc_law_heard.nd rfl (.inl rfl)) (by decide))) (fun _ _ _ _ _ => (sts_one (PW.pt (sw_and (st_cmp (op_eqP hu) op2_eq (nomark _) (sn_ixA hu (sn_var (pv 6)) sn_int) (sn_strL (by decide +kernel))) (sw_and (st_cmp (op_eqP hu) op2_eq (nomark _) (sn_ixA hu (sn_ixA hu (sn_var (pv 6)) sn_int) sn_int) (sn_strL (by decide +kernel))) (sw_and1 (st_cmp (op_le.or op_le_str) op2_ord (nomark _) (sn_add false (sn_ixA hu (sn_var (pv 6)) sn_int) sn_int) (sn_var (pv 4))))))))) (fun _ _ _ _ _ => (sn_var (pv 6)))) (sb_one (ss_if (PW.pt (sw_and (st_cmp (op_gt.or op_gt_str) op2_ord (nomark _) (sn_callB call_lenAA fn_lenA rfl T.n_len PySem.boot_len (sa_cons (sn_var (pv 5)) sa_nil)) sn_int) (sw_and1 (st_cmp (op_eqP hu) op2_eq (nomark _) (sn_call (ok_law_draw T) (hr.mono (by decide)) rfl T.m_law_draw T.f_law_draw.kp T.b_law_draw .nil closed_nil passA (sa_cons (sn_var (pv 0)) (sa_cons sn_int sa_nil))) sn_int)))) (sb_cons (ss_set (i := 6) (sn_ixA hu (sn_var (pv 5)) (sn_call (ok_law_draw T) (hr.mono (by decide)) rfl T.m_law_draw T.f_law_draw.kp T.b_law_draw .nil closed_nil passA (sa_cons (sn_var (pv 0)) (sa_cons (sn_callB call_lenAA fn_lenA rfl T.n_len PySem.boot_len (sa_cons (sn_var (pv 5)) sa_nil)) sa_nil)))) sc_law_heard.nd rfl (.inl rfl)) (sb_cons (ss_for (sl := [7]) PassesOwn.never rfl (si_range1 rfl T.n_range (sa_cons (sn_add false sn_int (sn_call (ok_law_draw T) (hr.mono (by decide)) rfl T.m_law_draw T.f_law_draw.kp T.b_law_draw .nil closed_nil passA (sa_cons (sn_var (pv 0)) (sa_cons sn_int sa_nil)))) sa_nil)) (sg_name (pg_name (i := 7) sc_law_heard.nd rfl (.inl rfl)) (by decide)) (sb_one (ss_expr (sn_mth (c0 := 3) (sn_var (pv 1)) T.cls_Kernel T.me_Kernel_take (ok_Kernel_take T) (hr.mono (by decide)) T.b_Kernel_take .nil closedK_nil passA (sa_cons (sn_ixA hu (sn_ixA hu (sn_ixA hu (sn_var (pv 6)) sn_int) sn_int) sn_int) (sa_cons (sn_tup (sa_cons (sn_strL (by decide +kernel)) (sa_cons (sn_tup (sa_cons (sn_var (pv 2)) (sa_cons (sn_ixA hu (sn_var (pv 6)) sn_int) sa_nil))) sa_nil))) (sa_cons (sn_var (pv 4)) sa_nil))))))) (sb_one (ss_asg (sl := []) (sn_meth PySem.F.plainAttrs_dict PySem.F.slot_dict_get PySem.F.type_dict_get (mt_dget hu) mt1_dget (sn_var (pv 3)) (sa_cons (sn_ixA hu (sn_var (pv 6)) sn_int) (sa_cons (sn_var (pv 4)) sa_nil))) (sg_ixA hu (sn_var (pv 3)) (sn_ixA hu (sn_var (pv 6)) sn_int)))))) sb_nil)))
theorem ok_Kernel_led (T : Tx K mg cl) : FnOk P w K mg base CX0 5 T.a_Kernel_led T.d_Kernel_led ["self", "person", "handle"] (spOf ⟨K, cl, w⟩ 3 g_Kernel_led) := by
  refine fn_def (B := B_Kernel_led) T.f_Kernel_led sc_Kernel_led (fun cdv A outer s H E hr => ?_) (fun ds M _ => ref_run B_Kernel_led 4 ds M)
  have hu := huE hr
  have hu1 := hu1E hr
  exact (sb_cons (ss_expr (sn_mth0 (c0 := 2) (sn_fld (c0 := 3) T.cls_Kernel T.na_Kernel_stone (sn_var (pv 0))) T.cls_Stone T.me_Stone_settle (ok_Stone_settle T) (hr.mono (by decide)) T.b_Stone_settle .nil closedK_nil passA)) (sb_cons (ss_for (sl := [3]) PassesOwn.never rfl (si_seq (sn_call (ok_table T) (hr.mono (by decide)) rfl T.m_table_replay T.f_table.kp T.b_table .nil closed_nil passA (sa_cons (sn_mth0 (c0 := 2) (sn_fld (c0 := 3) T.cls_Kernel T.na_Kernel_stone (sn_var (pv 0))) T.cls_Stone T.me_Stone_rows (ok_Stone_rows T) (hr.mono (by decide)) T.b_Stone_rows .nil closedK_nil passA) (sa_cons (sn_tup (sa_cons (sn_fld (c0 := 3) T.cls_Kernel T.na_Kernel_house (sn_var (pv 0))) (sa_cons (sn_var (pv 1)) sa_nil))) sa_nil)))) (sg_name (pg_name (i := 3) sc_Kernel_led.nd rfl (.inl rfl)) (by decide)) (sb_one (ss_if (st_cmp (op_eqP hu) op2_eq (nomark _) (sn_ix (sn_var (pv 3)) sn_int) (sn_var (pv 2))) (sb_one (ss_ret (sn_var (pv 3)))) sb_nil))) (sb_one ss_dead)))
theorem ok_Kernel_want (T : Tx K mg cl) : FnOk P w K mg base CX0 6 T.a_Kernel_want T.d_Kernel_want ["self", "person", "handle", "tick"] (spOf ⟨K, cl, w⟩ 4 g_Kernel_want) := by
  refine fn_def (B := B_Kernel_want) T.f_Kernel_want sc_Kernel_want (fun cdv A outer s H E hr => ?_) (fun ds M _ => ref_run B_Kernel_want 10 ds M)
  have hu := huE hr
  have hu1 := hu1E hr
  exact (sb_cons (ss_asg (sl := [4, 5, 6, 7, 8, 9]) (sn_mth (c0 := 3) (sn_var (pv 0)) T.cls_Kernel T.me_Kernel_led (ok_Kernel_led T) (hr.mono (by decide)) T.b_Kernel_led .nil closedK_nil passA (sa_cons (sn_var (pv 1)) (sa_cons (sn_var (pv 2)) sa_nil))) (sg_tup rfl (sgs_cons (sg_name (pg_name (i := 4) sc_Kernel_want.nd rfl (.inl rfl)) (by decide)) (sgs_cons (sg_name (pg_name (i := 5) sc_Kernel_want.nd rfl (.inl rfl)) (by decide)) (sgs_cons (sg_name (pg_name (i := 6) sc_Kernel_want.nd rfl (.inl rfl)) (by decide)) (sgs_cons (sg_name (pg_name (i := 7) sc_Kernel_want.nd rfl (.inl rfl)) (by decide)) (sgs_cons (sg_name (pg_name (i := 8) sc_Kernel_want.nd rfl (.inl rfl)) (by decide)) (sgs_cons (sg_name (pg_name (i := 9) sc_Kernel_want.nd rfl (.inl rfl)) (by decide)) sgs_nil)))))))) (sb_one (ss_expr (sn_mth (c0 := 3) (sn_var (pv 0)) T.cls_Kernel T.me_Kernel_say (ok_Kernel_say T) (hr.mono (by decide)) T.b_Kernel_say .nil closedK_nil passA (sa_cons (sn_var (pv 5)) (sa_cons (sn_tup (sa_cons (sn_strL (by decide +kernel)) (sa_cons (sn_tup (sa_cons (sn_fld (c0 := 3) T.cls_Kernel T.na_Kernel_house (sn_var (pv 0))) (sa_cons (sn_var (pv 1)) sa_nil))) (sa_cons (sn_var (pv 6)) sa_nil)))) sa_nil))))))
theorem ok_Kernel_hand (T : Tx K mg cl) : FnOk P w K mg base CX0 6 T.a_Kernel_hand T.d_Kernel_hand ["self", "person", "handle", "way", "rights", "far", "tick"] (spOf ⟨K, cl, w⟩ 7 g_Kernel_hand) := by
  refine fn_def (B := B_Kernel_hand) T.f_Kernel_hand sc_Kernel_hand (fun cdv A outer s H E hr => ?_) (fun ds M _ => ref_run B_Kernel_hand 20 ds M)
  have hu := huE hr
  have hu1 := hu1E hr
  exact (sb_cons (ss_asg (sl := [7, 8, 9, 10, 11, 12]) (sn_mth (c0 := 3) (sn_var (pv 0)) T.cls_Kernel T.me_Kernel_led (ok_Kernel_led T) (hr.mono (by decide)) T.b_Kernel_led .nil closedK_nil passA (sa_cons (sn_var (pv 1)) (sa_cons (sn_var (pv 2)) sa_nil))) (sg_tup rfl (sgs_cons (sg_name (pg_name (i := 7) sc_Kernel_hand.nd rfl (.inl rfl)) (by decide)) (sgs_cons (sg_name (pg_name (i := 8) sc_Kernel_hand.nd rfl (.inl rfl)) (by decide)) (sgs_cons (sg_name (pg_name (i := 9) sc_Kernel_hand.nd rfl (.inl rfl)) (by decide)) (sgs_cons (sg_name (pg_name (i := 10) sc_Kernel_hand.nd rfl (.inl rfl)) (by decide)) (sgs_cons (sg_name (pg_name (i := 11) sc_Kernel_hand.nd rfl (.inl rfl)) (by decide)) (sgs_cons (sg_name (pg_name (i := 12) sc_Kernel_hand.nd rfl (.inl rfl)) (by decide)) sgs_nil)))))))) (sb_cons (ss_asg (sl := [13, 14, 15, 16, 17, 18]) (sn_mth (c0 := 3) (sn_var (pv 0)) T.cls_Kernel T.me_Kernel_led (ok_Kernel_led T) (hr.mono (by decide)) T.b_Kernel_led .nil closedK_nil passA (sa_cons (sn_var (pv 1)) (sa_cons (sn_var (pv 3)) sa_nil))) (sg_tup rfl (sgs_cons (sg_name (pg_name (i := 13) sc_Kernel_hand.nd rfl (.inl rfl)) (by decide)) (sgs_cons (sg_name (pg_name (i := 14) sc_Kernel_hand.nd rfl (.inl rfl)) (by decide)) (sgs_cons (sg_name (pg_name (i := 15) sc_Kernel_hand.nd rfl (.inl rfl)) (by decide)) (sgs_cons (sg_name (pg_name (i := 16) sc_Kernel_hand.nd rfl (.inl rfl)) (by decide)) (sgs_cons (sg_name (pg_name (i := 17) sc_Kernel_hand.nd rfl (.inl rfl)) (by decide)) (sgs_cons (sg_name (pg_name (i := 18) sc_Kernel_hand.nd rfl (.inl rfl)) (by decide)) sgs_nil)))))))) (sb_cons (ss_if (PW.pt (sw_or (st_cmp op_notIn_seq op2_inF rfl (sn_strL (by decide +kernel)) (sn_var (pv 17))) (sw_or1 (st_cmp (op_notInP hu) op2_inD rfl (sn_var (pv 16)) (sn_call (ok_beings T) (hr.mono (by decide)) rfl T.m_beings T.f_beings.kp T.b_beings .nil closed_nil passA (sa_cons (sn_fld (c0 := 3) T.cls_Kernel T.na_Kernel_plan (sn_var (pv 0))) sa_nil)))))) (sb_one ss_dead) sb_nil) (sb_cons (ss_for (sl := [19]) PassesOwn.never rfl (si_seq (sn_var (pv 4))) (sg_name (pg_name (i := 19) sc_Kernel_hand.nd rfl (.inl rfl)) (by decide)) (sb_one (ss_if (st_cmp op_notIn_seq op2_inF rfl (sn_var (pv 19)) (sn_var (pv 11))) (sb_one ss_dead) sb_nil))) (sb_cons (ss_if (st_cmp (op_ge.or op_ge_str) op2_ord (nomark _) (sn_var (pv 5)) (sn_var (pv 12))) (sb_one ss_dead) sb_nil) (sb_one (ss_ret (sn_mth (c0 := 3) (sn_var (pv 0)) T.cls_Kernel T.me_Kernel_asked (ok_Kernel_asked T) (hr.mono (by decide)) T.b_Kernel_asked .nil closedK_nil passA (sa_cons (sn_var (pv 6)) (sa_cons (sn_tup (sa_cons (sn_strL (by decide +kernel)) (sa_cons (sn_tup (sa_cons (sn_fld (c0 := 3) T.cls_Kernel T.na_Kernel_house (sn_var (pv 0))) (sa_cons (sn_var (pv 1)) sa_nil))) (sa_cons (sn_var (pv 8)) (sa_cons (sn_var (pv 9)) (sa_cons (sn_var (pv 4)) (sa_cons (sn_var (pv 5)) (sa_cons (sn_var (pv 15)) (sa_cons (sn_var (pv 16)) sa_nil))))))))) sa_nil))))))))))
theorem ok_Kernel_cut (T : Tx K mg cl) : FnOk P w K mg base CX0 6 T.a_Kernel_cut T.d_Kernel_cut ["self", "person", "own", "number", "tick"] (spOf ⟨K, cl, w⟩ 5 g_Kernel_cut) := by
  refine fn_def (B := B_Kernel_cut) T.f_Kernel_cut sc_Kernel_cut (fun cdv A outer s H E hr => ?_) (fun ds M _ => ref_run B_Kernel_cut 11 ds M)
  have hu := huE hr
  have hu1 := hu1E hr
  exact (sb_cons (ss_asg (sl := [5, 6, 7, 8, 9, 10]) (sn_mth (c0 := 3) (sn_var (pv 0)) T.cls_Kernel T.me_Kernel_led (ok_Kernel_led T) (hr.mono (by decide)) T.b_Kernel_led .nil closedK_nil passA (sa_cons (sn_var (pv 1)) (sa_cons (sn_var (pv 2)) sa_nil))) (sg_tup rfl (sgs_cons (sg_name (pg_name (i := 5) sc_Kernel_cut.nd rfl (.inl rfl)) (by decide)) (sgs_cons (sg_name (pg_name (i := 6) sc_Kernel_cut.nd rfl (.inl rfl)) (by decide)) (sgs_cons (sg_name (pg_name (i := 7) sc_Kernel_cut.nd rfl (.inl rfl)) (by decide)) (sgs_cons (sg_name (pg_name (i := 8) sc_Kernel_cut.nd rfl (.inl rfl)) (by decide)) (sgs_cons (sg_name (pg_name (i := 9) sc_Kernel_cut.nd rfl (.inl rfl)) (by decide)) (sgs_cons (sg_name (pg_name (i := 10) sc_Kernel_cut.nd rfl (.inl rfl)) (by decide)) sgs_nil)))))))) (sb_one (ss_ret (sn_mth (c0 := 3) (sn_var (pv 0)) T.cls_Kernel T.me_Kernel_asked (ok_Kernel_asked T) (hr.mono (by decide)) T.b_Kernel_asked .nil closedK_nil passA (sa_cons (sn_var (pv 4)) (sa_cons (sn_tup (sa_cons (sn_strL (by decide +kernel)) (sa_cons (sn_tup (sa_cons (sn_fld (c0 := 3) T.cls_Kernel T.na_Kernel_house (sn_var (pv 0))) (sa_cons (sn_var (pv 1)) sa_nil))) (sa_cons (sn_var (pv 6)) (sa_cons (sn_var (pv 7)) (sa_cons (sn_var (pv 3)) sa_nil)))))) sa_nil))))))
theorem ok_Kernel_call (T : Tx K mg cl) : FnOk P w K mg base CX0 6 T.a_Kernel_call T.d_Kernel_call ["self", "person", "way", "word", "what", "tick"] (spOf ⟨K, cl, w⟩ 6 g_Kernel_call) := by
  refine fn_def (B := B_Kernel_call) T.f_Kernel_call sc_Kernel_call (fun cdv A outer s H E hr => ?_) (fun ds M _ => ref_run B_Kernel_call 12 ds M)
  have hu := huE hr
  have hu1 := hu1E hr
  exact (sb_cons (ss_asg (sl := [6, 7, 8, 9, 10, 11]) (sn_mth (c0 := 3) (sn_var (pv 0)) T.cls_Kernel T.me_Kernel_led (ok_Kernel_led T) (hr.mono (by decide)) T.b_Kernel_led .nil closedK_nil passA (sa_cons (sn_var (pv 1)) (sa_cons (sn_var (pv 2)) sa_nil))) (sg_tup rfl (sgs_cons (sg_name (pg_name (i := 6) sc_Kernel_call.nd rfl (.inl rfl)) (by decide)) (sgs_cons (sg_name (pg_name (i := 7) sc_Kernel_call.nd rfl (.inl rfl)) (by decide)) (sgs_cons (sg_name (pg_name (i := 8) sc_Kernel_call.nd rfl (.inl rfl)) (by decide)) (sgs_cons (sg_name (pg_name (i := 9) sc_Kernel_call.nd rfl (.inl rfl)) (by decide)) (sgs_cons (sg_name (pg_name (i := 10) sc_Kernel_call.nd rfl (.inl rfl)) (by decide)) (sgs_cons (sg_name (pg_name (i := 11) sc_Kernel_call.nd rfl (.inl rfl)) (by decide)) sgs_nil)))))))) (sb_cons (ss_if (PW.pt (sw_or (st_cmp op_notIn_seq op2_inF rfl (sn_strL (by decide +kernel)) (sn_var (pv 10))) (sw_or1 (st_isN (sn_call (ok_servant_at T) (hr.mono (by decide)) rfl T.m_servant_at T.f_servant_at.kp T.b_servant_at .nil closed_nil passA (sa_cons (sn_fld (c0 := 3) T.cls_Kernel T.na_Kernel_plan (sn_var (pv 0))) (sa_cons (sn_var (pv 9)) sa_nil))))))) (sb_one ss_dead) sb_nil) (sb_one (ss_ret (sn_mth (c0 := 3) (sn_var (pv 0)) T.cls_Kernel T.me_Kernel_asked (ok_Kernel_asked T) (hr.mono (by decide)) T.b_Kernel_asked .nil closedK_nil passA (sa_cons (sn_var (pv 5)) (sa_cons (sn_tup (sa_cons (sn_strL (by decide +kernel)) (sa_cons (sn_tup (sa_cons (sn_fld (c0 := 3) T.cls_Kernel T.na_Kernel_house (sn_var (pv 0))) (sa_cons (sn_var (pv 1)) sa_nil))) (sa_cons (sn_var (pv 8)) (sa_cons (sn_var (pv 9)) (sa_cons (sn_var (pv 3)) (sa_cons (sn_var (pv 4)) sa_nil))))))) sa_nil)))))))
theorem ok_law_asked_one (T : Tx K mg cl) : FnOk P w K mg base CX0 7 T.a_law_asked_one T.d_law_asked_one ["_law_flow_here", "_law_kernel", "_law_names_here", "_law_tick"] (spOf ⟨K, cl, w⟩ 4 g_law_asked_one) := by
  refine fn_def (B := B_law_asked_one) T.f_law_asked_one sc_law_asked_one (fun cdv A outer s H E hr => ?_) (fun ds M _ => ref_run B_law_asked_one 6 ds M)
  have hu := huE hr
  have hu1 := hu1E hr
  exact (sb_cons (ss_set (i := 4) (sn_call (ok_law_draw T) (hr.mono (by decide)) rfl T.m_law_draw T.f_law_draw.kp T.b_law_draw .nil closed_nil passA (sa_cons (sn_var (pv 0)) (sa_cons sn_int sa_nil))) sc_law_asked_one.nd rfl (.inl rfl)) (sb_one (ss_if (st_cmp (op_eqP hu) op2_eq (nomark _) (sn_var (pv 4)) sn_int) (sb_one (ss_expr (sn_mth (c0 := 3) (sn_var (pv 1)) T.cls_Kernel T.me_Kernel_hand (ok_Kernel_hand T) (hr.mono (by decide)) T.b_Kernel_hand .nil closedK_nil passA (sa_cons (sn_ix (sn_var (pv 2)) sn_int) (sa_cons (sn_tup (sa_cons sn_int (sa_cons sn_int sa_nil))) (sa_cons (sn_tup (sa_cons sn_int (sa_cons sn_int sa_nil))) (sa_cons (sn_tup (sa_cons (sn_ix (sn_var (pv 2)) sn_int) sa_nil)) (sa_cons (sn_call (ok_law_draw T) (hr.mono (by decide)) rfl T.m_law_draw T.f_law_draw.kp T.b_law_draw .nil closed_nil passA (sa_cons (sn_var (pv 0)) (sa_cons sn_int sa_nil))) (sa_cons (sn_var (pv 3)) sa_nil))))))))) (sb_one (ss_if (st_cmp (op_eqP hu) op2_eq (nomark _) (sn_var (pv 4)) sn_int) (sb_one (ss_expr (sn_mth (c0 := 3) (sn_var (pv 1)) T.cls_Kernel T.me_Kernel_cut (ok_Kernel_cut T) (hr.mono (by decide)) T.b_Kernel_cut .nil closedK_nil passA (sa_cons (sn_ix (sn_var (pv 2)) sn_int) (sa_cons (sn_tup (sa_cons (sn_call (ok_law_draw T) (hr.mono (by decide)) rfl T.m_law_draw T.f_law_draw.kp T.b_law_draw .nil closed_nil passA (sa_cons (sn_var (pv 0)) (sa_cons sn_int sa_nil))) (sa_cons sn_int sa_nil))) (sa_cons (sn_call (ok_law_draw T) (hr.mono (by decide)) rfl T.m_law_draw T.f_law_draw.kp T.b_law_draw .nil closed_nil passA (sa_cons (sn_var (pv 0)) (sa_cons sn_int sa_nil))) (sa_cons (sn_var (pv 3)) sa_nil))))))) (sb_cons (ss_set (i := 5) (sn_ix (sn_lst false (sa_cons (sn_ix (sn_var (pv 2)) sn_int) (sa_cons sn_non (sa_cons (sn_call (ok_law_draw T) (hr.mono (by decide)) rfl T.m_law_draw T.f_law_draw.kp T.b_law_draw .nil closed_nil passA (sa_cons (sn_var (pv 0)) (sa_cons sn_int sa_nil))) sa_nil)))) (sn_call (ok_law_draw T) (hr.mono (by decide)) rfl T.m_law_draw T.f_law_draw.kp T.b_law_draw .nil closed_nil passA (sa_cons (sn_var (pv 0)) (sa_cons sn_int sa_nil)))) sc_law_asked_one.nd rfl (.inl rfl)) (sb_one (ss_expr (sn_mth (c0 := 3) (sn_var (pv 1)) T.cls_Kernel T.me_Kernel_call (ok_Kernel_call T) (hr.mono (by decide)) T.b_Kernel_call .nil closedK_nil passA (sa_cons (sn_ix (sn_var (pv 2)) sn_int) (sa_cons (sn_tup (sa_cons sn_int (sa_cons sn_int sa_nil))) (sa_cons (sn_ix (sn_var (pv 2)) sn_int) (sa_cons (sn_var (pv 5)) (sa_cons (sn_var (pv 3)) sa_nil))))))))))))))
theorem ok_law (T : Tx K mg cl) : FnG P w K mg base CX0 8 T.a_law T.d_law ["_law_script"] (spOf ⟨K, cl, w⟩ 1 g_law) := by
  refine fn_defG (B := B_law) T.f_law sc_law (fun cdv A outer s H E hgd hr => ?_) (fun ds M _ => ref_run B_law 16 ds M)
  have hu := huE hr
  have hu1 := hu1E hr
  exact (sb_cons (ss_for (sl := [1]) PassesOwn.never rfl (si_range1 rfl T.n_range (sa_cons (sn_callB (call_max2 rfl) fn_2I rfl T.n_max (by decide +kernel) (sa_cons sn_int (sa_cons (sn_callB (call_min2 rfl) fn_2I rfl T.n_min (by decide +kernel) (sa_cons sn_int (sa_cons (sn_callB call_lenAA fn_lenA rfl T.n_len PySem.boot_len (sa_cons (sn_var (pv 0)) sa_nil)) sa_nil))) sa_nil))) sa_nil)) (sg_name (pg_name (i := 1) sc_law.nd rfl (.inl rfl)) (by decide)) (sb_cons (ss_set (i := 2) (sn_call (ok_law_flow T) (hr.mono (by decide)) rfl T.m_law_flow T.f_law_flow.kp T.b_law_flow .nil closed_nil passA (sa_cons (sn_var (pv 0)) (sa_cons (sn_var (pv 1)) sa_nil))) sc_law.nd rfl (.inl rfl)) (sb_cons (ss_par (i := 3) (j := 4) rfl sc_law.nd rfl rfl (by decide) rfl rfl (sa_cons (sn_call (ok_law_names T) (hr.mono (by decide)) rfl T.m_law_names T.f_law_names.kp T.b_law_names .nil closed_nil passA (sa_cons (sn_var (pv 2)) (sa_cons sn_int sa_nil))) (sa_cons (sn_add false sn_int (sn_call (ok_law_draw T) (hr.mono (by decide)) rfl T.m_law_draw T.f_law_draw.kp T.b_law_draw .nil closed_nil passA (sa_cons (sn_var (pv 2)) (sa_cons sn_int sa_nil)))) sa_nil)) (by rfl)) (sb_cons (ss_set (i := 5) (sn_tup (sa_cons (sn_tup (sa_cons (sn_ixA hu (sn_var (pv 3)) sn_int) (sa_cons (sn_tup (sa_cons (sn_ixA hu (sn_var (pv 3)) sn_int) sa_nil)) (sa_cons (sn_tup sa_nil) (sa_cons (sn_tup (sa_cons (sn_ixA hu (sn_var (pv 3)) sn_int) sa_nil)) sa_nil))))) (sa_cons (sn_tup (sa_cons (sn_ixA hu (sn_var (pv 3)) sn_int) (sa_cons (sn_tup (sa_cons (sn_ixA hu (sn_var (pv 3)) sn_int) sa_nil)) (sa_cons (sn_tup (sa_cons (sn_tup (sa_cons (sn_ixA hu (sn_var (pv 3)) sn_int) (sa_cons (sn_strL (by decide +kernel)) (sa_cons (sn_tup sa_nil) sa_nil)))) sa_nil)) (sa_cons (sn_tup sa_nil) sa_nil))))) sa_nil))) sc_law.nd rfl (.inl rfl)) (sb_cons (ss_set (i := 6) (sn_tup (sa_cons (sn_ixA hu (sn_var (pv 3)) sn_int) (sa_cons (sn_ixA hu (sn_var (pv 3)) sn_int) sa_nil))) sc_law.nd rfl (.inl rfl)) (sb_cons (ss_set (i := 7) (sn_tup (sa_cons (sn_tup (sa_cons (sn_tup (sa_cons (sn_ixA hu (sn_var (pv 3)) sn_int) (sa_cons (sn_ixA hu (sn_var (pv 3)) sn_int) sa_nil))) (sa_cons (sn_tup (sa_cons (sn_ixA hu (sn_var (pv 3)) sn_int) sa_nil)) (sa_cons sn_int (sa_cons (sn_var (pv 6)) (sa_cons sn_non sa_nil)))))) sa_nil)) sc_law.nd rfl (.inl rfl)) (sb_cons (ss_set (i := 7) (sn_add false (sn_var (pv 7)) (sn_tup (sa_cons (sn_tup (sa_cons (sn_tup (sa_cons (sn_ixA hu (sn_var (pv 3)) sn_int) (sa_cons (sn_ixA hu (sn_var (pv 3)) sn_int) sa_nil))) (sa_cons (sn_tup (sa_cons (sn_strL (by decide +kernel)) sa_nil)) (sa_cons sn_int (sa_cons (sn_var (pv 6)) (sa_cons sn_non sa_nil)))))) sa_nil))) sc_law.nd rfl (.inl rfl)) (sb_cons (ss_set (i := 7) (sn_add false (sn_var (pv 7)) (sn_tup (sa_cons (sn_tup (sa_cons (sn_tup (sa_cons (sn_ixA hu (sn_var (pv 3)) sn_int) (sa_cons (sn_ixA hu (sn_var (pv 3)) sn_int) sa_nil))) (sa_cons (sn_tup (sa_cons (sn_strL (by decide +kernel)) sa_nil)) (sa_cons sn_int (sa_cons (sn_var (pv 6)) (sa_cons sn_non sa_nil)))))) sa_nil))) sc_law.nd rfl (.inl rfl)) (sb_cons (ss_par (i := 8) (j := 9) rfl sc_law.nd rfl rfl (by decide) rfl rfl (sa_cons (sn_makeKwP (c0 := 3) T.mk_Kernel (ok_Kernel___init__ T) (hr.mono (by decide)) rfl T.c_Kernel T.kk_Kernel___init___3_again passA (sa_cons (sn_tup (sa_cons (sn_var (pv 5)) (sa_cons (sn_var (pv 7)) sa_nil))) (sa_cons (sn_ixA hu (sn_var (pv 3)) sn_int) sa_nil)) (sk_cons (sn_var (pv 4)) sk_nil)) (sa_cons sn_dnewK sa_nil)) (by rfl)) (sb_cons (ss_if (st_cmp (op_eqP hu) op2_eq (nomark _) (sn_var (pv 4)) sn_int) (sb_one (ss_set (i := 8) (sn_make (c0 := 3) T.mk_Kernel (ok_Kernel___init__ T) (hr.mono (by decide)) rfl T.c_Kernel T.bd_Kernel___init___2 T.vd_Kernel___init___2 T.cd_Kernel___init___2 passA (sa_cons (sn_tup (sa_cons (sn_var (pv 5)) (sa_cons (sn_var (pv 7)) sa_nil))) (sa_cons (sn_ixA hu (sn_var (pv 3)) sn_int) sa_nil))) sc_law.nd rfl (.inl rfl))) sb_nil) (sb_cons (ss_if (PW.pt (sw_or (st_cmp (op_neP hu) op2_ne (nomark _) (T.k_AGAIN) sn_int) (sw_or1 (st_val (sn_isi (T := "bool") rfl T.n_isinstance rfl T.n_bool (by decide +kernel) (by decide) (by decide) (by decide) (T.k_AGAIN)))))) (sb_one (ss_ret sn_bl)) sb_nil) (sb_one (ss_for (sl := [10]) PassesOwn.never rfl (si_range1 rfl T.n_range (sa_cons sn_int sa_nil)) (sg_name (pg_name (i := 10) sc_law.nd rfl (.inl rfl)) (by decide)) (sb_cons (ss_if (PW.pt (sw_and (st_cmp (op_lt.or op_lt_str) op2_ord (nomark _) (sn_var (pv 10)) sn_int) (sw_and1 (st_cmp (op_eqP hu) op2_eq (nomark _) (sn_call (ok_law_draw T) (hr.mono (by decide)) rfl T.m_law_draw T.f_law_draw.kp T.b_law_draw .nil closed_nil passA (sa_cons (sn_var (pv 2)) (sa_cons sn_int sa_nil))) sn_int)))) (sb_one (ss_expr (sn_call (ok_law_asked_one T) (hr.mono (by decide)) rfl T.m_law_asked_one T.f_law_asked_one.kp T.b_law_asked_one .nil closed_nil passA (sa_cons (sn_var (pv 2)) (sa_cons (sn_var (pv 8)) (sa_cons (sn_var (pv 3)) (sa_cons (sn_var (pv 10)) sa_nil))))))) sb_nil) (sb_cons (ss_if (st_cmp (op_eqP hu) op2_eq (nomark _) (sn_call (ok_law_draw T) (hr.mono (by decide)) rfl T.m_law_draw T.f_law_draw.kp T.b_law_draw .nil closed_nil passA (sa_cons (sn_var (pv 2)) (sa_cons sn_int sa_nil))) sn_int) (sb_one (ss_expr (sn_call (ok_law_heard T) (hr.mono (by decide)) rfl T.m_law_heard T.f_law_heard.kp T.b_law_heard .nil closed_nil passA (sa_cons (sn_var (pv 2)) (sa_cons (sn_var (pv 8)) (sa_cons (sn_ixA hu (sn_var (pv 3)) sn_int) (sa_cons (sn_var (pv 9)) (sa_cons (sn_var (pv 10)) sa_nil)))))))) sb_nil) (sb_cons (ss_set (i := 11) (sn_lst true sa_nil) sc_law.nd rfl (.inl rfl)) (sb_cons (ss_if (PW.pt (sw_and (st_cmp (op_eqP hu) op2_eq (nomark _) (sn_mod (sn_var (pv 10)) sn_int) sn_int) (sw_and1 (st_cmp (op_eqP hu) op2_eq (nomark _) (sn_call (ok_law_draw T) (hr.mono (by decide)) rfl T.m_law_draw T.f_law_draw.kp T.b_law_draw .nil closed_nil passA (sa_cons (sn_var (pv 2)) (sa_cons sn_int sa_nil))) sn_int)))) (sb_one (ss_for (sl := [12]) PassesOwn.never rfl (si_range1 rfl T.n_range (sa_cons (sn_add false sn_int (sn_call (ok_law_draw T) (hr.mono (by decide)) rfl T.m_law_draw T.f_law_draw.kp T.b_law_draw .nil closed_nil passA (sa_cons (sn_var (pv 2)) (sa_cons sn_int sa_nil)))) sa_nil)) (sg_name (pg_name (i := 12) sc_law.nd rfl (.inl rfl)) (by decide)) (sb_cons (ss_set (i := 13) (sn_add false sn_int (sn_call (ok_law_draw T) (hr.mono (by decide)) rfl T.m_law_draw T.f_law_draw.kp T.b_law_draw .nil closed_nil passA (sa_cons (sn_var (pv 2)) (sa_cons sn_int sa_nil)))) sc_law.nd rfl (.inl rfl)) (sb_cons (ss_expr (sn_mth (c0 := 3) (sn_var (pv 8)) T.cls_Kernel T.me_Kernel_want (ok_Kernel_want T) (hr.mono (by decide)) T.b_Kernel_want .nil closedK_nil passA (sa_cons (sn_ixA hu (sn_var (pv 3)) sn_int) (sa_cons (sn_tup (sa_cons (sn_var (pv 13)) (sa_cons sn_int sa_nil))) (sa_cons (sn_var (pv 10)) sa_nil))))) (sb_one (ss_expr (sn_meth PySem.F.plainAttrs_list PySem.F.slot_list_append PySem.F.type_list_append mt_append mt1_append (sn_var (pv 11)) (sa_cons (sn_tup (sa_cons (sn_ixA hu (sn_var (pv 3)) sn_int) (sa_cons (sn_ixA hu (sn_var (pv 3)) sn_int) (sa_cons (sn_tup (sa_cons (sn_strL (by decide +kernel)) (sa_cons (sn_var (pv 6)) (sa_cons (sn_sub (sn_var (pv 13)) sn_int) sa_nil)))) sa_nil)))) sa_nil)))))))) sb_nil) (sb_cons (ss_if (st_cmp (op_eqP hu) op2_eq (nomark _) (sn_call (ok_law_draw T) (hr.mono (by decide)) rfl T.m_law_draw T.f_law_draw.kp T.b_law_draw .nil closed_nil passA (sa_cons (sn_var (pv 2)) (sa_cons sn_int sa_nil))) sn_int) (sb_cons (ss_expr (sn_mth (c0 := 3) (sn_var (pv 8)) T.cls_Kernel T.me_Kernel_fall (ok_Kernel_fall T) (hr.mono (by decide)) T.b_Kernel_fall .nil closedK_nil passA (sa_cons sn_int sa_nil))) (sb_one (ss_par (i := 9) (j := 11) rfl sc_law.nd rfl rfl (by decide) rfl rfl (sa_cons sn_dnewK (sa_cons (sn_lst true sa_nil) sa_nil)) (by rfl)))) sb_nil) (sb_cons (ss_set (i := 14) (sn_callTy call_list_of (fn_list (c := true)) rfl T.n_list (by decide +kernel) (sa_cons (sn_var (pv 11)) sa_nil)) sc_law.nd rfl (.inl rfl)) (sb_cons (ss_for (sl := [15]) PassesOwn.never rfl (si_seq (sn_mth0 (c0 := 3) (sn_var (pv 8)) T.cls_Kernel T.me_Kernel_rows (ok_Kernel_rows T) (hr.mono (by decide)) T.b_Kernel_rows .nil closedK_nil passA)) (sg_name (pg_name (i := 15) sc_law.nd rfl (.inl rfl)) (by decide)) (sb_one (ss_if (PW.pt (sw_and (st_cmp (op_eqP hu) op2_eq (nomark _) (sn_ixA hu (sn_var (pv 15)) sn_int) (sn_strL (by decide +kernel))) (sw_and1 (PW.pt (sw_or (st_cmp (op_eqP hu) op2_eq (nomark _) (sn_mod (sn_sub (sn_var (pv 10)) (sn_ixA hu (sn_var (pv 15)) sn_int)) (sn_var (pv 4))) sn_int) (sw_or1 (st_cmp (op_eqP hu) op2_eq (nomark _) (sn_meth PySem.F.plainAttrs_dict PySem.F.slot_dict_get PySem.F.type_dict_get (mt_dget hu) mt1_dget (sn_var (pv 9)) (sa_cons (sn_ixA hu (sn_var (pv 15)) sn_int) sa_nil)) (sn_var (pv 10))))))))) (sb_one (ss_expr (sn_meth PySem.F.plainAttrs_list PySem.F.slot_list_append PySem.F.type_list_append mt_append mt1_append (sn_var (pv 14)) (sa_cons (sn_call (ok_law_letter T) (hr.mono (by decide)) rfl T.m_law_letter T.f_law_letter.kp T.b_law_letter .nil closed_nil passA (sa_cons (sn_ixA hu (sn_var (pv 3)) sn_int) (sa_cons (sn_ixA hu (sn_var (pv 15)) sn_int) (sa_cons (sn_ixA hu (sn_var (pv 15)) sn_int) (sa_cons (sn_inA hu (sn_ixA hu (sn_var (pv 15)) sn_int) (sn_var (pv 9))) sa_nil))))) sa_nil)))) sb_nil))) (sb_one (ss_if (PW.pt (sw_or (st_cmp (op_neP hu) op2_ne (nomark _) (sn_callB (cr_repr hgd hu) fn_repr rfl T.n_repr PyProof.Rows.boot_repr (sa_cons (sn_mth (c0 := 3) (sn_var (pv 8)) T.cls_Kernel T.me_Kernel_leave (ok_Kernel_leave T) (hr.mono (by decide)) T.b_Kernel_leave .nil closedK_nil passA (sa_cons (sn_var (pv 10)) sa_nil)) sa_nil)) (sn_callB (cr_repr hgd hu) fn_repr rfl T.n_repr PyProof.Rows.boot_repr (sa_cons (sn_var (pv 14)) sa_nil))) (sw_or (st_cmp (op_neP hu) op2_ne (nomark _) (sn_mth0 (c0 := 3) (sn_var (pv 8)) T.cls_Kernel T.me_Kernel_settled (ok_Kernel_settled T) (hr.mono (by decide)) T.b_Kernel_settled .nil closedK_nil passA) (sn_callB call_lenAA fn_lenA rfl T.n_len PySem.boot_len (sa_cons (sn_mth0 (c0 := 3) (sn_var (pv 8)) T.cls_Kernel T.me_Kernel_rows (ok_Kernel_rows T) (hr.mono (by decide)) T.b_Kernel_rows .nil closedK_nil passA) sa_nil))) (sw_or1 (st_cmp (op_neP hu) op2_ne (nomark _) (sn_mth0 (c0 := 3) (sn_var (pv 8)) T.cls_Kernel T.me_Kernel_waits (ok_Kernel_waits T) (hr.mono (by decide)) T.b_Kernel_waits .nil closedK_nil passA) sn_int))))) (sb_one (ss_ret sn_bl)) sb_nil)))))))))))))))))))))) (sb_one (ss_ret sn_bl)))
end
theorem all_mk {l : PySem.W.OpenLaw} {w : World} {K : PySem.W.Frag} {h : Heap} {mg : Str → Option Value} {fa : Addr} (X : K.In h) (G : h.Ns mainGlobals mg) (hfa : mg "law" = some (.ref fa))
    {C_Table : Addr}
    {C_Stone : Addr}
    {C_Kernel : Addr}
    {f0 : Addr} {od0 an0 : Option Addr} {sl0 : Array (Option Value)} {oc0 dc0 pm0 cd0 ct0 : Value}
    {kV0 : Value}
    (a0 : PySem.W.nsIn K mainGlobals "root_numbers" = some (some (.ref f0))) (l0 : K.lookup f0 = some ⟨oc0, od0, .func (PySem.W.fnOf "root_numbers" "root_numbers" (defArgs s_root_numbers) (defBody s_root_numbers) (defScope s_root_numbers) .none kV0 dc0 pm0 an0 cd0 ct0), sl0⟩) (c0 : PySem.W.codeIn K cd0 "root_numbers" = true) (k0 : PySem.W.keepIn K (.ref f0) = true)
    {f1 : Addr} {od1 an1 : Option Addr} {sl1 : Array (Option Value)} {oc1 dc1 pm1 cd1 ct1 : Value}
    {kV1 : Value}
    (a1 : PySem.W.findIn K (.ref C_Table) "__init__" = some (some (.ref f1))) (i1 : PySem.W.isFn K (.ref f1) = true) (l1 : K.lookup f1 = some ⟨oc1, od1, .func (PySem.W.fnOf "__init__" "Table.__init__" (defArgs s_Table___init__) (defBody s_Table___init__) (defScope s_Table___init__) .none kV1 dc1 pm1 an1 cd1 ct1), sl1⟩) (c1 : PySem.W.codeIn K cd1 "Table.__init__" = true) (k1 : PySem.W.keepIn K (.ref f1) = true)
    {f2 : Addr} {od2 an2 : Option Addr} {sl2 : Array (Option Value)} {oc2 dc2 pm2 cd2 ct2 : Value}
    {kV2 : Value}
    (a2 : PySem.W.findIn K (.ref C_Table) "free_place" = some (some (.ref f2))) (i2 : PySem.W.isFn K (.ref f2) = true) (l2 : K.lookup f2 = some ⟨oc2, od2, .func (PySem.W.fnOf "free_place" "Table.free_place" (defArgs s_Table_free_place) (defBody s_Table_free_place) (defScope s_Table_free_place) .none kV2 dc2 pm2 an2 cd2 ct2), sl2⟩) (c2 : PySem.W.codeIn K cd2 "Table.free_place" = true) (k2 : PySem.W.keepIn K (.ref f2) = true)
    {f3 : Addr} {od3 an3 : Option Addr} {sl3 : Array (Option Value)} {oc3 dc3 pm3 cd3 ct3 : Value}
    {kV3 : Value}
    (a3 : PySem.W.findIn K (.ref C_Table) "leads" = some (some (.ref f3))) (i3 : PySem.W.isFn K (.ref f3) = true) (l3 : K.lookup f3 = some ⟨oc3, od3, .func (PySem.W.fnOf "leads" "Table.leads" (defArgs s_Table_leads) (defBody s_Table_leads) (defScope s_Table_leads) .none kV3 dc3 pm3 an3 cd3 ct3), sl3⟩) (c3 : PySem.W.codeIn K cd3 "Table.leads" = true) (k3 : PySem.W.keepIn K (.ref f3) = true)
    {f4 : Addr} {od4 an4 : Option Addr} {sl4 : Array (Option Value)} {oc4 dc4 pm4 cd4 ct4 : Value}
    {kV4 : Value}
    (a4 : PySem.W.findIn K (.ref C_Table) "handles" = some (some (.ref f4))) (i4 : PySem.W.isFn K (.ref f4) = true) (l4 : K.lookup f4 = some ⟨oc4, od4, .func (PySem.W.fnOf "handles" "Table.handles" (defArgs s_Table_handles) (defBody s_Table_handles) (defScope s_Table_handles) .none kV4 dc4 pm4 an4 cd4 ct4), sl4⟩) (c4 : PySem.W.codeIn K cd4 "Table.handles" = true) (k4 : PySem.W.keepIn K (.ref f4) = true)
    {f5 : Addr} {od5 an5 : Option Addr} {sl5 : Array (Option Value)} {oc5 dc5 pm5 cd5 ct5 : Value}
    {kV5 : Value}
    (a5 : PySem.W.nsIn K mainGlobals "asks" = some (some (.ref f5))) (l5 : K.lookup f5 = some ⟨oc5, od5, .func (PySem.W.fnOf "asks" "asks" (defArgs s_asks) (defBody s_asks) (defScope s_asks) .none kV5 dc5 pm5 an5 cd5 ct5), sl5⟩) (c5 : PySem.W.codeIn K cd5 "asks" = true) (k5 : PySem.W.keepIn K (.ref f5) = true)
    {f6 : Addr} {od6 an6 : Option Addr} {sl6 : Array (Option Value)} {oc6 dc6 pm6 cd6 ct6 : Value}
    {kV6 : Value}
    (a6 : PySem.W.nsIn K mainGlobals "beings" = some (some (.ref f6))) (l6 : K.lookup f6 = some ⟨oc6, od6, .func (PySem.W.fnOf "beings" "beings" (defArgs s_beings) (defBody s_beings) (defScope s_beings) .none kV6 dc6 pm6 an6 cd6 ct6), sl6⟩) (c6 : PySem.W.codeIn K cd6 "beings" = true) (k6 : PySem.W.keepIn K (.ref f6) = true)
    {f7 : Addr} {od7 an7 : Option Addr} {sl7 : Array (Option Value)} {oc7 dc7 pm7 cd7 ct7 : Value}
    {kV7 : Value}
    (a7 : PySem.W.nsIn K mainGlobals "servant_at" = some (some (.ref f7))) (l7 : K.lookup f7 = some ⟨oc7, od7, .func (PySem.W.fnOf "servant_at" "servant_at" (defArgs s_servant_at) (defBody s_servant_at) (defScope s_servant_at) .none kV7 dc7 pm7 an7 cd7 ct7), sl7⟩) (c7 : PySem.W.codeIn K cd7 "servant_at" = true) (k7 : PySem.W.keepIn K (.ref f7) = true)
    {f8 : Addr} {od8 an8 : Option Addr} {sl8 : Array (Option Value)} {oc8 dc8 pm8 cd8 ct8 : Value}
    {kV8 : Value}
    {P8 : Addr} {T8_rows : Addr}
    (a8 : PySem.W.findIn K (.ref C_Stone) "__init__" = some (some (.ref f8))) (i8 : PySem.W.isFn K (.ref f8) = true) (l8 : K.lookup f8 = some ⟨oc8, od8, .func (PySem.W.fnOf "__init__" "Stone.__init__" (defArgs s_Stone___init__) (defBody s_Stone___init__) (defScope s_Stone___init__) (.ref P8) kV8 dc8 pm8 an8 cd8 ct8), sl8⟩) (c8 : PySem.W.codeIn K cd8 "Stone.__init__" = true) (k8 : PySem.W.keepIn K (.ref f8) = true)
    {oP8 : Option Addr} {nP8 : Nat} {slP8 : Array (Option Value)} (p8 : K.lookup P8 = some ⟨.type "tuple", oP8, .seq #[.ref T8_rows] nP8, slP8⟩)
    {od8_rows : Option Addr} {n8_rows : Nat} {sl8_rows : Array (Option Value)} (t8_rows : K.lookup T8_rows = some ⟨.type "tuple", od8_rows, .seq #[] n8_rows, sl8_rows⟩)
    {f9 : Addr} {od9 an9 : Option Addr} {sl9 : Array (Option Value)} {oc9 dc9 pm9 cd9 ct9 : Value}
    {kV9 : Value}
    (a9 : PySem.W.findIn K (.ref C_Stone) "write" = some (some (.ref f9))) (i9 : PySem.W.isFn K (.ref f9) = true) (l9 : K.lookup f9 = some ⟨oc9, od9, .func (PySem.W.fnOf "write" "Stone.write" (defArgs s_Stone_write) (defBody s_Stone_write) (defScope s_Stone_write) .none kV9 dc9 pm9 an9 cd9 ct9), sl9⟩) (c9 : PySem.W.codeIn K cd9 "Stone.write" = true) (k9 : PySem.W.keepIn K (.ref f9) = true)
    {f10 : Addr} {od10 an10 : Option Addr} {sl10 : Array (Option Value)} {oc10 dc10 pm10 cd10 ct10 : Value}
    {kV10 : Value}
    (a10 : PySem.W.findIn K (.ref C_Stone) "settle" = some (some (.ref f10))) (i10 : PySem.W.isFn K (.ref f10) = true) (l10 : K.lookup f10 = some ⟨oc10, od10, .func (PySem.W.fnOf "settle" "Stone.settle" (defArgs s_Stone_settle) (defBody s_Stone_settle) (defScope s_Stone_settle) .none kV10 dc10 pm10 an10 cd10 ct10), sl10⟩) (c10 : PySem.W.codeIn K cd10 "Stone.settle" = true) (k10 : PySem.W.keepIn K (.ref f10) = true)
    {f11 : Addr} {od11 an11 : Option Addr} {sl11 : Array (Option Value)} {oc11 dc11 pm11 cd11 ct11 : Value}
    {kV11 : Value}
    (a11 : PySem.W.findIn K (.ref C_Stone) "fall" = some (some (.ref f11))) (i11 : PySem.W.isFn K (.ref f11) = true) (l11 : K.lookup f11 = some ⟨oc11, od11, .func (PySem.W.fnOf "fall" "Stone.fall" (defArgs s_Stone_fall) (defBody s_Stone_fall) (defScope s_Stone_fall) .none kV11 dc11 pm11 an11 cd11 ct11), sl11⟩) (c11 : PySem.W.codeIn K cd11 "Stone.fall" = true) (k11 : PySem.W.keepIn K (.ref f11) = true)
    {f12 : Addr} {od12 an12 : Option Addr} {sl12 : Array (Option Value)} {oc12 dc12 pm12 cd12 ct12 : Value}
    {kV12 : Value}
    (a12 : PySem.W.findIn K (.ref C_Stone) "rows" = some (some (.ref f12))) (i12 : PySem.W.isFn K (.ref f12) = true) (l12 : K.lookup f12 = some ⟨oc12, od12, .func (PySem.W.fnOf "rows" "Stone.rows" (defArgs s_Stone_rows) (defBody s_Stone_rows) (defScope s_Stone_rows) .none kV12 dc12 pm12 an12 cd12 ct12), sl12⟩) (c12 : PySem.W.codeIn K cd12 "Stone.rows" = true) (k12 : PySem.W.keepIn K (.ref f12) = true)
    {f13 : Addr} {od13 an13 : Option Addr} {sl13 : Array (Option Value)} {oc13 dc13 pm13 cd13 ct13 : Value}
    {kV13 : Value}
    (a13 : PySem.W.findIn K (.ref C_Stone) "settled" = some (some (.ref f13))) (i13 : PySem.W.isFn K (.ref f13) = true) (l13 : K.lookup f13 = some ⟨oc13, od13, .func (PySem.W.fnOf "settled" "Stone.settled" (defArgs s_Stone_settled) (defBody s_Stone_settled) (defScope s_Stone_settled) .none kV13 dc13 pm13 an13 cd13 ct13), sl13⟩) (c13 : PySem.W.codeIn K cd13 "Stone.settled" = true) (k13 : PySem.W.keepIn K (.ref f13) = true)
    {f14 : Addr} {od14 an14 : Option Addr} {sl14 : Array (Option Value)} {oc14 dc14 pm14 cd14 ct14 : Value}
    {kV14 : Value}
    (a14 : PySem.W.findIn K (.ref C_Kernel) "waits" = some (some (.ref f14))) (i14 : PySem.W.isFn K (.ref f14) = true) (l14 : K.lookup f14 = some ⟨oc14, od14, .func (PySem.W.fnOf "waits" "Kernel.waits" (defArgs s_Kernel_waits) (defBody s_Kernel_waits) (defScope s_Kernel_waits) .none kV14 dc14 pm14 an14 cd14 ct14), sl14⟩) (c14 : PySem.W.codeIn K cd14 "Kernel.waits" = true) (k14 : PySem.W.keepIn K (.ref f14) = true)
    {f15 : Addr} {od15 an15 : Option Addr} {sl15 : Array (Option Value)} {oc15 dc15 pm15 cd15 ct15 : Value}
    {kV15 : Value}
    (a15 : PySem.W.findIn K (.ref C_Kernel) "say" = some (some (.ref f15))) (i15 : PySem.W.isFn K (.ref f15) = true) (l15 : K.lookup f15 = some ⟨oc15, od15, .func (PySem.W.fnOf "say" "Kernel.say" (defArgs s_Kernel_say) (defBody s_Kernel_say) (defScope s_Kernel_say) .none kV15 dc15 pm15 an15 cd15 ct15), sl15⟩) (c15 : PySem.W.codeIn K cd15 "Kernel.say" = true) (k15 : PySem.W.keepIn K (.ref f15) = true)
    {f16 : Addr} {od16 an16 : Option Addr} {sl16 : Array (Option Value)} {oc16 dc16 pm16 cd16 ct16 : Value}
    {kV16 : Value}
    (a16 : PySem.W.nsIn K mainGlobals "_law_cell" = some (some (.ref f16))) (l16 : K.lookup f16 = some ⟨oc16, od16, .func (PySem.W.fnOf "_law_cell" "_law_cell" (defArgs s_law_cell) (defBody s_law_cell) (defScope s_law_cell) .none kV16 dc16 pm16 an16 cd16 ct16), sl16⟩) (c16 : PySem.W.codeIn K cd16 "_law_cell" = true) (k16 : PySem.W.keepIn K (.ref f16) = true)
    {f17 : Addr} {od17 an17 : Option Addr} {sl17 : Array (Option Value)} {oc17 dc17 pm17 cd17 ct17 : Value}
    {kV17 : Value}
    (a17 : PySem.W.nsIn K mainGlobals "_law_draw" = some (some (.ref f17))) (l17 : K.lookup f17 = some ⟨oc17, od17, .func (PySem.W.fnOf "_law_draw" "_law_draw" (defArgs s_law_draw) (defBody s_law_draw) (defScope s_law_draw) .none kV17 dc17 pm17 an17 cd17 ct17), sl17⟩) (c17 : PySem.W.codeIn K cd17 "_law_draw" = true) (k17 : PySem.W.keepIn K (.ref f17) = true)
    {f18 : Addr} {od18 an18 : Option Addr} {sl18 : Array (Option Value)} {oc18 dc18 pm18 cd18 ct18 : Value}
    {kV18 : Value}
    (a18 : PySem.W.nsIn K mainGlobals "_law_letter" = some (some (.ref f18))) (l18 : K.lookup f18 = some ⟨oc18, od18, .func (PySem.W.fnOf "_law_letter" "_law_letter" (defArgs s_law_letter) (defBody s_law_letter) (defScope s_law_letter) .none kV18 dc18 pm18 an18 cd18 ct18), sl18⟩) (c18 : PySem.W.codeIn K cd18 "_law_letter" = true) (k18 : PySem.W.keepIn K (.ref f18) = true)
    {f19 : Addr} {od19 an19 : Option Addr} {sl19 : Array (Option Value)} {oc19 dc19 pm19 cd19 ct19 : Value}
    {kV19 : Value}
    (a19 : PySem.W.findIn K (.ref C_Table) "put" = some (some (.ref f19))) (i19 : PySem.W.isFn K (.ref f19) = true) (l19 : K.lookup f19 = some ⟨oc19, od19, .func (PySem.W.fnOf "put" "Table.put" (defArgs s_Table_put) (defBody s_Table_put) (defScope s_Table_put) .none kV19 dc19 pm19 an19 cd19 ct19), sl19⟩) (c19 : PySem.W.codeIn K cd19 "Table.put" = true) (k19 : PySem.W.keepIn K (.ref f19) = true)
    {f20 : Addr} {od20 an20 : Option Addr} {sl20 : Array (Option Value)} {oc20 dc20 pm20 cd20 ct20 : Value}
    {kV20 : Value}
    (a20 : PySem.W.findIn K (.ref C_Table) "drop" = some (some (.ref f20))) (i20 : PySem.W.isFn K (.ref f20) = true) (l20 : K.lookup f20 = some ⟨oc20, od20, .func (PySem.W.fnOf "drop" "Table.drop" (defArgs s_Table_drop) (defBody s_Table_drop) (defScope s_Table_drop) .none kV20 dc20 pm20 an20 cd20 ct20), sl20⟩) (c20 : PySem.W.codeIn K cd20 "Table.drop" = true) (k20 : PySem.W.keepIn K (.ref f20) = true)
    {f21 : Addr} {od21 an21 : Option Addr} {sl21 : Array (Option Value)} {oc21 dc21 pm21 cd21 ct21 : Value}
    {kV21 : Value}
    (a21 : PySem.W.nsIn K mainGlobals "first_rows" = some (some (.ref f21))) (l21 : K.lookup f21 = some ⟨oc21, od21, .func (PySem.W.fnOf "first_rows" "first_rows" (defArgs s_first_rows) (defBody s_first_rows) (defScope s_first_rows) .none kV21 dc21 pm21 an21 cd21 ct21), sl21⟩) (c21 : PySem.W.codeIn K cd21 "first_rows" = true) (k21 : PySem.W.keepIn K (.ref f21) = true)
    {f22 : Addr} {od22 an22 : Option Addr} {sl22 : Array (Option Value)} {oc22 dc22 pm22 cd22 ct22 : Value}
    {kV22 : Value}
    (a22 : PySem.W.findIn K (.ref C_Kernel) "rows" = some (some (.ref f22))) (i22 : PySem.W.isFn K (.ref f22) = true) (l22 : K.lookup f22 = some ⟨oc22, od22, .func (PySem.W.fnOf "rows" "Kernel.rows" (defArgs s_Kernel_rows) (defBody s_Kernel_rows) (defScope s_Kernel_rows) .none kV22 dc22 pm22 an22 cd22 ct22), sl22⟩) (c22 : PySem.W.codeIn K cd22 "Kernel.rows" = true) (k22 : PySem.W.keepIn K (.ref f22) = true)
    {f23 : Addr} {od23 an23 : Option Addr} {sl23 : Array (Option Value)} {oc23 dc23 pm23 cd23 ct23 : Value}
    {kV23 : Value}
    (a23 : PySem.W.findIn K (.ref C_Kernel) "settled" = some (some (.ref f23))) (i23 : PySem.W.isFn K (.ref f23) = true) (l23 : K.lookup f23 = some ⟨oc23, od23, .func (PySem.W.fnOf "settled" "Kernel.settled" (defArgs s_Kernel_settled) (defBody s_Kernel_settled) (defScope s_Kernel_settled) .none kV23 dc23 pm23 an23 cd23 ct23), sl23⟩) (c23 : PySem.W.codeIn K cd23 "Kernel.settled" = true) (k23 : PySem.W.keepIn K (.ref f23) = true)
    {f24 : Addr} {od24 an24 : Option Addr} {sl24 : Array (Option Value)} {oc24 dc24 pm24 cd24 ct24 : Value}
    {kV24 : Value}
    (a24 : PySem.W.findIn K (.ref C_Kernel) "fall" = some (some (.ref f24))) (i24 : PySem.W.isFn K (.ref f24) = true) (l24 : K.lookup f24 = some ⟨oc24, od24, .func (PySem.W.fnOf "fall" "Kernel.fall" (defArgs s_Kernel_fall) (defBody s_Kernel_fall) (defScope s_Kernel_fall) .none kV24 dc24 pm24 an24 cd24 ct24), sl24⟩) (c24 : PySem.W.codeIn K cd24 "Kernel.fall" = true) (k24 : PySem.W.keepIn K (.ref f24) = true)
    {f25 : Addr} {od25 an25 : Option Addr} {sl25 : Array (Option Value)} {oc25 dc25 pm25 cd25 ct25 : Value}
    {kV25 : Value}
    (a25 : PySem.W.findIn K (.ref C_Kernel) "wrote" = some (some (.ref f25))) (i25 : PySem.W.isFn K (.ref f25) = true) (l25 : K.lookup f25 = some ⟨oc25, od25, .func (PySem.W.fnOf "wrote" "Kernel.wrote" (defArgs s_Kernel_wrote) (defBody s_Kernel_wrote) (defScope s_Kernel_wrote) .none kV25 dc25 pm25 an25 cd25 ct25), sl25⟩) (c25 : PySem.W.codeIn K cd25 "Kernel.wrote" = true) (k25 : PySem.W.keepIn K (.ref f25) = true)
    {f26 : Addr} {od26 an26 : Option Addr} {sl26 : Array (Option Value)} {oc26 dc26 pm26 cd26 ct26 : Value}
    {kV26 : Value}
    (a26 : PySem.W.findIn K (.ref C_Kernel) "write_ask" = some (some (.ref f26))) (i26 : PySem.W.isFn K (.ref f26) = true) (l26 : K.lookup f26 = some ⟨oc26, od26, .func (PySem.W.fnOf "write_ask" "Kernel.write_ask" (defArgs s_Kernel_write_ask) (defBody s_Kernel_write_ask) (defScope s_Kernel_write_ask) .none kV26 dc26 pm26 an26 cd26 ct26), sl26⟩) (c26 : PySem.W.codeIn K cd26 "Kernel.write_ask" = true) (k26 : PySem.W.keepIn K (.ref f26) = true)
    {f27 : Addr} {od27 an27 : Option Addr} {sl27 : Array (Option Value)} {oc27 dc27 pm27 cd27 ct27 : Value}
    {kV27 : Value}
    (a27 : PySem.W.findIn K (.ref C_Kernel) "take_said" = some (some (.ref f27))) (i27 : PySem.W.isFn K (.ref f27) = true) (l27 : K.lookup f27 = some ⟨oc27, od27, .func (PySem.W.fnOf "take_said" "Kernel.take_said" (defArgs s_Kernel_take_said) (defBody s_Kernel_take_said) (defScope s_Kernel_take_said) .none kV27 dc27 pm27 an27 cd27 ct27), sl27⟩) (c27 : PySem.W.codeIn K cd27 "Kernel.take_said" = true) (k27 : PySem.W.keepIn K (.ref f27) = true)
    {f28 : Addr} {od28 an28 : Option Addr} {sl28 : Array (Option Value)} {oc28 dc28 pm28 cd28 ct28 : Value}
    {kV28 : Value}
    (a28 : PySem.W.nsIn K mainGlobals "_law_flow" = some (some (.ref f28))) (l28 : K.lookup f28 = some ⟨oc28, od28, .func (PySem.W.fnOf "_law_flow" "_law_flow" (defArgs s_law_flow) (defBody s_law_flow) (defScope s_law_flow) .none kV28 dc28 pm28 an28 cd28 ct28), sl28⟩) (c28 : PySem.W.codeIn K cd28 "_law_flow" = true) (k28 : PySem.W.keepIn K (.ref f28) = true)
    {f29 : Addr} {od29 an29 : Option Addr} {sl29 : Array (Option Value)} {oc29 dc29 pm29 cd29 ct29 : Value}
    {kV29 : Value}
    (a29 : PySem.W.nsIn K mainGlobals "_law_names" = some (some (.ref f29))) (l29 : K.lookup f29 = some ⟨oc29, od29, .func (PySem.W.fnOf "_law_names" "_law_names" (defArgs s_law_names) (defBody s_law_names) (defScope s_law_names) .none kV29 dc29 pm29 an29 cd29 ct29), sl29⟩) (c29 : PySem.W.codeIn K cd29 "_law_names" = true) (k29 : PySem.W.keepIn K (.ref f29) = true)
    {f30 : Addr} {od30 an30 : Option Addr} {sl30 : Array (Option Value)} {oc30 dc30 pm30 cd30 ct30 : Value}
    {kV30 : Value}
    (a30 : PySem.W.nsIn K mainGlobals "replayed" = some (some (.ref f30))) (l30 : K.lookup f30 = some ⟨oc30, od30, .func (PySem.W.fnOf "replayed" "replayed" (defArgs s_replayed) (defBody s_replayed) (defScope s_replayed) .none kV30 dc30 pm30 an30 cd30 ct30), sl30⟩) (c30 : PySem.W.codeIn K cd30 "replayed" = true) (k30 : PySem.W.keepIn K (.ref f30) = true)
    {f31 : Addr} {od31 an31 : Option Addr} {sl31 : Array (Option Value)} {oc31 dc31 pm31 cd31 ct31 : Value}
    {D31 : Addr}
    (a31 : PySem.W.findIn K (.ref C_Kernel) "__init__" = some (some (.ref f31))) (i31 : PySem.W.isFn K (.ref f31) = true) (l31 : K.lookup f31 = some ⟨oc31, od31, .func (PySem.W.fnOf "__init__" "Kernel.__init__" (defArgs s_Kernel___init__) (defBody s_Kernel___init__) (defScope s_Kernel___init__) .none (.ref D31) dc31 pm31 an31 cd31 ct31), sl31⟩) (c31 : PySem.W.codeIn K cd31 "Kernel.__init__" = true) (k31 : PySem.W.keepIn K (.ref f31) = true)
    {t31_lease : Tok} (q31_lease : PySem.W.nsIn K D31 "lease" = some (some (.int 6 t31_lease)))
    {t31_again : Tok} (q31_again : PySem.W.nsIn K D31 "again" = some (some (.int 3 t31_again)))
    {f32 : Addr} {od32 an32 : Option Addr} {sl32 : Array (Option Value)} {oc32 dc32 pm32 cd32 ct32 : Value}
    {kV32 : Value}
    (a32 : PySem.W.findIn K (.ref C_Kernel) "asked" = some (some (.ref f32))) (i32 : PySem.W.isFn K (.ref f32) = true) (l32 : K.lookup f32 = some ⟨oc32, od32, .func (PySem.W.fnOf "asked" "Kernel.asked" (defArgs s_Kernel_asked) (defBody s_Kernel_asked) (defScope s_Kernel_asked) .none kV32 dc32 pm32 an32 cd32 ct32), sl32⟩) (c32 : PySem.W.codeIn K cd32 "Kernel.asked" = true) (k32 : PySem.W.keepIn K (.ref f32) = true)
    {f33 : Addr} {od33 an33 : Option Addr} {sl33 : Array (Option Value)} {oc33 dc33 pm33 cd33 ct33 : Value}
    {kV33 : Value}
    (a33 : PySem.W.findIn K (.ref C_Kernel) "leave" = some (some (.ref f33))) (i33 : PySem.W.isFn K (.ref f33) = true) (l33 : K.lookup f33 = some ⟨oc33, od33, .func (PySem.W.fnOf "leave" "Kernel.leave" (defArgs s_Kernel_leave) (defBody s_Kernel_leave) (defScope s_Kernel_leave) .none kV33 dc33 pm33 an33 cd33 ct33), sl33⟩) (c33 : PySem.W.codeIn K cd33 "Kernel.leave" = true) (k33 : PySem.W.keepIn K (.ref f33) = true)
    {f34 : Addr} {od34 an34 : Option Addr} {sl34 : Array (Option Value)} {oc34 dc34 pm34 cd34 ct34 : Value}
    {kV34 : Value}
    (a34 : PySem.W.findIn K (.ref C_Kernel) "take" = some (some (.ref f34))) (i34 : PySem.W.isFn K (.ref f34) = true) (l34 : K.lookup f34 = some ⟨oc34, od34, .func (PySem.W.fnOf "take" "Kernel.take" (defArgs s_Kernel_take) (defBody s_Kernel_take) (defScope s_Kernel_take) .none kV34 dc34 pm34 an34 cd34 ct34), sl34⟩) (c34 : PySem.W.codeIn K cd34 "Kernel.take" = true) (k34 : PySem.W.keepIn K (.ref f34) = true)
    {f35 : Addr} {od35 an35 : Option Addr} {sl35 : Array (Option Value)} {oc35 dc35 pm35 cd35 ct35 : Value}
    {kV35 : Value}
    (a35 : PySem.W.nsIn K mainGlobals "table" = some (some (.ref f35))) (l35 : K.lookup f35 = some ⟨oc35, od35, .func (PySem.W.fnOf "table" "table" (defArgs s_table) (defBody s_table) (defScope s_table) .none kV35 dc35 pm35 an35 cd35 ct35), sl35⟩) (c35 : PySem.W.codeIn K cd35 "table" = true) (k35 : PySem.W.keepIn K (.ref f35) = true)
    {f36 : Addr} {od36 an36 : Option Addr} {sl36 : Array (Option Value)} {oc36 dc36 pm36 cd36 ct36 : Value}
    {kV36 : Value}
    (a36 : PySem.W.nsIn K mainGlobals "_law_heard" = some (some (.ref f36))) (l36 : K.lookup f36 = some ⟨oc36, od36, .func (PySem.W.fnOf "_law_heard" "_law_heard" (defArgs s_law_heard) (defBody s_law_heard) (defScope s_law_heard) .none kV36 dc36 pm36 an36 cd36 ct36), sl36⟩) (c36 : PySem.W.codeIn K cd36 "_law_heard" = true) (k36 : PySem.W.keepIn K (.ref f36) = true)
    {f37 : Addr} {od37 an37 : Option Addr} {sl37 : Array (Option Value)} {oc37 dc37 pm37 cd37 ct37 : Value}
    {kV37 : Value}
    (a37 : PySem.W.findIn K (.ref C_Kernel) "led" = some (some (.ref f37))) (i37 : PySem.W.isFn K (.ref f37) = true) (l37 : K.lookup f37 = some ⟨oc37, od37, .func (PySem.W.fnOf "led" "Kernel.led" (defArgs s_Kernel_led) (defBody s_Kernel_led) (defScope s_Kernel_led) .none kV37 dc37 pm37 an37 cd37 ct37), sl37⟩) (c37 : PySem.W.codeIn K cd37 "Kernel.led" = true) (k37 : PySem.W.keepIn K (.ref f37) = true)
    {f38 : Addr} {od38 an38 : Option Addr} {sl38 : Array (Option Value)} {oc38 dc38 pm38 cd38 ct38 : Value}
    {kV38 : Value}
    (a38 : PySem.W.findIn K (.ref C_Kernel) "want" = some (some (.ref f38))) (i38 : PySem.W.isFn K (.ref f38) = true) (l38 : K.lookup f38 = some ⟨oc38, od38, .func (PySem.W.fnOf "want" "Kernel.want" (defArgs s_Kernel_want) (defBody s_Kernel_want) (defScope s_Kernel_want) .none kV38 dc38 pm38 an38 cd38 ct38), sl38⟩) (c38 : PySem.W.codeIn K cd38 "Kernel.want" = true) (k38 : PySem.W.keepIn K (.ref f38) = true)
    {f39 : Addr} {od39 an39 : Option Addr} {sl39 : Array (Option Value)} {oc39 dc39 pm39 cd39 ct39 : Value}
    {kV39 : Value}
    (a39 : PySem.W.findIn K (.ref C_Kernel) "hand" = some (some (.ref f39))) (i39 : PySem.W.isFn K (.ref f39) = true) (l39 : K.lookup f39 = some ⟨oc39, od39, .func (PySem.W.fnOf "hand" "Kernel.hand" (defArgs s_Kernel_hand) (defBody s_Kernel_hand) (defScope s_Kernel_hand) .none kV39 dc39 pm39 an39 cd39 ct39), sl39⟩) (c39 : PySem.W.codeIn K cd39 "Kernel.hand" = true) (k39 : PySem.W.keepIn K (.ref f39) = true)
    {f40 : Addr} {od40 an40 : Option Addr} {sl40 : Array (Option Value)} {oc40 dc40 pm40 cd40 ct40 : Value}
    {kV40 : Value}
    (a40 : PySem.W.findIn K (.ref C_Kernel) "cut" = some (some (.ref f40))) (i40 : PySem.W.isFn K (.ref f40) = true) (l40 : K.lookup f40 = some ⟨oc40, od40, .func (PySem.W.fnOf "cut" "Kernel.cut" (defArgs s_Kernel_cut) (defBody s_Kernel_cut) (defScope s_Kernel_cut) .none kV40 dc40 pm40 an40 cd40 ct40), sl40⟩) (c40 : PySem.W.codeIn K cd40 "Kernel.cut" = true) (k40 : PySem.W.keepIn K (.ref f40) = true)
    {f41 : Addr} {od41 an41 : Option Addr} {sl41 : Array (Option Value)} {oc41 dc41 pm41 cd41 ct41 : Value}
    {kV41 : Value}
    (a41 : PySem.W.findIn K (.ref C_Kernel) "call" = some (some (.ref f41))) (i41 : PySem.W.isFn K (.ref f41) = true) (l41 : K.lookup f41 = some ⟨oc41, od41, .func (PySem.W.fnOf "call" "Kernel.call" (defArgs s_Kernel_call) (defBody s_Kernel_call) (defScope s_Kernel_call) .none kV41 dc41 pm41 an41 cd41 ct41), sl41⟩) (c41 : PySem.W.codeIn K cd41 "Kernel.call" = true) (k41 : PySem.W.keepIn K (.ref f41) = true)
    {f42 : Addr} {od42 an42 : Option Addr} {sl42 : Array (Option Value)} {oc42 dc42 pm42 cd42 ct42 : Value}
    {kV42 : Value}
    (a42 : PySem.W.nsIn K mainGlobals "_law_asked_one" = some (some (.ref f42))) (l42 : K.lookup f42 = some ⟨oc42, od42, .func (PySem.W.fnOf "_law_asked_one" "_law_asked_one" (defArgs s_law_asked_one) (defBody s_law_asked_one) (defScope s_law_asked_one) .none kV42 dc42 pm42 an42 cd42 ct42), sl42⟩) (c42 : PySem.W.codeIn K cd42 "_law_asked_one" = true) (k42 : PySem.W.keepIn K (.ref f42) = true)
    {f43 : Addr} {od43 an43 : Option Addr} {sl43 : Array (Option Value)} {oc43 dc43 pm43 cd43 ct43 : Value}
    {kV43 : Value}
    (a43 : PySem.W.nsIn K mainGlobals "law" = some (some (.ref f43))) (l43 : K.lookup f43 = some ⟨oc43, od43, .func (PySem.W.fnOf "law" "law" (defArgs s_law) (defBody s_law) (defScope s_law) .none kV43 dc43 pm43 an43 cd43 ct43), sl43⟩) (c43 : PySem.W.codeIn K cd43 "law" = true) (k43 : PySem.W.keepIn K (.ref f43) = true)
    (aC_Table : PySem.W.nsIn K mainGlobals "Table" = some (some (.ref C_Table))) (pg_Table : PySem.W.plainGet K C_Table Str.empty = true) (hd_Table : PySem.W.hasDictIn K C_Table = true) (po_Table : PySem.W.plainOver K C_Table = true) (sa_Table : PySem.W.findIn K (.ref C_Table) "__setattr__" = some (some (.builtin "object.__setattr__"))) (mk_Table : PySem.W.makesIn K C_Table = true) (kc_Table : PySem.W.keepIn K (.ref C_Table) = true)
    (aC_Stone : PySem.W.nsIn K mainGlobals "Stone" = some (some (.ref C_Stone))) (pg_Stone : PySem.W.plainGet K C_Stone Str.empty = true) (hd_Stone : PySem.W.hasDictIn K C_Stone = true) (po_Stone : PySem.W.plainOver K C_Stone = true) (sa_Stone : PySem.W.findIn K (.ref C_Stone) "__setattr__" = some (some (.builtin "object.__setattr__"))) (mk_Stone : PySem.W.makesIn K C_Stone = true) (kc_Stone : PySem.W.keepIn K (.ref C_Stone) = true)
    (aC_Kernel : PySem.W.nsIn K mainGlobals "Kernel" = some (some (.ref C_Kernel))) (pg_Kernel : PySem.W.plainGet K C_Kernel Str.empty = true) (hd_Kernel : PySem.W.hasDictIn K C_Kernel = true) (po_Kernel : PySem.W.plainOver K C_Kernel = true) (sa_Kernel : PySem.W.findIn K (.ref C_Kernel) "__setattr__" = some (some (.builtin "object.__setattr__"))) (mk_Kernel : PySem.W.makesIn K C_Kernel = true) (kc_Kernel : PySem.W.keepIn K (.ref C_Kernel) = true)
    (al_table_replay : PySem.W.nsIn K mainGlobals "table_replay" = some (some (.ref f35)))
    (nf_Table_used : PySem.W.findIn K (.ref C_Table) "used" = some none)
    (nf_Table_there : PySem.W.findIn K (.ref C_Table) "there" = some none)
    (nf_Table_known : PySem.W.findIn K (.ref C_Table) "known" = some none)
    (nf_Stone_written : PySem.W.findIn K (.ref C_Stone) "written" = some none)
    (nf_Stone_firm : PySem.W.findIn K (.ref C_Stone) "firm" = some none)
    (nf_Kernel_letters : PySem.W.findIn K (.ref C_Kernel) "letters" = some none)
    (nf_Kernel_house : PySem.W.findIn K (.ref C_Kernel) "house" = some none)
    (nf_Kernel_stone : PySem.W.findIn K (.ref C_Kernel) "stone" = some none)
    (nf_Kernel_kept : PySem.W.findIn K (.ref C_Kernel) "kept" = some none)
    (nf_Kernel_opened : PySem.W.findIn K (.ref C_Kernel) "opened" = some none)
    (nf_Kernel_plan : PySem.W.findIn K (.ref C_Kernel) "plan" = some none)
    (nf_Kernel_lease : PySem.W.findIn K (.ref C_Kernel) "lease" = some none)
    (nf_Kernel_every : PySem.W.findIn K (.ref C_Kernel) "every" = some none)
    (z_abs : PySem.W.nsIn K mainGlobals "abs" = some none)
    (z_bool : PySem.W.nsIn K mainGlobals "bool" = some none)
    (z_enumerate : PySem.W.nsIn K mainGlobals "enumerate" = some none)
    (z_int : PySem.W.nsIn K mainGlobals "int" = some none)
    (z_isinstance : PySem.W.nsIn K mainGlobals "isinstance" = some none)
    (z_len : PySem.W.nsIn K mainGlobals "len" = some none)
    (z_list : PySem.W.nsIn K mainGlobals "list" = some none)
    (z_max : PySem.W.nsIn K mainGlobals "max" = some none)
    (z_min : PySem.W.nsIn K mainGlobals "min" = some none)
    (z_range : PySem.W.nsIn K mainGlobals "range" = some none)
    (z_repr : PySem.W.nsIn K mainGlobals "repr" = some none)
    (z_sorted : PySem.W.nsIn K mainGlobals "sorted" = some none)
    (z_tuple : PySem.W.nsIn K mainGlobals "tuple" = some none)
    {t_AGAIN : Tok} (v_AGAIN : PySem.W.nsIn K mainGlobals "AGAIN" = some (some (.int 3 t_AGAIN))) :
    ∃ fd : FuncData, (∀ (s : Shared) (v : Value), BindsTo s fd ⟨[v], []⟩ [("_law_script", v)]) ∧ ∀ base : Heap, K.In base → base.Ns mainGlobals mg → FnG l.prog w K mg base CX0 8 fa fd ["_law_script"] (fun vs H Q E => ∀ cl, spOf ⟨K, cl, w⟩ 1 g_law vs H Q E) := by
  have e := hfa.symm.trans (PySem.W.mg_of X G a43)
  cases e
  have F0 := fun_mk (st := s_root_numbers) l0 c0 k0
  have F1 := fun_mk (st := s_Table___init__) l1 c1 k1
  have F2 := fun_mk (st := s_Table_free_place) l2 c2 k2
  have F3 := fun_mk (st := s_Table_leads) l3 c3 k3
  have F4 := fun_mk (st := s_Table_handles) l4 c4 k4
  have F5 := fun_mk (st := s_asks) l5 c5 k5
  have F6 := fun_mk (st := s_beings) l6 c6 k6
  have F7 := fun_mk (st := s_servant_at) l7 c7 k7
  have F8 := funV_mk (st := s_Stone___init__) l8 c8 k8
  have F9 := fun_mk (st := s_Stone_write) l9 c9 k9
  have F10 := fun_mk (st := s_Stone_settle) l10 c10 k10
  have F11 := fun_mk (st := s_Stone_fall) l11 c11 k11
  have F12 := fun_mk (st := s_Stone_rows) l12 c12 k12
  have F13 := fun_mk (st := s_Stone_settled) l13 c13 k13
  have F14 := fun_mk (st := s_Kernel_waits) l14 c14 k14
  have F15 := fun_mk (st := s_Kernel_say) l15 c15 k15
  have F16 := fun_mk (st := s_law_cell) l16 c16 k16
  have F17 := fun_mk (st := s_law_draw) l17 c17 k17
  have F18 := fun_mk (st := s_law_letter) l18 c18 k18
  have F19 := fun_mk (st := s_Table_put) l19 c19 k19
  have F20 := fun_mk (st := s_Table_drop) l20 c20 k20
  have F21 := fun_mk (st := s_first_rows) l21 c21 k21
  have F22 := fun_mk (st := s_Kernel_rows) l22 c22 k22
  have F23 := fun_mk (st := s_Kernel_settled) l23 c23 k23
  have F24 := fun_mk (st := s_Kernel_fall) l24 c24 k24
  have F25 := fun_mk (st := s_Kernel_wrote) l25 c25 k25
  have F26 := fun_mk (st := s_Kernel_write_ask) l26 c26 k26
  have F27 := fun_mk (st := s_Kernel_take_said) l27 c27 k27
  have F28 := fun_mk (st := s_law_flow) l28 c28 k28
  have F29 := fun_mk (st := s_law_names) l29 c29 k29
  have F30 := fun_mk (st := s_replayed) l30 c30 k30
  have F31 := fun_mk (st := s_Kernel___init__) l31 c31 k31
  have F32 := fun_mk (st := s_Kernel_asked) l32 c32 k32
  have F33 := fun_mk (st := s_Kernel_leave) l33 c33 k33
  have F34 := fun_mk (st := s_Kernel_take) l34 c34 k34
  have F35 := fun_mk (st := s_table) l35 c35 k35
  have F36 := fun_mk (st := s_law_heard) l36 c36 k36
  have F37 := fun_mk (st := s_Kernel_led) l37 c37 k37
  have F38 := fun_mk (st := s_Kernel_want) l38 c38 k38
  have F39 := fun_mk (st := s_Kernel_hand) l39 c39 k39
  have F40 := fun_mk (st := s_Kernel_cut) l40 c40 k40
  have F41 := fun_mk (st := s_Kernel_call) l41 c41 k41
  have F42 := fun_mk (st := s_law_asked_one) l42 c42 k42
  have F43 := fun_mk (st := s_law) l43 c43 k43
  have Q8 : FunD K "__init__" "Stone.__init__" (defArgs s_Stone___init__) (defBody s_Stone___init__) (defScope s_Stone___init__) [.ref T8_rows] [] f8 _ := ⟨⟨_, _, _, _, _, _, _, _, _, _, rfl, l8, c8, .inr ⟨by simp, P8, _, [.ref T8_rows], _, rfl, p8, rfl, .cons rfl (.nil)⟩, .inl rfl⟩, k8⟩
  obtain ⟨dw_Stone___init__, vw_Stone___init__, bw_Stone___init__⟩ := Q8.binds1 (ps := ["self", "rows"]) 2 1 (by simp) rfl (fun T kV doc pm an cdv ct us its l1 l2 => match us, its, l1, l2 with | [_, _], [_], _, _ => ⟨_, rfl, rfl⟩)
  cases vw_Stone___init__
  have Q31 : FunD K "__init__" "Kernel.__init__" (defArgs s_Kernel___init__) (defBody s_Kernel___init__) (defScope s_Kernel___init__) [] [("lease", .int 6), ("again", .int 3)] f31 _ := ⟨⟨_, _, _, _, _, _, _, _, _, _, rfl, l31, c31, .inl ⟨rfl, rfl⟩, .inr ⟨_, rfl, fun q hq => by
    simp only [List.mem_cons, List.not_mem_nil, or_false] at hq
    rcases hq with rfl | rfl
    · exact ⟨_, q31_lease, _, rfl⟩
    · exact ⟨_, q31_again, _, rfl⟩⟩⟩, k31⟩
  obtain ⟨dv_Kernel___init___2, vd_Kernel___init___2, bd_Kernel___init___2⟩ := Q31.binds0 (ps := ["self", "plan", "house", "lease", "again"]) 3 (by intro z; cases z) rfl (fun D doc pm an cdv ct us ks l1 l2 => match us, ks, l1, l2 with | [_, _, _], [_, _], _, _ => ⟨_, _, _, _, _, _, rfl, rfl, ⟨_, _, _, _, _, _, rfl, rfl, rfl⟩⟩)
  have Qkq31_again : FunD K "__init__" "Kernel.__init__" (defArgs s_Kernel___init__) (defBody s_Kernel___init__) (defScope s_Kernel___init__) [] [("lease", .int 6), ("again", .int 3)] f31 _ := ⟨⟨_, _, _, _, _, _, _, _, _, _, rfl, l31, c31, .inl ⟨rfl, rfl⟩, .inr ⟨_, rfl, fun q hq => by
    simp only [List.mem_cons, List.not_mem_nil, or_false] at hq
    rcases hq with rfl | rfl
    · exact ⟨_, q31_lease, _, rfl⟩
    · exact ⟨_, q31_again, _, rfl⟩⟩⟩, k31⟩
  obtain ⟨mv_kq31_again, kb_kq31_again⟩ := Qkq31_again.kbinds0 (ps := ["self", "plan", "house", "lease", "again"]) 3 ["again"] [("lease", .int 6)] (fun {α} (us mv ws : List α) => ([0, 1, 2, 4, 3] : List Nat).filterMap fun i => (us ++ (ws ++ mv))[i]?) (by intro z; cases z) (fun q hq => by simp only [List.mem_cons, List.not_mem_nil, or_false] at hq ⊢; simp [hq]) (fun r1 rm rz => vals_pick (r1.append (rz.append rm)) _) (fun D doc pm an cdv ct us mv ws l1 lm l2 => match us, mv, ws, l1, lm, l2 with | [_, _, _], [_], [_], _, _, _ => ⟨_, _, _, _, _, _, rfl, rfl, rfl⟩)
  let T : Tx K mg (fun i => if i = 3 then C_Kernel else (fun i => if i = 2 then C_Stone else (fun i => if i = 0 then C_Table else (fun _ => 0) i) i) i) := { a_root_numbers := _, d_root_numbers := _, f_root_numbers := F0, m_root_numbers := PySem.W.mg_of X G a0, b_root_numbers := F0.binds (ps := ["plan"]) (fun _ _ _ _ _ _ us hl => (match us, hl with | [_], _ => rfl)), a_Table___init__ := _, d_Table___init__ := _, f_Table___init__ := F1, b_Table___init__ := F1.binds (ps := ["self"]) (fun _ _ _ _ _ _ us hl => (match us, hl with | [_], _ => rfl)), a_Table_free_place := _, d_Table_free_place := _, f_Table_free_place := F2, me_Table_free_place := ⟨a2, i2, k2⟩, b_Table_free_place := F2.binds (ps := ["self"]) (fun _ _ _ _ _ _ us hl => (match us, hl with | [_], _ => rfl)), a_Table_leads := _, d_Table_leads := _, f_Table_leads := F3, me_Table_leads := ⟨a3, i3, k3⟩, b_Table_leads := F3.binds (ps := ["self", "handle"]) (fun _ _ _ _ _ _ us hl => (match us, hl with | [_, _], _ => rfl)), a_Table_handles := _, d_Table_handles := _, f_Table_handles := F4, me_Table_handles := ⟨a4, i4, k4⟩, b_Table_handles := F4.binds (ps := ["self"]) (fun _ _ _ _ _ _ us hl => (match us, hl with | [_], _ => rfl)), a_asks := _, d_asks := _, f_asks := F5, m_asks := PySem.W.mg_of X G a5, b_asks := F5.binds (ps := ["rows"]) (fun _ _ _ _ _ _ us hl => (match us, hl with | [_], _ => rfl)), a_beings := _, d_beings := _, f_beings := F6, m_beings := PySem.W.mg_of X G a6, b_beings := F6.binds (ps := ["plan"]) (fun _ _ _ _ _ _ us hl => (match us, hl with | [_], _ => rfl)), a_servant_at := _, d_servant_at := _, f_servant_at := F7, m_servant_at := PySem.W.mg_of X G a7, b_servant_at := F7.binds (ps := ["plan", "place"]) (fun _ _ _ _ _ _ us hl => (match us, hl with | [_, _], _ => rfl)), a_Stone___init__ := _, d_Stone___init__ := _, f_Stone___init__ := F8, b_Stone___init__ := bw_Stone___init__, a_Stone_write := _, d_Stone_write := _, f_Stone_write := F9, me_Stone_write := ⟨a9, i9, k9⟩, b_Stone_write := F9.binds (ps := ["self", "row"]) (fun _ _ _ _ _ _ us hl => (match us, hl with | [_, _], _ => rfl)), a_Stone_settle := _, d_Stone_settle := _, f_Stone_settle := F10, me_Stone_settle := ⟨a10, i10, k10⟩, b_Stone_settle := F10.binds (ps := ["self"]) (fun _ _ _ _ _ _ us hl => (match us, hl with | [_], _ => rfl)), a_Stone_fall := _, d_Stone_fall := _, f_Stone_fall := F11, me_Stone_fall := ⟨a11, i11, k11⟩, b_Stone_fall := F11.binds (ps := ["self", "kept"]) (fun _ _ _ _ _ _ us hl => (match us, hl with | [_, _], _ => rfl)), a_Stone_rows := _, d_Stone_rows := _, f_Stone_rows := F12, me_Stone_rows := ⟨a12, i12, k12⟩, b_Stone_rows := F12.binds (ps := ["self"]) (fun _ _ _ _ _ _ us hl => (match us, hl with | [_], _ => rfl)), a_Stone_settled := _, d_Stone_settled := _, f_Stone_settled := F13, me_Stone_settled := ⟨a13, i13, k13⟩, b_Stone_settled := F13.binds (ps := ["self"]) (fun _ _ _ _ _ _ us hl => (match us, hl with | [_], _ => rfl)), a_Kernel_waits := _, d_Kernel_waits := _, f_Kernel_waits := F14, me_Kernel_waits := ⟨a14, i14, k14⟩, b_Kernel_waits := F14.binds (ps := ["self"]) (fun _ _ _ _ _ _ us hl => (match us, hl with | [_], _ => rfl)), a_Kernel_say := _, d_Kernel_say := _, f_Kernel_say := F15, me_Kernel_say := ⟨a15, i15, k15⟩, b_Kernel_say := F15.binds (ps := ["self", "house", "what"]) (fun _ _ _ _ _ _ us hl => (match us, hl with | [_, _, _], _ => rfl)), a_law_cell := _, d_law_cell := _, f_law_cell := F16, m_law_cell := PySem.W.mg_of X G a16, b_law_cell := F16.binds (ps := ["_law_script", "_law_k"]) (fun _ _ _ _ _ _ us hl => (match us, hl with | [_, _], _ => rfl)), a_law_draw := _, d_law_draw := _, f_law_draw := F17, m_law_draw := PySem.W.mg_of X G a17, b_law_draw := F17.binds (ps := ["_law_flow_here", "_law_many"]) (fun _ _ _ _ _ _ us hl => (match us, hl with | [_, _], _ => rfl)), a_law_letter := _, d_law_letter := _, f_law_letter := F18, m_law_letter := PySem.W.mg_of X G a18, b_law_letter := F18.binds (ps := ["_law_house", "_law_count", "_law_what", "_law_opened"]) (fun _ _ _ _ _ _ us hl => (match us, hl with | [_, _, _, _], _ => rfl)), a_Table_put := _, d_Table_put := _, f_Table_put := F19, me_Table_put := ⟨a19, i19, k19⟩, b_Table_put := F19.binds (ps := ["self", "house", "number"]) (fun _ _ _ _ _ _ us hl => (match us, hl with | [_, _, _], _ => rfl)), a_Table_drop := _, d_Table_drop := _, f_Table_drop := F20, me_Table_drop := ⟨a20, i20, k20⟩, b_Table_drop := F20.binds (ps := ["self", "handle"]) (fun _ _ _ _ _ _ us hl => (match us, hl with | [_, _], _ => rfl)), a_first_rows := _, d_first_rows := _, f_first_rows := F21, m_first_rows := PySem.W.mg_of X G a21, b_first_rows := F21.binds (ps := ["plan", "house"]) (fun _ _ _ _ _ _ us hl => (match us, hl with | [_, _], _ => rfl)), a_Kernel_rows := _, d_Kernel_rows := _, f_Kernel_rows := F22, me_Kernel_rows := ⟨a22, i22, k22⟩, b_Kernel_rows := F22.binds (ps := ["self"]) (fun _ _ _ _ _ _ us hl => (match us, hl with | [_], _ => rfl)), a_Kernel_settled := _, d_Kernel_settled := _, f_Kernel_settled := F23, me_Kernel_settled := ⟨a23, i23, k23⟩, b_Kernel_settled := F23.binds (ps := ["self"]) (fun _ _ _ _ _ _ us hl => (match us, hl with | [_], _ => rfl)), a_Kernel_fall := _, d_Kernel_fall := _, f_Kernel_fall := F24, me_Kernel_fall := ⟨a24, i24, k24⟩, b_Kernel_fall := F24.binds (ps := ["self", "kept"]) (fun _ _ _ _ _ _ us hl => (match us, hl with | [_, _], _ => rfl)), a_Kernel_wrote := _, d_Kernel_wrote := _, f_Kernel_wrote := F25, me_Kernel_wrote := ⟨a25, i25, k25⟩, b_Kernel_wrote := F25.binds (ps := ["self", "row"]) (fun _ _ _ _ _ _ us hl => (match us, hl with | [_, _], _ => rfl)), a_Kernel_write_ask := _, d_Kernel_write_ask := _, f_Kernel_write_ask := F26, me_Kernel_write_ask := ⟨a26, i26, k26⟩, b_Kernel_write_ask := F26.binds (ps := ["self", "count", "what"]) (fun _ _ _ _ _ _ us hl => (match us, hl with | [_, _, _], _ => rfl)), a_Kernel_take_said := _, d_Kernel_take_said := _, f_Kernel_take_said := F27, me_Kernel_take_said := ⟨a27, i27, k27⟩, b_Kernel_take_said := F27.binds (ps := ["self", "sender", "what", "tick"]) (fun _ _ _ _ _ _ us hl => (match us, hl with | [_, _, _, _], _ => rfl)), a_law_flow := _, d_law_flow := _, f_law_flow := F28, m_law_flow := PySem.W.mg_of X G a28, b_law_flow := F28.binds (ps := ["_law_script", "_law_k"]) (fun _ _ _ _ _ _ us hl => (match us, hl with | [_, _], _ => rfl)), a_law_names := _, d_law_names := _, f_law_names := F29, m_law_names := PySem.W.mg_of X G a29, b_law_names := F29.binds (ps := ["_law_flow_here", "_law_many"]) (fun _ _ _ _ _ _ us hl => (match us, hl with | [_, _], _ => rfl)), a_replayed := _, d_replayed := _, f_replayed := F30, m_replayed := PySem.W.mg_of X G a30, b_replayed := F30.binds (ps := ["rows", "being"]) (fun _ _ _ _ _ _ us hl => (match us, hl with | [_, _], _ => rfl)), a_Kernel___init__ := _, d_Kernel___init__ := _, f_Kernel___init__ := F31, a_Kernel_asked := _, d_Kernel_asked := _, f_Kernel_asked := F32, me_Kernel_asked := ⟨a32, i32, k32⟩, b_Kernel_asked := F32.binds (ps := ["self", "tick", "what"]) (fun _ _ _ _ _ _ us hl => (match us, hl with | [_, _, _], _ => rfl)), a_Kernel_leave := _, d_Kernel_leave := _, f_Kernel_leave := F33, me_Kernel_leave := ⟨a33, i33, k33⟩, b_Kernel_leave := F33.binds (ps := ["self", "tick"]) (fun _ _ _ _ _ _ us hl => (match us, hl with | [_, _], _ => rfl)), a_Kernel_take := _, d_Kernel_take := _, f_Kernel_take := F34, me_Kernel_take := ⟨a34, i34, k34⟩, b_Kernel_take := F34.binds (ps := ["self", "sender", "what", "tick"]) (fun _ _ _ _ _ _ us hl => (match us, hl with | [_, _, _, _], _ => rfl)), a_table := _, d_table := _, f_table := F35, m_table := PySem.W.mg_of X G a35, b_table := F35.binds (ps := ["rows", "being"]) (fun _ _ _ _ _ _ us hl => (match us, hl with | [_, _], _ => rfl)), a_law_heard := _, d_law_heard := _, f_law_heard := F36, m_law_heard := PySem.W.mg_of X G a36, b_law_heard := F36.binds (ps := ["_law_flow_here", "_law_kernel", "_law_house", "_law_opened", "_law_tick"]) (fun _ _ _ _ _ _ us hl => (match us, hl with | [_, _, _, _, _], _ => rfl)), a_Kernel_led := _, d_Kernel_led := _, f_Kernel_led := F37, me_Kernel_led := ⟨a37, i37, k37⟩, b_Kernel_led := F37.binds (ps := ["self", "person", "handle"]) (fun _ _ _ _ _ _ us hl => (match us, hl with | [_, _, _], _ => rfl)), a_Kernel_want := _, d_Kernel_want := _, f_Kernel_want := F38, me_Kernel_want := ⟨a38, i38, k38⟩, b_Kernel_want := F38.binds (ps := ["self", "person", "handle", "tick"]) (fun _ _ _ _ _ _ us hl => (match us, hl with | [_, _, _, _], _ => rfl)), a_Kernel_hand := _, d_Kernel_hand := _, f_Kernel_hand := F39, me_Kernel_hand := ⟨a39, i39, k39⟩, b_Kernel_hand := F39.binds (ps := ["self", "person", "handle", "way", "rights", "far", "tick"]) (fun _ _ _ _ _ _ us hl => (match us, hl with | [_, _, _, _, _, _, _], _ => rfl)), a_Kernel_cut := _, d_Kernel_cut := _, f_Kernel_cut := F40, me_Kernel_cut := ⟨a40, i40, k40⟩, b_Kernel_cut := F40.binds (ps := ["self", "person", "own", "number", "tick"]) (fun _ _ _ _ _ _ us hl => (match us, hl with | [_, _, _, _, _], _ => rfl)), a_Kernel_call := _, d_Kernel_call := _, f_Kernel_call := F41, me_Kernel_call := ⟨a41, i41, k41⟩, b_Kernel_call := F41.binds (ps := ["self", "person", "way", "word", "what", "tick"]) (fun _ _ _ _ _ _ us hl => (match us, hl with | [_, _, _, _, _, _], _ => rfl)), a_law_asked_one := _, d_law_asked_one := _, f_law_asked_one := F42, m_law_asked_one := PySem.W.mg_of X G a42, b_law_asked_one := F42.binds (ps := ["_law_flow_here", "_law_kernel", "_law_names_here", "_law_tick"]) (fun _ _ _ _ _ _ us hl => (match us, hl with | [_, _, _, _], _ => rfl)), a_law := _, d_law := _, f_law := F43, m_law := PySem.W.mg_of X G a43, b_law := F43.binds (ps := ["_law_script"]) (fun _ _ _ _ _ _ us hl => (match us, hl with | [_], _ => rfl)), m_table_replay := PySem.W.mg_of X G al_table_replay, cls_Table := ⟨pg_Table, hd_Table, po_Table, sa_Table⟩, c_Table := PySem.W.mg_of X G aC_Table, cls_Stone := ⟨pg_Stone, hd_Stone, po_Stone, sa_Stone⟩, c_Stone := PySem.W.mg_of X G aC_Stone, cls_Kernel := ⟨pg_Kernel, hd_Kernel, po_Kernel, sa_Kernel⟩, c_Kernel := PySem.W.mg_of X G aC_Kernel, mk_Table := ⟨mk_Table, a1, i1, kc_Table⟩, mk_Stone := ⟨mk_Stone, a8, i8, kc_Stone⟩, mk_Kernel := ⟨mk_Kernel, a31, i31, kc_Kernel⟩, na_Table_used := nf_Table_used, na_Table_there := nf_Table_there, na_Table_known := nf_Table_known, na_Stone_written := nf_Stone_written, na_Stone_firm := nf_Stone_firm, na_Kernel_letters := nf_Kernel_letters, na_Kernel_house := nf_Kernel_house, na_Kernel_stone := nf_Kernel_stone, na_Kernel_kept := nf_Kernel_kept, na_Kernel_opened := nf_Kernel_opened, na_Kernel_plan := nf_Kernel_plan, na_Kernel_lease := nf_Kernel_lease, na_Kernel_every := nf_Kernel_every, dv_Kernel___init___2 := dv_Kernel___init___2, du_Kernel___init___2 := _, bd_Kernel___init___2 := bd_Kernel___init___2, vd_Kernel___init___2 := vd_Kernel___init___2, cd_Kernel___init___2 := fun w W H => ⟨_, _, rfl, rfl, ⟨_, _, rfl, rfl, rfl⟩⟩, kk_Kernel___init___3_again := ⟨_, _, kb_kq31_again, fun w W H ds zs vs ws r1 r2 => rpl_pick (r1.append (r2.append (show RpL _ W H [.int 6] _ from ⟨_, _, rfl, rfl, rfl⟩))) _⟩, n_abs := PySem.W.mg_none_of X G z_abs, n_bool := PySem.W.mg_none_of X G z_bool, n_enumerate := PySem.W.mg_none_of X G z_enumerate, n_int := PySem.W.mg_none_of X G z_int, n_isinstance := PySem.W.mg_none_of X G z_isinstance, n_len := PySem.W.mg_none_of X G z_len, n_list := PySem.W.mg_none_of X G z_list, n_max := PySem.W.mg_none_of X G z_max, n_min := PySem.W.mg_none_of X G z_min, n_range := PySem.W.mg_none_of X G z_range, n_repr := PySem.W.mg_none_of X G z_repr, n_sorted := PySem.W.mg_none_of X G z_sorted, n_tuple := PySem.W.mg_none_of X G z_tuple, v_AGAIN := ⟨_, PySem.W.mg_of X G v_AGAIN, _, rfl⟩ }
  exact ⟨_, fun s v => .of_eq rfl, fun base _ _ => (ok_law T).imp fun vs H Q E h => h _⟩
end K38
open PySem PySem.W PyProof.Rows
set_option maxHeartbeats 0 in
theorem PySem.Challenge.cw_grantchain_k38_letters_that_go_again_holds : PySem.Challenge.rw_grantchain_k38_letters_that_go_again.Holds := by
  w_on; o_law; k_head; (case hw => w_witness2)
  k_fill
  refine Fn.walk_ofG (l := PySem.Challenge.rw_grantchain_k38_letters_that_go_again) (n := 63) (k := 8) (x := "_law_script") (CX := fun _ => L2.CX0) (sp := fun w vs H Q E => ∀ cl, Fn.spOf ⟨_, cl, w⟩ 1 K38.g_law vs H Q E) rfl (by decide) rfl ⟨rfl, by decide, by decide⟩ (fun w h Y => PySem.W.kIn_of Y) ?F (fun w H a ns hl ho hS cl => Fn.law_end K38.law_holds hl ho hS) (fun _ _ _ _ _ h => h)
  case F =>
    intro w mg fa h KX G hmg
    refine' K38.all_mk KX G hmg ?a0 ?l0 ?c0 ?k0 ?a1 ?i1 ?l1 ?c1 ?k1 ?a2 ?i2 ?l2 ?c2 ?k2 ?a3 ?i3 ?l3 ?c3 ?k3 ?a4 ?i4 ?l4 ?c4 ?k4 ?a5 ?l5 ?c5 ?k5 ?a6 ?l6 ?c6 ?k6 ?a7 ?l7 ?c7 ?k7 ?a8 ?i8 ?l8 ?c8 ?k8 ?p8 ?t8_rows ?a9 ?i9 ?l9 ?c9 ?k9 ?a10 ?i10 ?l10 ?c10 ?k10 ?a11 ?i11 ?l11 ?c11 ?k11 ?a12 ?i12 ?l12 ?c12 ?k12 ?a13 ?i13 ?l13 ?c13 ?k13 ?a14 ?i14 ?l14 ?c14 ?k14 ?a15 ?i15 ?l15 ?c15 ?k15 ?a16 ?l16 ?c16 ?k16 ?a17 ?l17 ?c17 ?k17 ?a18 ?l18 ?c18 ?k18 ?a19 ?i19 ?l19 ?c19 ?k19 ?a20 ?i20 ?l20 ?c20 ?k20 ?a21 ?l21 ?c21 ?k21 ?a22 ?i22 ?l22 ?c22 ?k22 ?a23 ?i23 ?l23 ?c23 ?k23 ?a24 ?i24 ?l24 ?c24 ?k24 ?a25 ?i25 ?l25 ?c25 ?k25 ?a26 ?i26 ?l26 ?c26 ?k26 ?a27 ?i27 ?l27 ?c27 ?k27 ?a28 ?l28 ?c28 ?k28 ?a29 ?l29 ?c29 ?k29 ?a30 ?l30 ?c30 ?k30 ?a31 ?i31 ?l31 ?c31 ?k31 ?q31_lease ?q31_again ?a32 ?i32 ?l32 ?c32 ?k32 ?a33 ?i33 ?l33 ?c33 ?k33 ?a34 ?i34 ?l34 ?c34 ?k34 ?a35 ?l35 ?c35 ?k35 ?a36 ?l36 ?c36 ?k36 ?a37 ?i37 ?l37 ?c37 ?k37 ?a38 ?i38 ?l38 ?c38 ?k38 ?a39 ?i39 ?l39 ?c39 ?k39 ?a40 ?i40 ?l40 ?c40 ?k40 ?a41 ?i41 ?l41 ?c41 ?k41 ?a42 ?l42 ?c42 ?k42 ?a43 ?l43 ?c43 ?k43 ?aC_Table ?pg_Table ?hd_Table ?po_Table ?sa_Table ?mk_Table ?kc_Table ?aC_Stone ?pg_Stone ?hd_Stone ?po_Stone ?sa_Stone ?mk_Stone ?kc_Stone ?aC_Kernel ?pg_Kernel ?hd_Kernel ?po_Kernel ?sa_Kernel ?mk_Kernel ?kc_Kernel ?al_table_replay ?nf_Table_used ?nf_Table_there ?nf_Table_known ?nf_Stone_written ?nf_Stone_firm ?nf_Kernel_letters ?nf_Kernel_house ?nf_Kernel_stone ?nf_Kernel_kept ?nf_Kernel_opened ?nf_Kernel_plan ?nf_Kernel_lease ?nf_Kernel_every ?z_abs ?z_bool ?z_enumerate ?z_int ?z_isinstance ?z_len ?z_list ?z_max ?z_min ?z_range ?z_repr ?z_sorted ?z_tuple ?v_AGAIN
    (case aC_Table => k_is); (case aC_Stone => k_is); (case aC_Kernel => k_is); (case a0 => k_is); (case l0 => k_is); (case c0 => k_is); (case k0 => k_is); (case a1 => k_is); (case i1 => k_is); (case l1 => k_is); (case c1 => k_is); (case k1 => k_is); (case a2 => k_is); (case i2 => k_is); (case l2 => k_is); (case c2 => k_is); (case k2 => k_is); (case a3 => k_is); (case i3 => k_is); (case l3 => k_is); (case c3 => k_is); (case k3 => k_is); (case a4 => k_is); (case i4 => k_is); (case l4 => k_is); (case c4 => k_is); (case k4 => k_is); (case a5 => k_is); (case l5 => k_is); (case c5 => k_is); (case k5 => k_is); (case a6 => k_is); (case l6 => k_is); (case c6 => k_is); (case k6 => k_is); (case a7 => k_is); (case l7 => k_is); (case c7 => k_is); (case k7 => k_is); (case a8 => k_is); (case i8 => k_is); (case l8 => k_is); (case c8 => k_is); (case k8 => k_is); (case p8 => k_is); (case t8_rows => k_is); (case a9 => k_is); (case i9 => k_is); (case l9 => k_is); (case c9 => k_is); (case k9 => k_is); (case a10 => k_is); (case i10 => k_is); (case l10 => k_is); (case c10 => k_is); (case k10 => k_is); (case a11 => k_is); (case i11 => k_is); (case l11 => k_is); (case c11 => k_is); (case k11 => k_is); (case a12 => k_is); (case i12 => k_is); (case l12 => k_is); (case c12 => k_is); (case k12 => k_is); (case a13 => k_is); (case i13 => k_is); (case l13 => k_is); (case c13 => k_is); (case k13 => k_is); (case a14 => k_is); (case i14 => k_is); (case l14 => k_is); (case c14 => k_is); (case k14 => k_is); (case a15 => k_is); (case i15 => k_is); (case l15 => k_is); (case c15 => k_is); (case k15 => k_is); (case a16 => k_is); (case l16 => k_is); (case c16 => k_is); (case k16 => k_is); (case a17 => k_is); (case l17 => k_is); (case c17 => k_is); (case k17 => k_is); (case a18 => k_is); (case l18 => k_is); (case c18 => k_is); (case k18 => k_is); (case a19 => k_is); (case i19 => k_is); (case l19 => k_is); (case c19 => k_is); (case k19 => k_is); (case a20 => k_is); (case i20 => k_is); (case l20 => k_is); (case c20 => k_is); (case k20 => k_is); (case a21 => k_is); (case l21 => k_is); (case c21 => k_is); (case k21 => k_is); (case a22 => k_is); (case i22 => k_is); (case l22 => k_is); (case c22 => k_is); (case k22 => k_is); (case a23 => k_is); (case i23 => k_is); (case l23 => k_is); (case c23 => k_is); (case k23 => k_is); (case a24 => k_is); (case i24 => k_is); (case l24 => k_is); (case c24 => k_is); (case k24 => k_is); (case a25 => k_is); (case i25 => k_is); (case l25 => k_is); (case c25 => k_is); (case k25 => k_is); (case a26 => k_is); (case i26 => k_is); (case l26 => k_is); (case c26 => k_is); (case k26 => k_is); (case a27 => k_is); (case i27 => k_is); (case l27 => k_is); (case c27 => k_is); (case k27 => k_is); (case a28 => k_is); (case l28 => k_is); (case c28 => k_is); (case k28 => k_is); (case a29 => k_is); (case l29 => k_is); (case c29 => k_is); (case k29 => k_is); (case a30 => k_is); (case l30 => k_is); (case c30 => k_is); (case k30 => k_is); (case a31 => k_is); (case i31 => k_is); (case l31 => k_is); (case c31 => k_is); (case k31 => k_is); (case q31_lease => k_is); (case q31_again => k_is); (case a32 => k_is); (case i32 => k_is); (case l32 => k_is); (case c32 => k_is); (case k32 => k_is); (case a33 => k_is); (case i33 => k_is); (case l33 => k_is); (case c33 => k_is); (case k33 => k_is); (case a34 => k_is); (case i34 => k_is); (case l34 => k_is); (case c34 => k_is); (case k34 => k_is); (case a35 => k_is); (case l35 => k_is); (case c35 => k_is); (case k35 => k_is); (case a36 => k_is); (case l36 => k_is); (case c36 => k_is); (case k36 => k_is); (case a37 => k_is); (case i37 => k_is); (case l37 => k_is); (case c37 => k_is); (case k37 => k_is); (case a38 => k_is); (case i38 => k_is); (case l38 => k_is); (case c38 => k_is); (case k38 => k_is); (case a39 => k_is); (case i39 => k_is); (case l39 => k_is); (case c39 => k_is); (case k39 => k_is); (case a40 => k_is); (case i40 => k_is); (case l40 => k_is); (case c40 => k_is); (case k40 => k_is); (case a41 => k_is); (case i41 => k_is); (case l41 => k_is); (case c41 => k_is); (case k41 => k_is); (case a42 => k_is); (case l42 => k_is); (case c42 => k_is); (case k42 => k_is); (case a43 => k_is); (case l43 => k_is); (case c43 => k_is); (case k43 => k_is); (case pg_Table => k_is); (case hd_Table => k_is); (case po_Table => k_is); (case sa_Table => k_is); (case mk_Table => k_is); (case kc_Table => k_is); (case pg_Stone => k_is); (case hd_Stone => k_is); (case po_Stone => k_is); (case sa_Stone => k_is); (case mk_Stone => k_is); (case kc_Stone => k_is); (case pg_Kernel => k_is); (case hd_Kernel => k_is); (case po_Kernel => k_is); (case sa_Kernel => k_is); (case mk_Kernel => k_is); (case kc_Kernel => k_is); (case al_table_replay => k_is); (case nf_Table_used => k_is); (case nf_Table_there => k_is); (case nf_Table_known => k_is); (case nf_Stone_written => k_is); (case nf_Stone_firm => k_is); (case nf_Kernel_letters => k_is); (case nf_Kernel_house => k_is); (case nf_Kernel_stone => k_is); (case nf_Kernel_kept => k_is); (case nf_Kernel_opened => k_is); (case nf_Kernel_plan => k_is); (case nf_Kernel_lease => k_is); (case nf_Kernel_every => k_is); (case z_abs => k_is); (case z_bool => k_is); (case z_enumerate => k_is); (case z_int => k_is); (case z_isinstance => k_is); (case z_len => k_is); (case z_list => k_is); (case z_max => k_is); (case z_min => k_is); (case z_range => k_is); (case z_repr => k_is); (case z_sorted => k_is); (case z_tuple => k_is); (case v_AGAIN => k_is)
