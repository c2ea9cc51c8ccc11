import PyProof.Rows.All
import Wide.All
import OpenK.AllK
import Wide.FinOn
import HandS.ForMost
import KE.KDictKeyed
import HandS.Wide
import HandS.TupAny
import KE.DataEq
import KE.DataFind
import HandS.IsInst
import HandS.SortInts
import HandS.Zip
import HandS.Defaults
import KE.SortData
import HandS.Style
import HandS.MakeKwOnly
import KE.KUnpackStar
import PyProof.MakeMany
import HandS.SetFor
import HandS.Strs
import KE.DataCmp
import HandS.DictTup
import HandS.TupLen
import HandS.WordsDict
import HandS.Iter
import HandS.OwnEq
import OpenK.KOps
import HandS.Conv
import HandS.DictSubView
import HandS.Ends
import PyProof.ReprRoads
import PyProof.ReprLen
import HandS.RaiseMore
import HandS.ListItems
import HandS.Dict
import KE.GoesEnum
import HandS.Zip0
import HandS.Text
import KE.KDictZip
import KE.KItemsList
import PyProof.Seq
import HandS.SetKeys
import HandS.Flow
import HandS.More
import KE.GoesMore
import HandS.DictComp
import HandS.Exc
import HandS.TupMul
import HandS.SetTxt0
import HandS.Sort
import KE.KDictPairs
import HandS.DeepEq
import PyProof.NeKinds
import KE.KDictItemsList
import PySem.Challenge.RW_grantchain_k21_tables_by_rows
set_option Elab.async false
set_option linter.all false
set_option maxRecDepth 100000
set_option maxHeartbeats 1000000
namespace Fn
open PySem PySem.Spec PyProof.Rows L2
abbrev Txt := List Nat
def l2s (l : List Nat) : Str := ⟨l.toArray⟩
def s2l (x : Str) : List Nat := x.cps.toList
theorem l2s_s2l (x : Str) : l2s (s2l x) = x := by cases x with | mk c => simp [l2s, s2l]
theorem s2l_l2s (l : List Nat) : s2l (l2s l) = l := by simp [l2s, s2l]
theorem l2s_inj {a b : List Nat} (h : l2s a = l2s b) : a = b := by have := congrArg s2l h; rwa [s2l_l2s, s2l_l2s] at this
/-- a key of a dict -/
abbrev KK := Sum Int (List Nat)
def kk : KK → Key
  | .inl i => .inl i
  | .inr l => .inr (l2s l)
theorem kk_inj {a b : KK} (h : kk a = kk b) : a = b := by
  cases a <;> cases b
  · exact congrArg Sum.inl (Sum.inl.inj h)
  · cases h
  · cases h
  · exact congrArg Sum.inr (l2s_inj (Sum.inr.inj h))
/-- a key of a dict whose keys are nested tuples -/
inductive NK where
  | int (i : Int) | str (x : List Nat) | non | tup (l : List NK)
mutual
def nk : NK → NestedKey
  | .int i => .num i
  | .str x => .text (l2s x)
  | .non => .none
  | .tup l => .tup (nkL l)
def nkL : List NK → List NestedKey
  | [] => []
  | k :: r => nk k :: nkL r
end
mutual
theorem nk_inj : ∀ (a b : NK), nk a = nk b → a = b
  | .int i, b, h => by cases b <;> simp only [nk, NestedKey.num.injEq, reduceCtorEq] at h; rw [h]
  | .str x, b, h => by cases b <;> simp only [nk, NestedKey.text.injEq, reduceCtorEq] at h; rw [l2s_inj h]
  | .non, b, h => by cases b <;> simp only [nk, reduceCtorEq] at h; rfl
  | .tup l, b, h => by cases b <;> simp only [nk, NestedKey.tup.injEq, reduceCtorEq] at h; rw [nkL_inj _ _ h]
theorem nkL_inj : ∀ (a b : List NK), nkL a = nkL b → a = b
  | [], b, h => by cases b <;> simp only [nkL, reduceCtorEq] at h; rfl
  | x :: a, b, h => by
    cases b with
    | nil => simp only [nkL, reduceCtorEq] at h
    | cons y b => simp only [nkL, List.cons.injEq] at h; rw [nk_inj _ _ h.1, nkL_inj _ _ h.2]
end
instance : DecidableEq NK := fun a b => decidable_of_iff (nk a = nk b) ⟨nk_inj a b, fun e => by rw [e]⟩
/-- a value: what never changes is a tree; a changing object is a cell of the memory -/
inductive D where
  | non | bl (b : Bool) | int (i : Int) | str (x : List Nat) | tup (l : List D) | lst (l : List D) | fz (l : List D) | ref (i : Nat) | ct (l : List D)
inductive Cell where
  | lst (l : List D)
  | dk (lk : Bool) (kvs : List (KK × D))
  | dt (lk : Bool) (kvs : List (List KK × D))
  | dn (lk : Bool) (kvs : List (NK × D))
  | ins (c : Nat) (fs : List (Str × D))
abbrev Mem := List Cell
abbrev Env := List (Option D)
inductive R (α : Type) where
  | ok (a : α) (m : Mem)
  | ex (c : Nat) (fs : List (Str × D)) (m : Mem)
  | no
def R.bind {α β : Type} (r : R α) (k : α → Mem → R β) : R β := match r with
  | .ok a m => k a m
  | .ex c fs m => .ex c fs m
  | .no => .no
@[simp] theorem R.bind_ok {α β : Type} (a : α) (m : Mem) (k : α → Mem → R β) : (R.ok a m).bind k = k a m := rfl
@[simp] theorem R.bind_ex {α β : Type} (c : Nat) (fs : List (Str × D)) (m : Mem) (k : α → Mem → R β) : (R.ex c fs m : R α).bind k = .ex c fs m := rfl
@[simp] theorem R.bind_no {α β : Type} (k : α → Mem → R β) : (R.no : R α).bind k = .no := rfl
/-- the world of addresses: the cells', and hidden ones -/
structure Wd where
  as : List Addr
  hd : List Addr
/-- the context: the written part, the classes -/
structure Gx where
  K : PySem.W.Frag
  cl : Nat → Addr
  w : World
section
variable (G : Gx) (W : Wd) (H : Hp)
def InK (a : Addr) (us : List V) : Prop := ∃ (o : Obj) (its : Array Value) (n : Nat), G.K.lookup a = some o ∧ o.cls = .type "list" ∧ o.dict = none ∧ o.data = .seq its n ∧ its.size ≤ sizeLine ∧ Vals us its.toList
def LstAt (a : Addr) (us : List V) : Prop := H a = some (.lst us) ∧ a ∉ W.as ∧ a ∉ W.hd
def FzAt (a : Addr) (us : List V) : Prop := (∃ o, H a = some (.frz o (.lst us))) ∨ InK G a us
/-- a tuple of which is known that it has no dict of its own -/
def CtAt (a : Addr) (us : List V) : Prop := ∃ o, H a = some (.frz o (.tup us)) ∧ o.dict = none
/-- a tuple of the heap (so it may be a key); an empty one may be written -/
def TupAt (a : Addr) (l : List D) (us : List V) : Prop := H a = some (.tup us) ∨ (l = [] ∧ SqT G.K H a us)
mutual
def Rp : D → V → Prop
  | .non, u => u = .non
  | .bl b, u => u = .bl b
  | .int i, u => u = .int i
  | .str x, u => u = .str (l2s x)
  | .tup l, u => ∃ a us, u = .ref a ∧ TupAt G H a l us ∧ RpL l us
  | .lst l, u => ∃ a us, u = .ref a ∧ LstAt W H a us ∧ RpL l us
  | .fz l, u => ∃ a us, u = .ref a ∧ FzAt G H a us ∧ RpL l us
  | .ref i, u => ∃ a, W.as[i]? = some a ∧ u = .ref a
  | .ct l, u => ∃ a us, u = .ref a ∧ CtAt H a us ∧ RpL l us
def RpL : List D → List V → Prop
  | [], us => us = []
  | d :: r, us => ∃ u us', us = u :: us' ∧ Rp d u ∧ RpL r us'
end
theorem CtAt.sq {K : PySem.W.Frag} {H : Hp} {a : Addr} {us : List V} (h : CtAt H a us) : SqT K H a us := by
  obtain ⟨o, h, _⟩ := h
  exact .inl (.inr ⟨o, h⟩)
theorem TupAt.sq {G : Gx} {H : Hp} {a : Addr} {l : List D} {us : List V} (h : TupAt G H a l us) : SqT G.K H a us := by
  rcases h with h | h
  · exact .inl (.inl h)
  · exact h.2
def RpK {κ κ' : Type} (f : κ → κ') : List (κ × D) → List (κ' × V) → Prop := Paired fun p q => f p.1 = q.1 ∧ Rp G W H p.2 q.2
def nkEntry (w : World) (x : NestedKey × Addr × Value) : DictEntry := ⟨x.1.hash w, .ref x.2.1, x.2.2⟩
/-- a dict with nested tuples as keys: the keys, where they stand, the values -/
def NdO (w : World) (a : Addr) (es : List (NestedKey × Addr × V)) : HO := .ext fun h => es.length ≤ sizeLine ∧ (a == sysModules) = false ∧
  ∃ xs : List (NestedKey × Addr × Value), Paired (fun (p : NestedKey × Addr × V) (q : NestedKey × Addr × Value) => p.1 = q.1 ∧ p.2.1 = q.2.1 ∧ RelV p.2.2 q.2.2) es xs ∧
  ∃ o arr ep, h.get? a = some o ∧ o.ExactDict ∧ o.data = .dict arr ep ∧ arr.toList = xs.map (nkEntry w) ∧ (xs.map (·.1)).Nodup
mutual
/-- at the value stands the key -/
def NkAt (H : Hp) : NK → V → Prop
  | .int i, u => u = .int i
  | .str x, u => u = .str (l2s x)
  | .non, u => u = .non
  | .tup l, u => ∃ a us, u = .ref a ∧ H a = some (.tup us) ∧ NkAtL H l us
def NkAtL (H : Hp) : List NK → List V → Prop
  | [], us => us = []
  | k :: r, us => ∃ u us', us = u :: us' ∧ NkAt H k u ∧ NkAtL H r us'
end
mutual
def nkDep : NK → Nat
  | .tup l => nkDepL l + 1
  | _ => 0
def nkDepL : List NK → Nat
  | [] => 0
  | k :: r => max (nkDep k) (nkDepL r)
end
def RpN : List (NK × D) → List (NestedKey × Addr × V) → Prop := Paired fun p q => nk p.1 = q.1 ∧ nkDep p.1 ≤ 8 ∧ NkAt H p.1 (.ref q.2.1) ∧ Rp G W H p.2 q.2.2
def CellOk (a : Addr) : Cell → Prop
  | .lst l => ∃ us, H a = some (.lst us) ∧ RpL G W H l us
  | .dk lk kvs => ∃ vs, (if lk = true then ∃ o, H a = some (.frz o (.dK vs)) else H a = some (.dK vs)) ∧ RpK G W H kk kvs vs
  | .dt lk kvs => ∃ vs, (if lk = true then ∃ o, H a = some (.frz o (.dT vs)) else H a = some (.dT vs)) ∧ RpK G W H (List.map kk) kvs vs
  | .dn lk kvs => ∃ es, (if lk = true then ∃ o, H a = some (.frz o (NdO G.w a es)) else H a = some (NdO G.w a es)) ∧ RpN G W H kvs es
  | .ins c fs => ∃ dx vs, H a = some (.ins (G.cl c) dx vs) ∧ RpK G W H id fs vs
structure MemOk (M : Mem) : Prop where
  len : W.as.length = M.length
  nd : W.as.Nodup
  cell : ∀ (i : Nat) c a, M[i]? = some c → W.as[i]? = some a → CellOk G W H a c
  apart : ∀ a ∈ W.as, a ∉ W.hd
  hid : ∀ a ∈ W.hd, ∃ o, H a = some o
def EnvOk (env : Env) (σ : L2.St) : Prop := env.length = σ.length ∧ ∀ (i : Nat) d, env[i]? = some (some d) → ∃ u, σ[i]? = some (some u) ∧ Rp G W H d u
end
/-- the heap goes on -/
structure Fut (W : Wd) (H : Hp) (W' : Wd) (H' : Hp) : Prop where
  ext : ∃ new, W'.as = W.as ++ new ∧ ∀ a ∈ new, H a = none ∧ a ∉ W.as
  hd : W'.hd = W.hd
  keep : ∀ a o, H a = some o → a ∉ W.as → H' a = some o
  lk : ∀ a od u, H a = some (.frz od u) → H' a = some (.frz od u)
theorem Fut.rfl' {W : Wd} {H : Hp} : Fut W H W H := ⟨⟨[], by simp, by simp⟩, rfl, fun _ _ e _ => e, fun _ _ _ e => e⟩
theorem Fut.nin {W W1 : Wd} {H H1 : Hp} (a : Fut W H W1 H1) {x : Addr} {o : HO} (e : H x = some o) (hx : x ∉ W.as) : x ∉ W1.as := by
  obtain ⟨n1, e1, f1⟩ := a.ext
  rw [e1]
  intro z
  rcases List.mem_append.mp z with z | z
  · exact hx z
  · rw [(f1 x z).1] at e; cases e
theorem Fut.nhd {W W1 : Wd} {H H1 : Hp} (a : Fut W H W1 H1) {x : Addr} {o : HO} (e : H x = some o) (hx : x ∉ W.hd) : x ∉ W1.hd := by rw [a.hd]; exact hx
theorem Fut.old {W W1 : Wd} {H H1 : Hp} (a : Fut W H W1 H1) {x : Addr} (h1 : H1 x = none) (hx : x ∉ W.as) : H x = none := by
  cases q : H x with
  | none => rfl
  | some o =>
    have := a.keep x o q hx
    rw [h1] at this; cases this
theorem Fut.sub {W W1 : Wd} {H H1 : Hp} (a : Fut W H W1 H1) {x : Addr} (hx : x ∉ W1.as) : x ∉ W.as := fun zz => by
  obtain ⟨n1, e1, f1⟩ := a.ext
  exact hx (by rw [e1]; exact List.mem_append_left _ zz)
theorem Fut.trans {W W1 W2 : Wd} {H H1 H2 : Hp} (a : Fut W H W1 H1) (b : Fut W1 H1 W2 H2) : Fut W H W2 H2 := by
  obtain ⟨n1, e1, f1⟩ := a.ext
  obtain ⟨n2, e2, f2⟩ := b.ext
  refine ⟨⟨n1 ++ n2, by rw [e2, e1, List.append_assoc], fun x hx => ?_⟩, b.hd.trans a.hd, fun x o e hx => b.keep x o (a.keep x o e hx) (a.nin e hx), fun x od u e => b.lk x od u (a.lk x od u e)⟩
  · rcases List.mem_append.mp hx with z | z
    · exact f1 x z
    · have n1' := a.sub (f2 x z).2
      exact ⟨a.old (f2 x z).1 n1', n1'⟩
theorem Fut.get {W W1 : Wd} {H H1 : Hp} (a : Fut W H W1 H1) {i : Nat} {x : Addr} (h : W.as[i]? = some x) : W1.as[i]? = some x := by
  obtain ⟨n1, e1, _⟩ := a.ext
  rw [e1]
  rw [List.getElem?_append_left]
  · exact h
  · have := List.getElem?_eq_some_iff.mp h
    exact this.1
theorem LstAt.fut {W W' : Wd} {H H' : Hp} (f : Fut W H W' H') {a : Addr} {us : List V} (h : LstAt W H a us) : LstAt W' H' a us :=
  ⟨f.keep _ _ h.1 h.2.1, f.nin h.1 h.2.1, f.nhd h.1 h.2.2⟩
/-- what is a tuple, or a frozen list -/
def Still (o : HO) : Prop := match o with
  | .tup _ => True
  | .frz _ (.tup _) => True
  | .frz _ (.lst _) => True
  | _ => False
/-- no cell is a tuple -/
theorem MemOk.nt {G : Gx} {W : Wd} {H : Hp} {M : Mem} (m : MemOk G W H M) : ∀ a o, H a = some o → Still o → a ∉ W.as := by
  intro a o h st ha
  obtain ⟨i, hi⟩ := List.getElem?_of_mem ha
  have hl : i < M.length := by
    rw [← m.len]
    exact (List.getElem?_eq_some_iff.mp hi).1
  have c := m.cell i _ a (List.getElem?_eq_getElem hl) hi
  cases e : M[i] with
  | lst l =>
    rw [e] at c
    obtain ⟨vs, q, _⟩ := c
    rw [h] at q; cases q; exact st
  | dk lk kvs =>
    rw [e] at c
    obtain ⟨vs, q, _⟩ := c
    cases lk
    · have q' : H a = some (.dK vs) := q
      rw [h] at q'; cases q'; exact st
    · obtain ⟨o', q'⟩ : ∃ o, H a = some (.frz o (.dK vs)) := q
      rw [h] at q'; cases q'; exact st
  | dt lk kvs =>
    rw [e] at c
    obtain ⟨vs, q, _⟩ := c
    cases lk
    · have q' : H a = some (.dT vs) := q
      rw [h] at q'; cases q'; exact st
    · obtain ⟨o', q'⟩ : ∃ o, H a = some (.frz o (.dT vs)) := q
      rw [h] at q'; cases q'; exact st
  | dn lk kvs =>
    rw [e] at c
    obtain ⟨vs, q, _⟩ := c
    cases lk
    · have q' : H a = some (NdO G.w a vs) := q
      rw [h] at q'; cases q'; exact st
    · obtain ⟨o', q'⟩ : ∃ o, H a = some (.frz o (NdO G.w a vs)) := q
      rw [h] at q'; cases q'; exact st
  | ins c0 fs =>
    rw [e] at c
    obtain ⟨dx, vs, q, _⟩ := c
    rw [h] at q; cases q; exact st
/-- what makes a value's form stay -/
structure Kp (W : Wd) (H : Hp) (W' : Wd) (H' : Hp) : Prop where
  get : ∀ (i : Nat) a, W.as[i]? = some a → W'.as[i]? = some a
  keep : ∀ a o, H a = some o → a ∉ W.as → a ∉ W.hd → H' a = some o
  still : ∀ a o, H a = some o → Still o → H' a = some o
  out : ∀ a o, H a = some o → a ∉ W.as → a ∉ W.hd → a ∉ W'.as ∧ a ∉ W'.hd
theorem Kp.trans {W W1 W2 : Wd} {H H1 H2 : Hp} (a : Kp W H W1 H1) (b : Kp W1 H1 W2 H2) : Kp W H W2 H2 :=
  ⟨fun i x h => b.get i x (a.get i x h), fun x o e h1 h2 => b.keep x o (a.keep x o e h1 h2) (a.out x o e h1 h2).1 (a.out x o e h1 h2).2, fun x o e st => b.still x o (a.still x o e st) st,
   fun x o e h1 h2 => b.out x o (a.keep x o e h1 h2) (a.out x o e h1 h2).1 (a.out x o e h1 h2).2⟩
theorem Fut.kp {G : Gx} {W W' : Wd} {H H' : Hp} {M : Mem} (f : Fut W H W' H') (m : MemOk G W H M) : Kp W H W' H' :=
  ⟨fun _ _ h => f.get h, fun a o e h1 _ => f.keep a o e h1, fun a o e st => f.keep a o e (m.nt a o e st), fun a o e h1 h2 => ⟨f.nin e h1, f.nhd e h2⟩⟩
mutual
theorem Rp.kp {G : Gx} {W W' : Wd} {H H' : Hp} (k : Kp W H W' H') : ∀ (d : D) (u : V), Rp G W H d u → Rp G W' H' d u
  | .non, u, h => h
  | .bl b, u, h => h
  | .int i, u, h => h
  | .str x, u, h => h
  | .tup l, u, h => by
    obtain ⟨a, us, e, s, r⟩ := h
    refine ⟨a, us, e, ?_, RpL.kp k l us r⟩
    rcases s with s | ⟨h, (s | ⟨o, s⟩) | s⟩
    · exact .inl (k.still _ _ s trivial)
    · exact .inr ⟨h, .inl (.inl (k.still _ _ s trivial))⟩
    · exact .inr ⟨h, .inl (.inr ⟨o, k.still _ _ s trivial⟩)⟩
    · exact .inr ⟨h, .inr s⟩
  | .lst l, u, h => by
    obtain ⟨a, us, e, s, r⟩ := h
    exact ⟨a, us, e, ⟨k.keep _ _ s.1 s.2.1 s.2.2, k.out _ _ s.1 s.2.1 s.2.2⟩, RpL.kp k l us r⟩
  | .fz l, u, h => by
    obtain ⟨a, us, e, s, r⟩ := h
    refine ⟨a, us, e, ?_, RpL.kp k l us r⟩
    rcases s with ⟨o, s⟩ | s
    · exact .inl ⟨o, k.still _ _ s trivial⟩
    · exact .inr s
  | .ref i, u, h => by
    obtain ⟨a, e, r⟩ := h
    exact ⟨a, k.get _ _ e, r⟩
  | .ct l, u, h => by
    obtain ⟨a, us, e, ⟨o, s, z⟩, r⟩ := h
    exact ⟨a, us, e, ⟨o, k.still _ _ s trivial, z⟩, RpL.kp k l us r⟩
theorem RpL.kp {G : Gx} {W W' : Wd} {H H' : Hp} (k : Kp W H W' H') : ∀ (l : List D) (us : List V), RpL G W H l us → RpL G W' H' l us
  | [], us, h => h
  | d :: r, us, h => by
    obtain ⟨u, us', e, h1, h2⟩ := h
    exact ⟨u, us', e, Rp.kp k d u h1, RpL.kp k r us' h2⟩
end
mutual
theorem NkAt.kp {W W' : Wd} {H H' : Hp} (k : Kp W H W' H') : ∀ (d : NK) (u : V), NkAt H d u → NkAt H' d u
  | .int i, u, h => h
  | .str i, u, h => h
  | .non, u, h => h
  | .tup l, u, h => by
    obtain ⟨a, us, e, s, r⟩ := h
    exact ⟨a, us, e, k.still _ _ s trivial, NkAtL.kp k l us r⟩
theorem NkAtL.kp {W W' : Wd} {H H' : Hp} (k : Kp W H W' H') : ∀ (l : List NK) (us : List V), NkAtL H l us → NkAtL H' l us
  | [], us, h => h
  | d :: r, us, h => by
    obtain ⟨u, us', e, h1, h2⟩ := h
    exact ⟨u, us', e, NkAt.kp k d u h1, NkAtL.kp k r us' h2⟩
end
theorem RpN.kp {G : Gx} {W W' : Wd} {H H' : Hp} (k : Kp W H W' H') : ∀ {l : List (NK × D)} {es : List (NestedKey × Addr × V)}, RpN G W H l es → RpN G W' H' l es
  | _, _, .nil => .nil
  | _, _, .cons h t => .cons ⟨h.1, h.2.1, NkAt.kp k _ _ h.2.2.1, Rp.kp k _ _ h.2.2.2⟩ (RpN.kp k t)
theorem MemOk.rp {G : Gx} {W W' : Wd} {H H' : Hp} {M : Mem} (m : MemOk G W H M) (f : Fut W H W' H') {d : D} {u : V} (h : Rp G W H d u) : Rp G W' H' d u := Rp.kp (f.kp m) d u h
theorem MemOk.rpL {G : Gx} {W W' : Wd} {H H' : Hp} {M : Mem} (m : MemOk G W H M) (f : Fut W H W' H') {d : List D} {u : List V} (h : RpL G W H d u) : RpL G W' H' d u := RpL.kp (f.kp m) d u h
theorem EnvOk.fut {G : Gx} {W W' : Wd} {H H' : Hp} {M : Mem} {env : Env} {σ : L2.St} (h : EnvOk G W H env σ) (m : MemOk G W H M) (f : Fut W H W' H') : EnvOk G W' H' env σ :=
  ⟨h.1, fun i d e => let ⟨u, h1, h2⟩ := h.2 i d e; ⟨u, h1, m.rp f h2⟩⟩
theorem EnvOk.kp {G : Gx} {W W' : Wd} {H H' : Hp} {env : Env} {σ : L2.St} (h : EnvOk G W H env σ) (k : Kp W H W' H') : EnvOk G W' H' env σ :=
  ⟨h.1, fun i d e => let ⟨u, h1, h2⟩ := h.2 i d e; ⟨u, h1, Rp.kp k _ _ h2⟩⟩
def XOk (G : Gx) (W : Wd) (H : Hp) (d : Addr) (fs : List (Str × D)) : Prop := ∃ vs, H d = some (.xd vs) ∧ RpK G W H id fs vs
def PX (G : Gx) (W : Wd) (H : Hp) (E : XK) (c : Nat) (fs : List (Str × D)) (m : Mem) : Prop := ∀ W' d H', Fut W H W' H' → MemOk G W' H' m → XOk G W' H' d fs → E (.ref (G.cl c)) (some d) H'
def PR {α : Type} (G : Gx) (W : Wd) (H : Hp) (K : α → Mem → Wd → Hp → Prop) (E : XK) : R α → Prop
  | .ok a m => ∀ W' H', Fut W H W' H' → MemOk G W' H' m → K a m W' H'
  | .ex c fs m => PX G W H E c fs m
  | .no => False
theorem PX.fut {G : Gx} {W W' : Wd} {H H' : Hp} {E : XK} {c : Nat} {fs : List (Str × D)} {m : Mem} (f : Fut W H W' H') (h : PX G W H E c fs m) : PX G W' H' E c fs m := fun W2 d H2 f2 => h W2 d H2 (f.trans f2)
theorem PR.fut {α : Type} {G : Gx} {W W' : Wd} {H H' : Hp} {K : α → Mem → Wd → Hp → Prop} {E : XK} (f : Fut W H W' H') : ∀ {r : R α}, PR G W H K E r → PR G W' H' K E r
  | .ok a m, h => fun W2 H2 f2 => h W2 H2 (f.trans f2)
  | .ex c fs m, h => PX.fut f h
  | .no, h => h
theorem PR.mono {α : Type} {G : Gx} {W : Wd} {H : Hp} {K K' : α → Mem → Wd → Hp → Prop} {E : XK} : ∀ {r : R α}, PR G W H K E r → (∀ a m W' H', Fut W H W' H' → MemOk G W' H' m → K a m W' H' → K' a m W' H') → PR G W H K' E r
  | .ok a m, h, k => fun W2 H2 f2 m2 => k a m W2 H2 f2 m2 (h W2 H2 f2 m2)
  | .ex c fs m, h, _ => h
  | .no, h, _ => h
/-- one thing behind another -/
theorem PR.bind {α β : Type} {G : Gx} {W : Wd} {H : Hp} {K : β → Mem → Wd → Hp → Prop} {K1 : α → Mem → Wd → Hp → Prop} {E : XK} {k : α → Mem → R β} : ∀ {r : R α}, PR G W H K E (r.bind k) →
    (∀ a m W1 H1, Fut W H W1 H1 → MemOk G W1 H1 m → PR G W1 H1 K E (k a m) → K1 a m W1 H1) → PR G W H K1 E r
  | .ok a m, h, hk => fun W2 H2 f2 m2 => hk a m W2 H2 f2 m2 (PR.fut f2 (show PR G W H K E (k a m) from h))
  | .ex c fs m, h, _ => h
  | .no, h, _ => h
/-- a value comes -/
def PV (G : Gx) (Q : VK) : D → Mem → Wd → Hp → Prop := fun d _ W' H' => ∀ u, Rp G W' H' d u → Q u H'
def PVs (G : Gx) (Q : List V → Hp → Prop) : List D → Mem → Wd → Hp → Prop := fun d _ W' H' => ∀ u, RpL G W' H' d u → Q u H'
def PB (G : Gx) (Q : Bool → Hp → Prop) : Bool → Mem → Wd → Hp → Prop := fun b _ _ H' => Q b H'
abbrev FE := Env → Mem → R D
abbrev FT := Env → Mem → R Bool
abbrev FA := Env → Mem → R (List D)
structure Sta (G : Gx) (W : Wd) (env : Env) (M : Mem) (σ : L2.St) (H : Hp) : Prop where
  mem : MemOk G W H M
  env : EnvOk G W H env σ
theorem Sta.fut {G : Gx} {W W' : Wd} {H H' : Hp} {M M' : Mem} {env : Env} {σ : L2.St} (h : Sta G W env M σ H) (f : Fut W H W' H') (m : MemOk G W' H' M') : Sta G W' env M' σ H' := ⟨m, h.env.fut h.mem f⟩
def tE (G : Gx) (E : XK) (f : FE) : TE := fun σ H Q => ∃ W env M, Sta G W env M σ H ∧ PR G W H (PV G Q) E (f env M)
def tT (G : Gx) (E : XK) (f : FT) : TT := fun σ H Q => ∃ W env M, Sta G W env M σ H ∧ PR G W H (PB G Q) E (f env M)
def tA (G : Gx) (E : XK) (f : FA) : TA := fun σ H Q => ∃ W env M, Sta G W env M σ H ∧ PR G W H (PVs G Q) E (f env M)
theorem pe_imp {X : Cx} {e : Expr} {t t' : TE} (h : PE X e t) (i : ∀ σ H Q, t' σ H Q → t σ H Q) : PE X e t' := ⟨fun pins s σ H Q I q => h.run pins s σ H Q I (i σ H Q q)⟩
theorem pt_imp {X : Cx} {e : Expr} {t t' : TT} (h : PT X e t) (i : ∀ σ H Q, t' σ H Q → t σ H Q) : PT X e t' := ⟨fun pins s σ H Q I q => h.run pins s σ H Q I (i σ H Q q)⟩
theorem pw_imp {X : Cx} {e : Expr} {t t' : TT} (h : PW X e t) (i : ∀ σ H Q, t' σ H Q → t σ H Q) : PW X e t' := ⟨fun wh pins s σ H Q I q => h.run wh pins s σ H Q I (i σ H Q q)⟩
theorem pa_imp {X : Cx} {e : List Expr} {t t' : TA} (h : PA X e t) (i : ∀ σ H Q, t' σ H Q → t σ H Q) : PA X e t' := ⟨fun pos pins s σ H Q I q => h.run pos pins s σ H Q I (i σ H Q q)⟩
theorem ps_imp {X : Cx} {e : Stmt} {t t' : TS} (h : PS X e t) (i : ∀ D σ H, t' D σ H → t D σ H) : PS X e t' := ⟨fun pins s σ H D I q => h.run pins s σ H D I (i D σ H q)⟩
theorem pss_imp {X : Cx} {e : List Stmt} {t t' : TS} (h : PSs X e t) (i : ∀ D σ H, t' D σ H → t D σ H) : PSs X e t' := ⟨fun pins s σ H D I q => h.run pins s σ H D I (i D σ H q)⟩
section
variable {X : Cx} {G : Gx} {E : XK}
/-- pass a part on -/
theorem tE.bind {f : FE} {α : Type} {k : D → Mem → R α} {W : Wd} {env : Env} {M : Mem} {σ : L2.St} {H : Hp} {K : α → Mem → Wd → Hp → Prop} {Q : VK} (s : Sta G W env M σ H) (h : PR G W H K E ((f env M).bind k))
    (hk : ∀ d m W1 H1 u, Fut W H W1 H1 → Sta G W1 env m σ H1 → Rp G W1 H1 d u → PR G W1 H1 K E (k d m) → Q u H1) : tE G E f σ H Q :=
  ⟨W, env, M, s, PR.bind h fun d m W1 H1 f1 m1 q => fun u r => hk d m W1 H1 u f1 (s.fut f1 m1) r q⟩
theorem tT.bind {f : FT} {α : Type} {k : Bool → Mem → R α} {W : Wd} {env : Env} {M : Mem} {σ : L2.St} {H : Hp} {K : α → Mem → Wd → Hp → Prop} {Q : Bool → Hp → Prop} (s : Sta G W env M σ H) (h : PR G W H K E ((f env M).bind k))
    (hk : ∀ d m W1 H1, Fut W H W1 H1 → Sta G W1 env m σ H1 → PR G W1 H1 K E (k d m) → Q d H1) : tT G E f σ H Q :=
  ⟨W, env, M, s, PR.bind h fun d m W1 H1 f1 m1 q => hk d m W1 H1 f1 (s.fut f1 m1) q⟩
theorem tA.bind {f : FA} {α : Type} {k : List D → Mem → R α} {W : Wd} {env : Env} {M : Mem} {σ : L2.St} {H : Hp} {K : α → Mem → Wd → Hp → Prop} {Q : List V → Hp → Prop} (s : Sta G W env M σ H) (h : PR G W H K E ((f env M).bind k))
    (hk : ∀ d m W1 H1 u, Fut W H W1 H1 → Sta G W1 env m σ H1 → RpL G W1 H1 d u → PR G W1 H1 K E (k d m) → Q u H1) : tA G E f σ H Q :=
  ⟨W, env, M, s, PR.bind h fun d m W1 H1 f1 m1 q => fun u r => hk d m W1 H1 u f1 (s.fut f1 m1) r q⟩
def mVar (i : Nat) : FE := fun env M => match env[i]? with
  | some (some d) => .ok d M
  | _ => .no
def mC (d : D) : FE := fun _ M => .ok d M
theorem sn_var {i : Nat} {x : Str} {pos : Pos} (h : PE X (.Name x pos) (tVar i)) : PE X (.Name x pos) (tE G E (mVar i)) := pe_imp h fun σ H Q ⟨W, env, M, s, p⟩ => by
  unfold mVar at p
  split at p
  · rename_i d e
    obtain ⟨u, h1, h2⟩ := s.env.2 i d e
    exact ⟨u, h1, p W H Fut.rfl' s.mem u h2⟩
  · exact p.elim
theorem sn_int {i j pos} : PE X (.Constant (.int i) j pos) (tE G E (mC (.int i))) := pe_imp pe_int fun σ H Q ⟨W, env, M, s, p⟩ => p W H Fut.rfl' s.mem _ rfl
theorem sn_bl {b j pos} : PE X (.Constant (.bool b) j pos) (tE G E (mC (.bl b))) := pe_imp pe_bl fun σ H Q ⟨W, env, M, s, p⟩ => p W H Fut.rfl' s.mem _ rfl
theorem sn_non {j pos} : PE X (.Constant .none j pos) (tE G E (mC .non)) := pe_imp pe_non fun σ H Q ⟨W, env, M, s, p⟩ => p W H Fut.rfl' s.mem _ rfl
theorem sn_str {x : Str} {j pos} : PE X (.Constant (.str x) j pos) (tE G E (mC (.str (s2l x)))) := pe_imp pe_str fun σ H Q ⟨W, env, M, s, p⟩ => p W H Fut.rfl' s.mem _ (by show V.str x = .str (l2s (s2l x)); rw [l2s_s2l])
end
end Fn
set_option Elab.async false
set_option linter.all false
set_option maxRecDepth 100000
set_option maxHeartbeats 1000000
namespace Fn
open PySem PySem.Spec PyProof.Rows L2
theorem line_eq : (sizeLine : Nat) = 16777216 := sizeLine_eq
theorem l2s_len (l : List Nat) : (l2s l).length = l.length := by simp [l2s, Str.length]
theorem l2s_toList (l : List Nat) : (l2s l).cps.toList = l := s2l_l2s l
theorem l2s_append (a b : List Nat) : l2s a ++ l2s b = l2s (a ++ b) := by
  show (⟨(l2s a).cps ++ (l2s b).cps⟩ : Str) = _
  simp [l2s]
section
variable {X : Cx} {cl : Nat → Addr} {E : XK} {G : Gx} {W W' : Wd} {H H' : Hp} {M : Mem} {Q : VK}
theorem CellOk.there {a : Addr} {c : Cell} (h : CellOk G W H a c) : ∃ o, H a = some o ∧ ¬ Still o := by
  cases c with
  | lst l => obtain ⟨vs, q, _⟩ := h; exact ⟨_, q, fun z => z⟩
  | dk lk kvs =>
    obtain ⟨vs, q, _⟩ := h
    cases lk
    · exact ⟨_, (show H a = some (.dK vs) from q), fun z => z⟩
    · obtain ⟨o', q'⟩ : ∃ o, H a = some (.frz o (.dK vs)) := q
      exact ⟨_, q', fun z => z⟩
  | dt lk kvs =>
    obtain ⟨vs, q, _⟩ := h
    cases lk
    · exact ⟨_, (show H a = some (.dT vs) from q), fun z => z⟩
    · obtain ⟨o', q'⟩ : ∃ o, H a = some (.frz o (.dT vs)) := q
      exact ⟨_, q', fun z => z⟩
  | dn lk kvs =>
    obtain ⟨vs, q, _⟩ := h
    cases lk
    · exact ⟨_, (show H a = some (NdO G.w a vs) from q), fun z => z⟩
    · obtain ⟨o', q'⟩ : ∃ o, H a = some (.frz o (NdO G.w a vs)) := q
      exact ⟨_, q', fun z => z⟩
  | ins c0 fs => obtain ⟨dx, vs, q, _⟩ := h; exact ⟨_, q, fun z => z⟩
theorem MemOk.at (m : MemOk G W H M) {a : Addr} (ha : a ∈ W.as) : ∃ (i : Nat) (c : Cell), W.as[i]? = some a ∧ M[i]? = some c ∧ CellOk G W H a c := by
  obtain ⟨i, hi⟩ := List.getElem?_of_mem ha
  have hl : i < M.length := by
    rw [← m.len]
    exact (List.getElem?_eq_some_iff.mp hi).1
  exact ⟨i, _, hi, List.getElem?_eq_getElem hl, m.cell i _ a (List.getElem?_eq_getElem hl) hi⟩
theorem MemOk.fresh (m : MemOk G W H M) {p : Addr} (hp : H p = none) : p ∉ W.as ∧ p ∉ W.hd := by
  constructor
  · intro z
    obtain ⟨i, c, _, _, k⟩ := m.at z
    obtain ⟨o, ho, _⟩ := k.there
    rw [hp] at ho; cases ho
  · intro z
    obtain ⟨o, ho⟩ := m.hid p z
    rw [hp] at ho; cases ho
theorem Paired.imp {α β : Type} {F F' : α → β → Prop} (h : ∀ a b, F a b → F' a b) : ∀ {l : List α} {l' : List β}, Paired F l l' → Paired F' l l'
  | _, _, .nil => .nil
  | _, _, .cons a b => .cons (h _ _ a) (Paired.imp h b)
theorem RpK.fut {κ κ' : Type} {f : κ → κ'} (m : MemOk G W H M) (fu : Fut W H W' H') {l : List (κ × D)} {vs : List (κ' × V)} (h : RpK G W H f l vs) : RpK G W' H' f l vs := Paired.imp (fun _ _ z => ⟨z.1, m.rp fu z.2⟩) h
theorem CellOk.fut (m : MemOk G W H M) (fu : Fut W H W' H') {a : Addr} {c : Cell} (e : H' a = H a) (h : CellOk G W H a c) : CellOk G W' H' a c := by
  cases c with
  | lst l => obtain ⟨vs, q, r⟩ := h; exact ⟨vs, by rw [e]; exact q, m.rpL fu r⟩
  | dk lk kvs => obtain ⟨vs, q, r⟩ := h; exact ⟨vs, by rw [e]; exact q, r.fut m fu⟩
  | dt lk kvs => obtain ⟨vs, q, r⟩ := h; exact ⟨vs, by rw [e]; exact q, r.fut m fu⟩
  | dn lk kvs => obtain ⟨vs, q, r⟩ := h; exact ⟨vs, by rw [e]; exact q, r.kp (fu.kp m)⟩
  | ins c0 fs => obtain ⟨dx, vs, q, r⟩ := h; exact ⟨dx, vs, by rw [e]; exact q, r.fut m fu⟩
/-- a new object beside -/
theorem Fut.laid {p : Addr} {o : HO} (hp : H p = none) : Fut W H W (upd H p o) := ⟨⟨[], by simp, by simp⟩, rfl, fun a u e _ => by rw [upd_ne (ne_of_none e hp)]; exact e, fun a od u e => by rw [upd_ne (ne_of_none e hp)]; exact e⟩
theorem MemOk.laid (m : MemOk G W H M) {p : Addr} {o : HO} (hp : H p = none) : MemOk G W (upd H p o) M :=
  ⟨m.len, m.nd, fun i c a e1 e2 => by
    have k := m.cell i c a e1 e2
    obtain ⟨u, hu, _⟩ := k.there
    exact k.fut m (Fut.laid hp) (upd_ne (ne_of_none hu hp)), m.apart, fun a ha => by
    obtain ⟨u, hu⟩ := m.hid a ha
    exact ⟨u, by rw [upd_ne (ne_of_none hu hp)]; exact hu⟩⟩
/-- a new cell -/
theorem Fut.added {p : Addr} {o : HO} (m : MemOk G W H M) (hp : H p = none) : Fut W H ⟨W.as ++ [p], W.hd⟩ (upd H p o) :=
  ⟨⟨[p], rfl, fun a ha => by rw [List.mem_singleton] at ha; subst ha; exact ⟨hp, (m.fresh hp).1⟩⟩, rfl, fun a u e _ => by rw [upd_ne (ne_of_none e hp)]; exact e, fun a od u e => by rw [upd_ne (ne_of_none e hp)]; exact e⟩
theorem MemOk.added (m : MemOk G W H M) {p : Addr} {o : HO} (hp : H p = none) {c : Cell} (hc : CellOk G ⟨W.as ++ [p], W.hd⟩ (upd H p o) p c) : MemOk G ⟨W.as ++ [p], W.hd⟩ (upd H p o) (M ++ [c]) where
  len := by simp [m.len]
  nd := by
    rw [List.nodup_append]
    refine ⟨m.nd, by simp, fun a ha b hb => ?_⟩
    rw [List.mem_singleton] at hb; subst hb
    intro z; subst z
    exact (m.fresh hp).1 ha
  cell := fun i c' a e1 e2 => by
    by_cases hi : i < M.length
    · rw [List.getElem?_append_left hi] at e1
      have hi2 : i < W.as.length := by rw [m.len]; exact hi
      rw [show (⟨W.as ++ [p], W.hd⟩ : Wd).as = W.as ++ [p] from rfl, List.getElem?_append_left hi2] at e2
      have k := m.cell i c' a e1 e2
      obtain ⟨u, hu, _⟩ := k.there
      exact k.fut m (Fut.added m hp) (upd_ne (ne_of_none hu hp))
    · have hi2 : ¬ i < W.as.length := by rw [m.len]; exact hi
      rw [List.getElem?_append_right (by omega)] at e1
      rw [show (⟨W.as ++ [p], W.hd⟩ : Wd).as = W.as ++ [p] from rfl, List.getElem?_append_right (by omega)] at e2
      have e3 : i - M.length = 0 := by
        have := (List.getElem?_eq_some_iff.mp e1).1
        simp at this; omega
      rw [e3] at e1
      rw [show i - W.as.length = 0 by rw [m.len]; exact e3] at e2
      simp at e1 e2
      subst e1 e2
      exact hc
  apart := fun a ha => by
    rcases List.mem_append.mp ha with z | z
    · exact m.apart a z
    · rw [List.mem_singleton] at z; subst z
      exact (m.fresh hp).2
  hid := fun a ha => by
    obtain ⟨u, hu⟩ := m.hid a ha
    exact ⟨u, by rw [upd_ne (ne_of_none hu hp)]; exact hu⟩
/-- a cell is written -/
def Nf : HO → Prop
  | .frz _ _ => False
  | _ => True
theorem Fut.wrote {i : Nat} {a : Addr} {o o' : HO} (hi : W.as[i]? = some a) (ha : H a = some o') (hn : Nf o') : Fut W H W (upd H a o) :=
  ⟨⟨[], by simp, by simp⟩, rfl, fun b u e hb => by rw [upd_ne (fun z => hb (by rw [z]; exact List.mem_of_getElem? hi))]; exact e, fun b od u e => by
    rw [upd_ne (fun z => by rw [z, ha] at e; cases e; exact hn)]; exact e⟩
theorem Kp.wrote (m : MemOk G W H M) {i : Nat} {a : Addr} {o : HO} (hi : W.as[i]? = some a) : Kp W H W (upd H a o) :=
  ⟨fun _ _ h => h, fun b u e hb _ => by rw [upd_ne (fun z => hb (by rw [z]; exact List.mem_of_getElem? hi))]; exact e, fun b u e st => by
    rw [upd_ne (fun z => m.nt _ _ e st (by rw [z]; exact List.mem_of_getElem? hi))]; exact e, fun _ _ _ h1 h2 => ⟨h1, h2⟩⟩
theorem CellOk.kp' {W' : Wd} {H' : Hp} (k : Kp W H W' H') {a : Addr} {c : Cell} (e : H' a = H a) (h : CellOk G W H a c) : CellOk G W' H' a c := by
  have rk : ∀ {κ κ' : Type} {f : κ → κ'} {kvs : List (κ × D)} {vs : List (κ' × V)}, RpK G W H f kvs vs → RpK G W' H' f kvs vs := fun r => Paired.mapP r fun _ _ z => ⟨z.1, Rp.kp k _ _ z.2⟩
  cases c with
  | lst l => obtain ⟨us, q, r⟩ := h; exact ⟨us, by rw [e]; exact q, RpL.kp k _ _ r⟩
  | dk lk kvs => obtain ⟨vs, q, r⟩ := h; exact ⟨vs, by rw [e]; exact q, rk r⟩
  | dt lk kvs => obtain ⟨vs, q, r⟩ := h; exact ⟨vs, by rw [e]; exact q, rk r⟩
  | dn lk kvs => obtain ⟨vs, q, r⟩ := h; exact ⟨vs, by rw [e]; exact q, r.kp k⟩
  | ins c0 fs => obtain ⟨dx, vs, q, r⟩ := h; exact ⟨dx, vs, by rw [e]; exact q, rk r⟩
theorem MemOk.wrote (m : MemOk G W H M) {i : Nat} {a : Addr} {o : HO} (hi : W.as[i]? = some a) {c : Cell} (hc : CellOk G W (upd H a o) a c) : MemOk G W (upd H a o) (M.set i c) where
  len := by simp [m.len]
  nd := m.nd
  cell := fun j c' b e1 e2 => by
    by_cases hj : i = j
    · subst hj
      rw [hi] at e2; cases e2
      rw [List.getElem?_set_self (by rw [← m.len]; exact (List.getElem?_eq_some_iff.mp hi).1)] at e1
      cases e1
      exact hc
    · rw [List.getElem?_set_ne hj] at e1
      have k := m.cell j c' b e1 e2
      refine k.kp' (Kp.wrote m hi) (upd_ne fun z => hj ?_)
      subst z
      exact (List.getElem?_inj (List.getElem?_eq_some_iff.mp hi).1 m.nd).mp (hi.trans e2.symm)
  apart := m.apart
  hid := fun b hb => by
    obtain ⟨u, hu⟩ := m.hid b hb
    refine ⟨u, ?_⟩
    rw [upd_ne fun z => ?_]
    · exact hu
    · subst z
      exact m.apart b (List.mem_of_getElem? hi) hb
/-- a new list: a cell or by value -/
def mkL (c : Bool) (ds : List D) (M : Mem) : R D := if c = true then .ok (.ref M.length) (M ++ [.lst ds]) else .ok (.lst ds) M
theorem mkL_new {c : Bool} {ds : List D} {us : List V} (m : MemOk G W H M) (h : PR G W H (PV G Q) E (mkL c ds M)) (r : RpL G W H ds us) : ∀ p, H p = none → Q (.ref p) (upd H p (.lst us)) := by
  intro p hp
  unfold mkL at h
  cases c with
  | true =>
    rw [if_pos rfl] at h
    refine h ⟨W.as ++ [p], W.hd⟩ _ (Fut.added m hp) (m.added hp ⟨us, upd_same, m.rpL (Fut.added m hp) r⟩) _ ⟨p, ?_, rfl⟩
    rw [← m.len]
    simp
  | false =>
    rw [if_neg Bool.false_ne_true] at h
    exact h W _ (Fut.laid hp) (m.laid hp) _ ⟨p, us, rfl, ⟨upd_same, m.fresh hp⟩, m.rpL (Fut.laid hp) r⟩
theorem tup_new {ds : List D} {us : List V} (m : MemOk G W H M) (h : PR G W H (PV G Q) E (.ok (.tup ds) M)) (r : RpL G W H ds us) : ∀ p, H p = none → Q (.ref p) (upd H p (.tup us)) := fun p hp =>
  h W _ (Fut.laid hp) (m.laid hp) _ ⟨p, us, rfl, .inl upd_same, m.rpL (Fut.laid hp) r⟩
theorem RpL.len : ∀ {ds : List D} {us : List V}, RpL G W H ds us → us.length = ds.length
  | [], us, h => by have : us = [] := h; subst this; rfl
  | d :: r, us, h => by
    obtain ⟨u, us', e, _, h2⟩ := h
    subst e
    simp [RpL.len h2]
/-- the items of a list (by value, frozen, a cell) -/
def lstOf (M : Mem) : D → Option (List D)
  | .lst l => some l
  | .fz l => some l
  | .ref i => match M[i]? with
    | some (.lst l) => some l
    | _ => none
  | _ => none
/-- of a list that the call itself made -/
def ownOf (M : Mem) : D → Option (List D)
  | .lst l => some l
  | .ref i => match M[i]? with
    | some (.lst l) => some l
    | _ => none
  | _ => none
theorem lstOf_ok (m : MemOk G W H M) {d : D} {u : V} {l : List D} (r : Rp G W H d u) (e : lstOf M d = some l) : ∃ a us, u = .ref a ∧ SqL G.K H a us ∧ RpL G W H l us := by
  cases d with
  | lst l' => cases e; obtain ⟨a, us, e1, e2, e3⟩ := r; exact ⟨a, us, e1, .inl (.inl e2.1), e3⟩
  | fz l' =>
    cases e; obtain ⟨a, us, e1, e2, e3⟩ := r
    refine ⟨a, us, e1, ?_, e3⟩
    rcases e2 with ⟨o, e2⟩ | e2
    · exact .inl (.inr ⟨o, e2⟩)
    · exact .inr e2
  | ref i =>
    obtain ⟨a, e1, e2⟩ := r
    simp only [lstOf] at e
    split at e
    · rename_i l' hc
      cases e
      obtain ⟨us, h1, h2⟩ := m.cell i _ a hc e1
      exact ⟨a, us, e2, .inl (.inl h1), h2⟩
    · cases e
  | _ => cases e
theorem ownOf_ok (m : MemOk G W H M) {d : D} {u : V} {l : List D} (r : Rp G W H d u) (e : ownOf M d = some l) : ∃ a us, u = .ref a ∧ H a = some (.lst us) ∧ RpL G W H l us := by
  cases d with
  | lst l' => cases e; obtain ⟨a, us, e1, e2, e3⟩ := r; exact ⟨a, us, e1, e2.1, e3⟩
  | ref i =>
    obtain ⟨a, e1, e2⟩ := r
    simp only [ownOf] at e
    split at e
    · rename_i l' hc
      cases e
      obtain ⟨us, h1, h2⟩ := m.cell i _ a hc e1
      exact ⟨a, us, e2, h1, h2⟩
    · cases e
  | _ => cases e
/-- a list's or a tuple's items -/
def seqOf (M : Mem) : D → Option (List D)
  | .tup l => some l
  | .ct l => some l
  | d => lstOf M d
theorem seqOf_ok (m : MemOk G W H M) {d : D} {u : V} {l : List D} (r : Rp G W H d u) (e : seqOf M d = some l) : ∃ a us, u = .ref a ∧ (SqL G.K H a us ∨ SqT G.K H a us) ∧ RpL G W H l us := by
  cases d with
  | tup l' => cases e; obtain ⟨a, us, e1, e2, e3⟩ := r; exact ⟨a, us, e1, .inr e2.sq, e3⟩
  | ct l' => cases e; obtain ⟨a, us, e1, e2, e3⟩ := r; exact ⟨a, us, e1, .inr e2.sq, e3⟩
  | _ => obtain ⟨a, us, e1, e2, e3⟩ := lstOf_ok m r e; exact ⟨a, us, e1, .inl e2, e3⟩
theorem RpL.get : ∀ {ds : List D} {us : List V}, RpL G W H ds us → ∀ {j : Nat} {d : D}, ds[j]? = some d → ∃ u, us[j]? = some u ∧ Rp G W H d u
  | [], us, h, j, d, e => by simp at e
  | d0 :: r, us, h, j, d, e => by
    obtain ⟨u, us', e1, h1, h2⟩ := h
    subst e1
    cases j with
    | zero => simp at e; subst e; exact ⟨u, by simp, h1⟩
    | succ j => obtain ⟨v, e2, h3⟩ := RpL.get h2 (j := j) (by simpa using e); exact ⟨v, by simpa using e2, h3⟩
theorem RpL.append : ∀ {ds ds' : List D} {us us' : List V}, RpL G W H ds us → RpL G W H ds' us' → RpL G W H (ds ++ ds') (us ++ us')
  | [], ds', us, us', h, h' => by have : us = [] := h; subst this; exact h'
  | d :: r, ds', us, us', h, h' => by
    obtain ⟨u, vs, e1, h1, h2⟩ := h
    subst e1
    exact ⟨u, vs ++ us', rfl, h1, RpL.append h2 h'⟩
theorem RpL.drop : ∀ {ds : List D} {us : List V} (n : Nat), RpL G W H ds us → RpL G W H (ds.drop n) (us.drop n)
  | ds, us, 0, h => h
  | [], us, n + 1, h => by have : us = [] := h; subst this; exact (rfl : ([] : List V) = [])
  | d :: r, us, n + 1, h => by
    obtain ⟨u, vs, e1, h1, h2⟩ := h
    subst e1
    exact RpL.drop n h2
theorem RpL.take : ∀ {ds : List D} {us : List V} (n : Nat), RpL G W H ds us → RpL G W H (ds.take n) (us.take n)
  | ds, us, 0, h => by simp; exact (rfl : ([] : List V) = [])
  | [], us, n + 1, h => by have : us = [] := h; subst this; exact (rfl : ([] : List V) = [])
  | d :: r, us, n + 1, h => by
    obtain ⟨u, vs, e1, h1, h2⟩ := h
    subst e1
    exact ⟨u, vs.take n, by simp, h1, RpL.take n h2⟩
theorem RpL.set : ∀ {ds : List D} {us : List V} {d : D} {u : V} (j : Nat), RpL G W H ds us → Rp G W H d u → RpL G W H (ds.set j d) (us.set j u)
  | [], us, d, u, j, h, r => by have : us = [] := h; subst this; exact (rfl : ([] : List V) = [])
  | d0 :: ds, us, d, u, 0, h, r => by
    obtain ⟨v, vs, e1, h1, h2⟩ := h
    subst e1
    exact ⟨u, vs, rfl, r, h2⟩
  | d0 :: ds, us, d, u, j + 1, h, r => by
    obtain ⟨v, vs, e1, h1, h2⟩ := h
    subst e1
    exact ⟨v, vs.set j u, rfl, h1, RpL.set j h2 r⟩
def Op2 (G : Gx) (E : XK) (r : R2) (o : D → D → Mem → R D) : Prop := ∀ W H M a b u v Q, MemOk G W H M → Rp G W H a u → Rp G W H b v → PR G W H (PV G Q) E (o a b M) → r u v H Q
def mOp (o : D → D → Mem → R D) (fa fb : FE) : FE := fun env M => (fa env M).bind fun a m => (fb env m).bind fun b m' => o a b m'
theorem tE_op {r : R2} {fa fb : FE} {o : D → D → Mem → R D} (hs : Op2 G E r o) (σ : L2.St) (H : Hp) (Q : VK) (h : tE G E (mOp o fa fb) σ H Q) : tOp r (tE G E fa) (tE G E fb) σ H Q := by
  obtain ⟨W, env, M, s, p⟩ := h
  refine tE.bind s p fun d m W1 H1 u f1 s1 r1 p1 => ?_
  refine tE.bind s1 p1 fun d2 m2 W2 H2 u2 f2 s2 r2 p2 => ?_
  exact hs W2 H2 m2 d d2 u u2 Q s2.mem (s1.mem.rp f2 r1) r2 p2
theorem sn_op {op : Operator} {r : R2} {a b : Expr} {fa fb : FE} {o : D → D → Mem → R D} {pos : Pos} (ho : OpR X (binaryOp op) r) (hs : Op2 G E r o) (ha : PE X a (tE G E fa)) (hb : PE X b (tE G E fb)) : PE X (.BinOp a op b pos) (tE G E (mOp o fa fb)) :=
  pe_imp (pe_op ho ha hb) (tE_op hs)
/-- two ways: the kinds tell -/
theorem Op2.or {r r' : R2} {o o1 o2 : D → D → Mem → R D} (h : Op2 G E r o1) (h' : Op2 G E r' o2) (e : ∀ a b M, o a b M = o1 a b M ∨ o a b M = o2 a b M) : Op2 G E (fun x y H Q => r x y H Q ∨ r' x y H Q) o := fun W H M a b u v Q m ra rb p => by
  rcases e a b M with z | z
  · rw [z] at p; exact .inl (h W H M a b u v Q m ra rb p)
  · rw [z] at p; exact .inr (h' W H M a b u v Q m ra rb p)
theorem PR.here {α : Type} {K : α → Mem → Wd → Hp → Prop} {a : α} (m : MemOk G W H M) (h : PR G W H K E (.ok a M)) : K a M W H := h W H Fut.rfl' m
/-- ints -/
def oI (g : Int → Int → D) : D → D → Mem → R D
  | .int i, .int j, M => .ok (g i j) M
  | _, _, _ => .no
theorem op2_I {g : Int → Int → D} {g' : Int → Int → V} (hg : ∀ W H i j, Rp G W H (g i j) (g' i j)) : Op2 G E (rI0 g') (oI g) := fun W H M a b u v Q m ra rb p => by
  cases a <;> cases b <;> first
    | exact p.elim
    | exact ⟨_, _, ra, rb, p.here m _ (hg _ _ _ _)⟩
/-- ints, under a condition -/
def oIC (C : Int → Int → Bool) (g : Int → Int → D) : D → D → Mem → R D
  | .int i, .int j, M => if C i j = true then .ok (g i j) M else .no
  | _, _, _ => .no
theorem op2_IC {C : Int → Int → Bool} {C' : Int → Int → Prop} {g : Int → Int → D} {g' : Int → Int → V} (hC : ∀ i j, C i j = true → C' i j) (hg : ∀ W H i j, Rp G W H (g i j) (g' i j)) : Op2 G E (rI C' g') (oIC C g) := fun W H M a b u v Q m ra rb p => by
  cases a <;> cases b <;> first
    | exact p.elim
    | (simp only [oIC] at p
       split at p
       · rename_i hc
         exact ⟨_, _, ra, rb, hC _ _ hc, p.here m _ (hg _ _ _ _)⟩
       · exact p.elim)
end
section
variable {X : Cx} {G : Gx} {cl : Nat → Addr} {E : XK}
/-- texts -/
def oAddS : D → D → Mem → R D
  | .str a, .str b, M => if a.length + b.length ≤ 16777216 then .ok (.str (a ++ b)) M else .no
  | _, _, _ => .no
def oAddB : D → D → Mem → R D
  | .int i, .bl k, M => .ok (.int (i + if k = true then 1 else 0)) M
  | _, _, _ => .no
def oAddT : D → D → Mem → R D
  | .tup a, .tup b, M => if a.length + b.length ≤ 16777216 then .ok (.tup (a ++ b)) M else .no
  | _, _, _ => .no
def oAddL (c : Bool) (a b : D) (M : Mem) : R D := match ownOf M a, ownOf M b with
  | some x, some y => if x.length + y.length ≤ 16777216 then mkL c (x ++ y) M else .no
  | _, _ => .no
def oAdd (c : Bool) : D → D → Mem → R D
  | .int i, .int j, M => .ok (.int (i + j)) M
  | .str a, .str b, M => oAddS (.str a) (.str b) M
  | .int i, .bl k, M => oAddB (.int i) (.bl k) M
  | .tup a, .tup b, M => oAddT (.tup a) (.tup b) M
  | a, b, M => oAddL c a b M
theorem op2_addS : Op2 G E (fun x y H Q => ∃ i j, x = .str i ∧ y = .str j ∧ i.length + j.length ≤ sizeLine ∧ Q (.str (i ++ j)) H) oAddS := fun W H M a b u v Q m ra rb p => by
  cases a <;> cases b <;> first
    | exact p.elim
    | (simp only [oAddS] at p
       split at p
       · rename_i hc
         refine ⟨_, _, ra, rb, by rw [l2s_len, l2s_len, line_eq]; exact hc, p.here m _ ?_⟩
         show V.str _ = V.str _
         rw [l2s_append]
       · exact p.elim)
theorem op2_addB : Op2 G E (fun x y H Q => ∃ i k, x = .int i ∧ y = .bl k ∧ Q (.int (i + b2i k)) H) oAddB := fun W H M a b u v Q m ra rb p => by
  cases a <;> cases b <;> first
    | exact p.elim
    | (refine ⟨_, _, ra, rb, p.here m _ ?_⟩
       rename_i k
       cases k <;> rfl)
theorem op2_addT : Op2 G E (rCatA G.K) oAddT := fun W H M a b u v Q m ra rb p => by
  cases a <;> cases b <;> first
    | exact p.elim
    | (simp only [oAddT] at p
       split at p
       · rename_i xs ys hc
         obtain ⟨a1, us, e1, s1, r1⟩ := ra
         obtain ⟨a2, vs, e2, s2, r2⟩ := rb
         subst e1 e2
         refine ⟨a1, a2, us, vs, rfl, rfl, s1.sq, s2.sq, by rw [r1.len, r2.len, line_eq]; exact hc, fun z => ?_, fun _ z => ?_, fun _ _ => tup_new m p (r1.append r2)⟩
         · have e3 : xs = [] := by
             have := r1.len
             rw [z] at this
             exact List.length_eq_zero_iff.mp this.symm
           subst e3
           exact p.here m _ ⟨a2, vs, rfl, s2, r2⟩
         · have e3 : ys = [] := by
             have := r2.len
             rw [z] at this
             exact List.length_eq_zero_iff.mp this.symm
           subst e3
           rw [List.append_nil] at p
           exact p.here m _ ⟨a1, us, rfl, s1, r1⟩
       · exact p.elim)
theorem op2_addL {c : Bool} : Op2 G E rCat (oAddL c) := fun W H M a b u v Q m ra rb p => by
  unfold oAddL at p
  split at p
  · rename_i x y e1 e2
    split at p
    · rename_i hc
      obtain ⟨a1, us, h1, h2, h3⟩ := ownOf_ok m ra e1
      obtain ⟨a2, vs, h4, h5, h6⟩ := ownOf_ok m rb e2
      exact ⟨a1, a2, us, vs, h1, h4, h2, h5, by rw [h3.len, h6.len, line_eq]; exact hc, mkL_new m p (h3.append h6)⟩
    · exact p.elim
  · exact p.elim
theorem sn_add (c : Bool) {a b : Expr} {fa fb : FE} {pos : Pos} (ha : PE X a (tE ⟨X.K, cl, X.w⟩ E fa)) (hb : PE X b (tE ⟨X.K, cl, X.w⟩ E fb)) : PE X (.BinOp a .Add b pos) (tE ⟨X.K, cl, X.w⟩ E (mOp (oAdd c) fa fb)) := by
  refine sn_op (op_add.or (op_add_str.or (op_add_ib.or (op_catA.or op_cat)))) (?_ : Op2 ⟨X.K, cl, X.w⟩ E _ _) ha hb
  intro W H M a b u v Q m ra rb p
  have h1 : Op2 ⟨X.K, cl, X.w⟩ E (rI0 fun i j => .int (i + j)) (oI fun i j => .int (i + j)) := op2_I fun _ _ _ _ => rfl
  cases a <;> cases b <;> first
    | exact .inl (h1 W H M _ _ u v Q m ra rb p)
    | exact .inr (.inl (op2_addS W H M _ _ u v Q m ra rb p))
    | exact .inr (.inr (.inl (op2_addB W H M _ _ u v Q m ra rb p)))
    | exact .inr (.inr (.inr (.inl (op2_addT W H M _ _ u v Q m ra rb p))))
    | exact .inr (.inr (.inr (.inr (op2_addL W H M _ _ u v Q m ra rb p))))
def oSub : D → D → Mem → R D := oI fun i j => .int (i - j)
theorem sn_sub {a b : Expr} {fa fb : FE} {pos : Pos} (ha : PE X a (tE G E fa)) (hb : PE X b (tE G E fb)) : PE X (.BinOp a .Sub b pos) (tE G E (mOp oSub fa fb)) := sn_op op_sub (op2_I fun _ _ _ _ => rfl) ha hb
/-- the one factor below 2 ^ 64, or both together below a million bits -/
def mulOk (i j : Int) : Bool := decide (-(2 ^ 64) < i ∧ i < 2 ^ 64) || decide (-(2 ^ 64) < j ∧ j < 2 ^ 64) || decide (i.natAbs.log2 + j.natAbs.log2 < 1000000)
def oMulI : D → D → Mem → R D := oIC mulOk fun i j => .int (i * j)
theorem op_mulA : OpR X (binaryOp .Mult) (rI (fun i j => CMul i j ∨ CMulW i j) fun i j => .int (i * j)) := opI fun _ _ _ _ _ _ _ hc q => mul_int q (hc.elim CMul.ok CMulW.ok)
theorem op2_mulI : Op2 G E (rI (fun i j => CMul i j ∨ CMulW i j) fun i j => .int (i * j)) oMulI := op2_IC (fun i j h => by
  unfold mulOk at h
  simp only [Bool.or_eq_true, decide_eq_true_eq] at h
  rcases h with (h | h) | h
  · exact .inl (.inl h)
  · exact .inl (.inr h)
  · exact .inr h) fun _ _ _ _ => rfl
/-- a list as often -/
def oRep (c : Bool) (a b : D) (M : Mem) : R D := match ownOf M a, b with
  | some x, .int k => if -(2 ^ 63) ≤ k ∧ k < 2 ^ 63 ∧ x.length * k.toNat ≤ 16777216 then mkL c (List.replicate k.toNat x).flatten M else .no
  | _, _ => .no
theorem RpL.rep {W : Wd} {H : Hp} {ds : List D} {us : List V} (h : RpL G W H ds us) : ∀ n, RpL G W H (List.replicate n ds).flatten (List.replicate n us).flatten
  | 0 => (rfl : ([] : List V) = [])
  | n + 1 => by
    rw [List.replicate_succ, List.replicate_succ, List.flatten_cons, List.flatten_cons]
    exact h.append (RpL.rep h n)
theorem op2_rep {c : Bool} : Op2 G E rRep (oRep c) := fun W H M a b u v Q m ra rb p => by
  unfold oRep at p
  split at p
  · rename_i x k e1
    split at p
    · rename_i hc
      obtain ⟨a1, us, h1, h2, h3⟩ := ownOf_ok m ra e1
      exact ⟨a1, k, us, h1, rb, h2, hc.1, hc.2.1, by rw [h3.len, line_eq]; exact hc.2.2, mkL_new m p (h3.rep _)⟩
    · exact p.elim
  · exact p.elim
def oMul (c : Bool) : D → D → Mem → R D
  | .int i, .int j, M => oMulI (.int i) (.int j) M
  | a, b, M => oRep c a b M
theorem sn_mul (c : Bool) {a b : Expr} {fa fb : FE} {pos : Pos} (ha : PE X a (tE G E fa)) (hb : PE X b (tE G E fb)) : PE X (.BinOp a .Mult b pos) (tE G E (mOp (oMul c) fa fb)) :=
  sn_op (op_mulA.or op_rep) (op2_mulI.or op2_rep fun a b M => by cases a <;> cases b <;> first | exact .inl rfl | exact .inr rfl) ha hb
def divOk (_ j : Int) : Bool := decide (0 < j) && decide (j.natAbs.log2 < 9000)
def oDiv : D → D → Mem → R D := oIC divOk fun i j => .int (i / j)
theorem sn_div {a b : Expr} {fa fb : FE} {pos : Pos} (ha : PE X a (tE G E fa)) (hb : PE X b (tE G E fb)) : PE X (.BinOp a .FloorDiv b pos) (tE G E (mOp oDiv fa fb)) :=
  sn_op op_fdivW (op2_IC (fun i j h => by unfold divOk at h; simp only [Bool.and_eq_true, decide_eq_true_eq] at h; exact h) fun _ _ _ _ => rfl) ha hb
def oMod : D → D → Mem → R D := oIC (fun _ j => decide (0 < j)) fun i j => .int (i % j)
theorem sn_mod {a b : Expr} {fa fb : FE} {pos : Pos} (ha : PE X a (tE G E fa)) (hb : PE X b (tE G E fb)) : PE X (.BinOp a .Mod b pos) (tE G E (mOp oMod fa fb)) :=
  sn_op op_mod (op2_IC (fun i j h => of_decide_eq_true h) fun _ _ _ _ => rfl) ha hb
def powOk (i j : Int) : Bool := decide (0 ≤ j) && decide (j ≤ 1000000) && decide (i.natAbs < 2 ^ 64)
def oPow : D → D → Mem → R D := oIC powOk fun i j => .int (i ^ j.toNat)
theorem sn_pow {a b : Expr} {fa fb : FE} {pos : Pos} (ha : PE X a (tE G E fa)) (hb : PE X b (tE G E fb)) : PE X (.BinOp a .Pow b pos) (tE G E (mOp oPow fa fb)) :=
  sn_op op_pow (op2_IC (C' := CPow) (fun i j h => by
    unfold powOk at h
    simp only [Bool.and_eq_true, decide_eq_true_eq] at h
    exact ⟨h.1.1, h.1.2, h.2⟩) fun _ _ _ _ => rfl) ha hb
def mUn (o : D → Mem → R D) (fa : FE) : FE := fun env M => (fa env M).bind fun a m => o a m
def oNeg : D → Mem → R D
  | .int i, M => .ok (.int (-i)) M
  | _, _ => .no
theorem sn_neg {a : Expr} {fa : FE} {pos : Pos} (ha : PE X a (tE G E fa)) : PE X (.UnaryOp .USub a pos) (tE G E (mUn oNeg fa)) := pe_imp (pe_un un_neg ha) fun σ H Q ⟨W, env, M, s, p⟩ => by
  refine tE.bind s p fun d m W1 H1 u f1 s1 r1 p1 => ?_
  cases d <;> first
    | exact p1.elim
    | exact ⟨_, r1, p1.here s1.mem _ rfl⟩
end
end Fn
set_option Elab.async false
set_option linter.all false
set_option maxRecDepth 100000
set_option maxHeartbeats 1000000
namespace Fn
open PySem PySem.Spec PyProof.Rows L2
section
variable {X : Cx} {G : Gx} {cl : Nat → Addr} {E : XK} {W : Wd} {H : Hp} {M : Mem}
mutual
def pyD : D → Option PyData
  | .non => some .none
  | .bl b => some (.bool b)
  | .int i => some (.int i)
  | .str x => some (.str (l2s x))
  | .tup l => (pyL l).map .tuple
  | .ct l => (pyL l).map .tuple
  | .lst l => (pyL l).map .list
  | .fz l => (pyL l).map .list
  | .ref _ => none
def pyL : List D → Option (List PyData)
  | [] => some []
  | d :: r => match pyD d, pyL r with
    | some a, some b => some (a :: b)
    | _, _ => none
end
mutual
/-- the data that a value tells, cells by k -/
def pyGo (k : Nat → Option PyData) : D → Option PyData
  | .non => some .none
  | .bl b => some (.bool b)
  | .int i => some (.int i)
  | .str x => some (.str (l2s x))
  | .tup l => (pyGoL k l).map .tuple
  | .ct l => (pyGoL k l).map .tuple
  | .lst l => (pyGoL k l).map .list
  | .fz l => (pyGoL k l).map .list
  | .ref i => k i
def pyGoL (k : Nat → Option PyData) : List D → Option (List PyData)
  | [] => some []
  | d :: r => match pyGo k d, pyGoL k r with
    | some a, some b => some (a :: b)
    | _, _ => none
end
/-- a cell that holds a list, to the depth n -/
def kN (M : Mem) : Nat → Nat → Option PyData
  | 0, _ => none
  | n + 1, i => match M[i]? with
    | some (.lst l) => (pyGoL (kN M n) l).map .list
    | _ => none
def pyM (M : Mem) (d : D) : Option PyData := pyGo (kN M 4) d
mutual
theorem pyGo_of {k : Nat → Option PyData} : ∀ {d : D} {p : PyData}, pyD d = some p → pyGo k d = some p
  | .non, p, e => e
  | .bl b, p, e => e
  | .int i, p, e => e
  | .str x, p, e => e
  | .tup l, p, e => by
    simp only [pyD] at e
    cases q : pyL l with
    | none => rw [q] at e; cases e
    | some ps => rw [q] at e; simp only [pyGo, pyGoL_of q]; exact e
  | .ct l, p, e => by
    simp only [pyD] at e
    cases q : pyL l with
    | none => rw [q] at e; cases e
    | some ps => rw [q] at e; simp only [pyGo, pyGoL_of q]; exact e
  | .lst l, p, e => by
    simp only [pyD] at e
    cases q : pyL l with
    | none => rw [q] at e; cases e
    | some ps => rw [q] at e; simp only [pyGo, pyGoL_of q]; exact e
  | .fz l, p, e => by
    simp only [pyD] at e
    cases q : pyL l with
    | none => rw [q] at e; cases e
    | some ps => rw [q] at e; simp only [pyGo, pyGoL_of q]; exact e
  | .ref i, p, e => by cases e
theorem pyGoL_of {k : Nat → Option PyData} : ∀ {l : List D} {ps : List PyData}, pyL l = some ps → pyGoL k l = some ps
  | [], ps, e => e
  | d :: l, ps, e => by
    simp only [pyL] at e
    split at e
    · rename_i a b h1 h2
      simp only [pyGoL, pyGo_of h1, pyGoL_of h2]
      exact e
    · cases e
end
mutual
theorem pyD_ok : ∀ {d : D} {u : V} {p : PyData}, Rp G W H d u → pyD d = some p → Dp G.K H u p
  | .non, u, p, r, e => by cases r; cases e; exact .non
  | .bl b, u, p, r, e => by cases r; cases e; exact .bl b
  | .int i, u, p, r, e => by cases r; cases e; exact .int i
  | .str x, u, p, r, e => by cases r; cases e; exact .str _
  | .tup l, u, p, r, e => by
    obtain ⟨a, us, e1, s1, r1⟩ := r
    subst e1
    simp only [pyD] at e
    cases q : pyL l with
    | none => rw [q] at e; cases e
    | some ps => rw [q] at e; cases e; exact .tup s1.sq (pyL_ok r1 q)
  | .ct l, u, p, r, e => by
    obtain ⟨a, us, e1, s1, r1⟩ := r
    subst e1
    simp only [pyD] at e
    cases q : pyL l with
    | none => rw [q] at e; cases e
    | some ps => rw [q] at e; cases e; exact .tup s1.sq (pyL_ok r1 q)
  | .lst l, u, p, r, e => by
    obtain ⟨a, us, e1, s1, r1⟩ := r
    subst e1
    simp only [pyD] at e
    cases q : pyL l with
    | none => rw [q] at e; cases e
    | some ps => rw [q] at e; cases e; exact .lst (.inl (.inl s1.1)) (pyL_ok r1 q)
  | .fz l, u, p, r, e => by
    obtain ⟨a, us, e1, s1, r1⟩ := r
    subst e1
    simp only [pyD] at e
    cases q : pyL l with
    | none => rw [q] at e; cases e
    | some ps =>
      rw [q] at e; cases e
      refine .lst ?_ (pyL_ok r1 q)
      rcases s1 with ⟨o, s1⟩ | s1
      · exact .inl (.inr ⟨o, s1⟩)
      · exact .inr s1
  | .ref i, u, p, r, e => by cases e
theorem pyL_ok : ∀ {l : List D} {us : List V} {ps : List PyData}, RpL G W H l us → pyL l = some ps → DpAll G.K H us ps
  | [], us, ps, r, e => by have : us = [] := r; subst this; cases e; exact .nil
  | d :: l, us, ps, r, e => by
    obtain ⟨u, us', e1, r1, r2⟩ := r
    subst e1
    simp only [pyL] at e
    split at e
    · rename_i a b h1 h2
      cases e
      exact .cons (pyD_ok r1 h1) (pyL_ok r2 h2)
    · cases e
end
mutual
theorem pyGo_ok {k : Nat → Option PyData} (hk : ∀ i a p, W.as[i]? = some a → k i = some p → Dp G.K H (.ref a) p) : ∀ {d : D} {u : V} {p : PyData}, Rp G W H d u → pyGo k d = some p → Dp G.K H u p
  | .non, u, p, r, e => by cases r; cases e; exact .non
  | .bl b, u, p, r, e => by cases r; cases e; exact .bl b
  | .int i, u, p, r, e => by cases r; cases e; exact .int i
  | .str x, u, p, r, e => by cases r; cases e; exact .str _
  | .tup l, u, p, r, e => by
    obtain ⟨a, us, e1, s1, r1⟩ := r
    subst e1
    simp only [pyGo] at e
    cases q : pyGoL k l with
    | none => rw [q] at e; cases e
    | some ps => rw [q] at e; cases e; exact .tup s1.sq (pyGoL_ok hk r1 q)
  | .ct l, u, p, r, e => by
    obtain ⟨a, us, e1, s1, r1⟩ := r
    subst e1
    simp only [pyGo] at e
    cases q : pyGoL k l with
    | none => rw [q] at e; cases e
    | some ps => rw [q] at e; cases e; exact .tup s1.sq (pyGoL_ok hk r1 q)
  | .lst l, u, p, r, e => by
    obtain ⟨a, us, e1, s1, r1⟩ := r
    subst e1
    simp only [pyGo] at e
    cases q : pyGoL k l with
    | none => rw [q] at e; cases e
    | some ps => rw [q] at e; cases e; exact .lst (.inl (.inl s1.1)) (pyGoL_ok hk r1 q)
  | .fz l, u, p, r, e => by
    obtain ⟨a, us, e1, s1, r1⟩ := r
    subst e1
    simp only [pyGo] at e
    cases q : pyGoL k l with
    | none => rw [q] at e; cases e
    | some ps =>
      rw [q] at e; cases e
      refine .lst ?_ (pyGoL_ok hk r1 q)
      rcases s1 with ⟨o, s1⟩ | s1
      · exact .inl (.inr ⟨o, s1⟩)
      · exact .inr s1
  | .ref i, u, p, r, e => by
    obtain ⟨a, e1, rfl⟩ := r
    exact hk i a p e1 e
theorem pyGoL_ok {k : Nat → Option PyData} (hk : ∀ i a p, W.as[i]? = some a → k i = some p → Dp G.K H (.ref a) p) : ∀ {l : List D} {us : List V} {ps : List PyData}, RpL G W H l us → pyGoL k l = some ps → DpAll G.K H us ps
  | [], us, ps, r, e => by have : us = [] := r; subst this; cases e; exact .nil
  | d :: l, us, ps, r, e => by
    obtain ⟨u, us', e1, r1, r2⟩ := r
    subst e1
    simp only [pyGoL] at e
    split at e
    · rename_i a b h1 h2
      cases e
      exact .cons (pyGo_ok hk r1 h1) (pyGoL_ok hk r2 h2)
    · cases e
end
theorem kN_ok (m : MemOk G W H M) : ∀ (n i : Nat) (a : Addr) (p : PyData), W.as[i]? = some a → kN M n i = some p → Dp G.K H (.ref a) p
  | 0, i, a, p, e1, e => by cases e
  | n + 1, i, a, p, e1, e => by
    simp only [kN] at e
    split at e
    · rename_i l hc
      obtain ⟨us, h1, h2⟩ := m.cell i _ a hc e1
      cases q : pyGoL (kN M n) l with
      | none => rw [q] at e; cases e
      | some ps => rw [q] at e; cases e; exact .lst (.inl (.inl h1)) (pyGoL_ok (kN_ok m n) h2 q)
    · cases e
theorem pyM_ok (m : MemOk G W H M) {d : D} {u : V} {p : PyData} (r : Rp G W H d u) (e : pyM M d = some p) : Dp G.K H u p := pyGo_ok (kN_ok m 4) r e
mutual
theorem pyGo_plain {k : Nat → Option PyData} (hk : ∀ i p, k i = some p → p.plain = true) : ∀ {d : D} {p : PyData}, pyGo k d = some p → p.plain = true
  | .non, p, e => by cases e; rfl
  | .bl b, p, e => by cases e; rfl
  | .int b, p, e => by cases e; rfl
  | .str b, p, e => by cases e; rfl
  | .tup l, p, e => by
    simp only [pyGo] at e
    cases q : pyGoL k l with
    | none => rw [q] at e; cases e
    | some ps => rw [q] at e; cases e; simp only [PyData.plain]; exact pyGoL_plain hk q
  | .ct l, p, e => by
    simp only [pyGo] at e
    cases q : pyGoL k l with
    | none => rw [q] at e; cases e
    | some ps => rw [q] at e; cases e; simp only [PyData.plain]; exact pyGoL_plain hk q
  | .lst l, p, e => by
    simp only [pyGo] at e
    cases q : pyGoL k l with
    | none => rw [q] at e; cases e
    | some ps => rw [q] at e; cases e; simp only [PyData.plain]; exact pyGoL_plain hk q
  | .fz l, p, e => by
    simp only [pyGo] at e
    cases q : pyGoL k l with
    | none => rw [q] at e; cases e
    | some ps => rw [q] at e; cases e; simp only [PyData.plain]; exact pyGoL_plain hk q
  | .ref i, p, e => hk i p e
theorem pyGoL_plain {k : Nat → Option PyData} (hk : ∀ i p, k i = some p → p.plain = true) : ∀ {l : List D} {ps : List PyData}, pyGoL k l = some ps → PyData.plainAll ps = true
  | [], ps, e => by cases e; rfl
  | d :: l, ps, e => by
    simp only [pyGoL] at e
    split at e
    · rename_i a b h1 h2
      cases e
      simp only [PyData.plainAll, Bool.and_eq_true]
      exact ⟨pyGo_plain hk h1, pyGoL_plain hk h2⟩
    · cases e
end
theorem kN_plain : ∀ (n i : Nat) (p : PyData), kN M n i = some p → p.plain = true
  | 0, i, p, e => by cases e
  | n + 1, i, p, e => by
    simp only [kN] at e
    split at e
    · rename_i l hc
      cases q : pyGoL (kN M n) l with
      | none => rw [q] at e; cases e
      | some ps => rw [q] at e; cases e; simp only [PyData.plain]; exact pyGoL_plain (kN_plain n) q
    · cases e
theorem pyM_plain {d : D} {p : PyData} (e : pyM M d = some p) : p.plain = true := pyGo_plain (kN_plain 4) e
def rEqP (K : PySem.W.Frag) : R2 := fun x y H Q => ∃ d e, Dp K H x d ∧ Dp K H y e ∧ d.plain = true ∧ e.plain = true ∧ min d.depth e.depth ≤ 60 ∧ Q (.bl (PyData.eqv d e)) H
def rNeP (K : PySem.W.Frag) : R2 := fun x y H Q => ∃ d e, Dp K H x d ∧ Dp K H y e ∧ d.plain = true ∧ e.plain = true ∧ min d.depth e.depth ≤ 60 ∧ Q (.bl (!PyData.eqv d e)) H
theorem op_eqP (hu : X.A.units + 64 < cLine) : OpR X (compareOp .Eq) (rEqP X.K) := by
  intro pins s σ H x y v u Q I rx ry h
  obtain ⟨d, e, hd, he, sd, se, hm, q⟩ := h
  obtain ⟨as, r1⟩ := Dp.reads I d x v hd rx
  obtain ⟨bs, r2⟩ := Dp.reads I e y u he ry
  exact PySem.SeqAt.eq_plain r1 r2 sd se (by omega) ⟨.bl _, H, I, rfl, q⟩
theorem op_neP (hu : X.A.units + 64 < cLine) : OpR X (compareOp .NotEq) (rNeP X.K) := by
  intro pins s σ H x y v u Q I rx ry h
  obtain ⟨d, e, hd, he, sd, se, hm, q⟩ := h
  obtain ⟨as, r1⟩ := Dp.reads I d x v hd rx
  obtain ⟨bs, r2⟩ := Dp.reads I e y u he ry
  exact PySem.SeqAt.ne_plain r1 r2 sd se (by omega) ⟨.bl _, H, I, rfl, q⟩
def oEq (ne : Bool) (a b : D) (M : Mem) : R D := match pyM M a, pyM M b with
  | some x, some y => if min x.depth y.depth ≤ 60 then .ok (.bl (if ne = true then !PyData.eqv x y else PyData.eqv x y)) M else .no
  | _, _ => .no
theorem op2_eq : Op2 G E (rEqP G.K) (oEq false) := fun W H M a b u v Q m ra rb p => by
  simp only [oEq] at p
  split at p
  · rename_i x y e1 e2
    split at p
    · rename_i hc
      exact ⟨x, y, pyM_ok m ra e1, pyM_ok m rb e2, pyM_plain e1, pyM_plain e2, hc, p.here m _ rfl⟩
    · exact p.elim
  · exact p.elim
theorem op2_ne : Op2 G E (rNeP G.K) (oEq true) := fun W H M a b u v Q m ra rb p => by
  simp only [oEq] at p
  split at p
  · rename_i x y e1 e2
    split at p
    · rename_i hc
      exact ⟨x, y, pyM_ok m ra e1, pyM_ok m rb e2, pyM_plain e1, pyM_plain e2, hc, p.here m _ rfl⟩
    · exact p.elim
  · exact p.elim
def rInP (K : PySem.W.Frag) (neg : Bool) : R2 := fun x y H Q => ∃ d ds, Dp K H x d ∧ (Dp K H y (.list ds) ∨ Dp K H y (.tuple ds)) ∧ d.plain = true ∧ PyData.plainAll ds = true ∧ min (PyData.depthAll ds) d.depth ≤ 60 ∧ Q (.bl (if neg = true then !ds.any fun z => PyData.eqv z d else ds.any fun z => PyData.eqv z d)) H
theorem op_inP (hu : X.A.units + 64 < cLine) : OpR X (compareOp .In) (rInP X.K false) := by
  intro pins s σ H x y v u Q I rx ry h
  obtain ⟨d, ds, hd, he, sd, se, hm, q⟩ := h
  obtain ⟨as, r1⟩ := Dp.reads I d x v hd rx
  rcases he with he | he
  · obtain ⟨bs, r2⟩ := Dp.reads I _ y u he ry
    exact PySem.SeqAt.in_list_data r2 r1 se sd (by omega) ⟨.bl _, H, I, rfl, q⟩
  · obtain ⟨bs, r2⟩ := Dp.reads I _ y u he ry
    exact PySem.SeqAt.in_tuple_data r2 r1 se sd (by omega) ⟨.bl _, H, I, rfl, q⟩
theorem op_notInP (hu : X.A.units + 64 < cLine) : OpR X (compareOp .NotIn) (rInP X.K true) := by
  intro pins s σ H x y v u Q I rx ry h
  obtain ⟨d, ds, hd, he, sd, se, hm, q⟩ := h
  obtain ⟨as, r1⟩ := Dp.reads I d x v hd rx
  rcases he with he | he
  · obtain ⟨bs, r2⟩ := Dp.reads I _ y u he ry
    exact PySem.SeqAt.notIn_list_data r2 r1 se sd (by omega) ⟨.bl _, H, I, rfl, q⟩
  · obtain ⟨bs, r2⟩ := Dp.reads I _ y u he ry
    exact PySem.SeqAt.notIn_tuple_data r2 r1 se sd (by omega) ⟨.bl _, H, I, rfl, q⟩
def oInD (neg : Bool) (a b : D) (M : Mem) : R D := match pyM M a, pyM M b with
  | some x, some (.list ds) => if min (PyData.depthAll ds) x.depth ≤ 60 then .ok (.bl (if neg = true then !ds.any fun z => PyData.eqv z x else ds.any fun z => PyData.eqv z x)) M else .no
  | some x, some (.tuple ds) => if min (PyData.depthAll ds) x.depth ≤ 60 then .ok (.bl (if neg = true then !ds.any fun z => PyData.eqv z x else ds.any fun z => PyData.eqv z x)) M else .no
  | _, _ => .no
theorem op2_inD {neg : Bool} : Op2 G E (rInP G.K neg) (oInD neg) := fun W H M a b u v Q m ra rb p => by
  simp only [oInD] at p
  split at p
  · rename_i x ds e1 e2
    split at p
    · rename_i hc
      exact ⟨x, ds, pyM_ok m ra e1, .inl (pyM_ok m rb e2), pyM_plain e1, pyM_plain e2, hc, p.here m _ rfl⟩
    · exact p.elim
  · rename_i x ds e1 e2
    split at p
    · rename_i hc
      exact ⟨x, ds, pyM_ok m ra e1, .inr (pyM_ok m rb e2), pyM_plain e1, pyM_plain e2, hc, p.here m _ rfl⟩
    · exact p.elim
  · exact p.elim
section
variable {a b c : Expr} {fa fb fc : FE} {pos : Pos}
def oOrd (p : Int → Int → Bool) (q : List Nat → List Nat → Bool) : D → D → Mem → R D
  | .int i, .int j, M => .ok (.bl (p i j)) M
  | .str x, .str y, M => .ok (.bl (q x y)) M
  | _, _, _ => .no
def oLt := oOrd (fun i j => decide (i < j)) (fun x y => decide (x < y))
def oLe := oOrd (fun i j => decide (i ≤ j)) (fun x y => !decide (y < x))
def oGt := oOrd (fun i j => decide (j < i)) (fun x y => decide (y < x))
def oGe := oOrd (fun i j => decide (j ≤ i)) (fun x y => !decide (x < y))
theorem op2_ord {p : Int → Int → Bool} {q : List Nat → List Nat → Bool} : Op2 G E (fun x y H Q => rI0 (fun i j => .bl (p i j)) x y H Q ∨ ∃ i j : Str, x = .str i ∧ y = .str j ∧ Q (.bl (q i.cps.toList j.cps.toList)) H) (oOrd p q) := fun W H M a b u v Q m ra rb h => by
  cases a <;> cases b <;> first
    | exact h.elim
    | exact .inl ⟨_, _, ra, rb, h.here m _ rfl⟩
    | exact .inr ⟨_, _, ra, rb, h.here m _ (by rw [l2s_toList, l2s_toList]; rfl)⟩
def oIsN (neg : Bool) : D → Mem → R D
  | .non, M => .ok (.bl (!neg)) M
  | _, M => .ok (.bl neg) M
/-- one sign in a text -/
def oInS (neg : Bool) : D → D → Mem → R D
  | .str [c], .str y, M => .ok (.bl (if neg = true then !decide (c ∈ y) else decide (c ∈ y))) M
  | _, _, _ => .no
def mChain (o o' : D → D → Mem → R D) (fa fb fc : FE) : FE := fun env M => (fa env M).bind fun x m => (fb env m).bind fun y m => (o x y m).bind fun z m => match z with
  | .bl true => (fc env m).bind fun w m => o' y w m
  | .bl false => .ok (.bl false) m
  | _ => .no
end
/-- the truth of a value -/
def truD (M : Mem) : D → Option Bool
  | .non => some false
  | .bl b => some b
  | .int i => some (i != 0)
  | .str x => if x.length ≤ 16777216 then some (!x.isEmpty) else none
  | .tup l => some (!l.isEmpty)
  | .ct l => some (!l.isEmpty)
  | .lst l => some (!l.isEmpty)
  | .fz l => some (!l.isEmpty)
  | .ref i => match M[i]? with
    | some (.lst l) => some (!l.isEmpty)
    | some (.dk false kvs) => some (!kvs.isEmpty)
    | _ => none
/-- a test that must be a truth -/
def bOf (f : FE) : FT := fun env M => (f env M).bind fun d m => match d with
  | .bl b => .ok b m
  | _ => .no
section
variable {a b c : Expr} {fa fb fc : FE} {ga gb gc : FT} {pos : Pos}
theorem st_val (ha : PE X a (tE G E fa)) (he : ∀ whole, isTrue a X.env whole = (do let v ← whole; standAt a.pos; holding [v] (truthy v)) := by intro _; rfl) : PT X a (tT G E (bOf fa)) := pt_imp (pt_val ha he) fun σ H Q ⟨W, env, M, s, p⟩ => by
  refine tE.bind s p fun d m W1 H1 u f1 s1 r1 p1 => ?_
  cases d with
  | bl k => exact ⟨k, r1, p1.here s1.mem⟩
  | _ => exact p1.elim
/-- any value as a test -/
def tOf (f : FE) : FT := fun env M => (f env M).bind fun d m => match truD m d with
  | some b => .ok b m
  | none => .no
def tAndM (f g : FT) : FT := fun env M => (f env M).bind fun b m => if b = true then g env m else .ok false m
def tOrM (f g : FT) : FT := fun env M => (f env M).bind fun b m => if b = true then .ok true m else g env m
def tNotM (f : FT) : FT := fun env M => (f env M).bind fun b m => .ok (!b) m
theorem tT_and {f g : FT} {σ : L2.St} {H : Hp} {Q : Bool → Hp → Prop} (h : tT G E (tAndM f g) σ H Q) : tAnd (tT G E f) (tT G E g) σ H Q := by
  obtain ⟨W, env, M, s, p⟩ := h
  refine tT.bind s p fun b m W1 H1 f1 s1 p1 => ?_
  cases b with
  | true => rw [if_pos rfl] at p1 ⊢; exact ⟨W1, env, m, s1, p1⟩
  | false => rw [if_neg Bool.false_ne_true] at p1 ⊢; exact p1.here s1.mem
theorem tT_or {f g : FT} {σ : L2.St} {H : Hp} {Q : Bool → Hp → Prop} (h : tT G E (tOrM f g) σ H Q) : tOr (tT G E f) (tT G E g) σ H Q := by
  obtain ⟨W, env, M, s, p⟩ := h
  refine tT.bind s p fun b m W1 H1 f1 s1 p1 => ?_
  cases b with
  | true => rw [if_pos rfl] at p1 ⊢; exact p1.here s1.mem
  | false => rw [if_neg Bool.false_ne_true] at p1 ⊢; exact ⟨W1, env, m, s1, p1⟩
theorem sw_and1 (ha : PT X a (tT G E ga)) : PW X (.BoolOp .And [a] pos) (tT G E ga) := pw_and1 ha
theorem sw_or1 (ha : PT X a (tT G E ga)) : PW X (.BoolOp .Or [a] pos) (tT G E ga) := pw_or1 ha
theorem sw_and {rest : List Expr} (ha : PT X a (tT G E ga)) (hb : PW X (.BoolOp .And (b :: rest) pos) (tT G E gb)) : PW X (.BoolOp .And (a :: b :: rest) pos) (tT G E (tAndM ga gb)) := pw_imp (pw_and ha hb) fun _ _ _ h => tT_and h
theorem sw_or {rest : List Expr} (ha : PT X a (tT G E ga)) (hb : PW X (.BoolOp .Or (b :: rest) pos) (tT G E gb)) : PW X (.BoolOp .Or (a :: b :: rest) pos) (tT G E (tOrM ga gb)) := pw_imp (pw_or ha hb) fun _ _ _ h => tT_or h
theorem st_not (ha : PT X a (tT G E ga)) : PT X (.UnaryOp .Not a pos) (tT G E (tNotM ga)) := pt_imp (pt_not ha) fun σ H Q ⟨W, env, M, s, p⟩ => by
  refine tT.bind s p fun b m W1 H1 f1 s1 p1 => ?_
  exact p1.here s1.mem
def mAnd (f g : FE) : FE := fun env M => (f env M).bind fun d m => match d with
  | .bl true => g env m
  | .bl false => .ok (.bl false) m
  | _ => .no
def mOr (f g : FE) : FE := fun env M => (f env M).bind fun d m => match d with
  | .bl true => .ok (.bl true) m
  | .bl false => g env m
  | _ => .no
def mNot (f : FE) : FE := fun env M => (f env M).bind fun d m => match d with
  | .bl b => .ok (.bl (!b)) m
  | _ => .no
def mIf (t : FT) (f g : FE) : FE := fun env M => (t env M).bind fun b m => if b = true then f env m else g env m
theorem sn_if (hc : PT X c (tT G E gc)) (ha : PE X a (tE G E fa)) (hb : PE X b (tE G E fb)) : PE X (.IfExp c a b pos) (tE G E (mIf gc fa fb)) := pe_imp (pe_ifExp hc ha hb) fun σ H Q ⟨W, env, M, s, p⟩ => by
  refine tT.bind s p fun k m W1 H1 f1 s1 p1 => ?_
  cases k with
  | true => rw [if_pos rfl] at p1 ⊢; exact ⟨W1, env, m, s1, p1⟩
  | false => rw [if_neg Bool.false_ne_true] at p1 ⊢; exact ⟨W1, env, m, s1, p1⟩
def aNil : FA := fun _ M => .ok [] M
def aCons (f : FE) (g : FA) : FA := fun env M => (f env M).bind fun d m => (g env m).bind fun ds m' => .ok (d :: ds) m'
theorem sa_nil : PA X [] (tA G E aNil) := pa_imp pa_nil fun σ H Q ⟨W, env, M, s, p⟩ => p.here s.mem _ rfl
theorem sa_cons {es : List Expr} {g : FA} (ha : PE X a (tE G E fa)) (hr : PA X es (tA G E g)) (hs : starEach (a :: es) X.env = (false, eval a X.env) :: starEach es X.env := by rfl) : PA X (a :: es) (tA G E (aCons fa g)) := pa_imp (pa_cons ha hr hs) fun σ H Q ⟨W, env, M, s, p⟩ => by
  refine tE.bind s p fun d m W1 H1 u f1 s1 r1 p1 => ?_
  refine tA.bind s1 p1 fun ds m2 W2 H2 us f2 s2 r2 p2 => ?_
  exact p2.here s2.mem _ ⟨u, us, rfl, s1.mem.rp f2 r1, r2⟩
def mTup (g : FA) : FE := fun env M => (g env M).bind fun ds m => if ds.length ≤ 16777216 then .ok (.tup ds) m else .no
def mLst (c : Bool) (g : FA) : FE := fun env M => (g env M).bind fun ds m => if ds.length ≤ 16777216 then mkL c ds m else .no
theorem sn_tup {es : List Expr} {g : FA} {x1} (h : PA X es (tA G E g)) : PE X (.Tuple es x1 pos) (tE G E (mTup g)) := pe_imp (pe_tup h) fun σ H Q ⟨W, env, M, s, p⟩ => by
  refine tA.bind s p fun ds m2 W2 H2 us f2 s2 r2 p2 => ?_
  split at p2
  · rename_i hz
    exact ⟨by rw [r2.len, line_eq]; exact hz, tup_new s2.mem p2 r2⟩
  · exact p2.elim
theorem sn_lst (c : Bool) {es : List Expr} {g : FA} (h : PA X es (tA G E g)) : PE X (.List es pos) (tE G E (mLst c g)) := pe_imp (pe_lst h) fun σ H Q ⟨W, env, M, s, p⟩ => by
  refine tA.bind s p fun ds m2 W2 H2 us f2 s2 r2 p2 => ?_
  split at p2
  · rename_i hz
    exact ⟨by rw [r2.len, line_eq]; exact hz, mkL_new s2.mem p2 r2⟩
  · exact p2.elim
end
end
end Fn
set_option Elab.async false
set_option linter.all false
set_option maxRecDepth 100000
set_option maxHeartbeats 1000000
namespace Fn
open PySem PySem.Spec PyProof.Rows L2
section
variable {X : Cx} {G : Gx} {cl : Nat → Addr} {E : XK} {W : Wd} {H : Hp} {M : Mem} {a b c : Expr} {fa fb fc : FE} {pos : Pos}
def oIx : D → D → Mem → R D
  | .str x, .int i, M => if x.length ≤ 16777216 then match atI x i with
    | some c => .ok (.str [c]) M
    | none => .no
    else .no
  | a, .int i, M => match seqOf M a with
    | some l => match atI l i with
      | some d => .ok d M
      | none => .no
    | none => .no
  | _, _, _ => .no
theorem RpL.atI {ds : List D} {us : List V} (r : RpL G W H ds us) {i : Int} {d : D} (e : atI ds i = some d) : ∃ u, L2.atI us i = some u ∧ Rp G W H d u := by
  unfold L2.atI at e ⊢
  rw [r.len]
  cases h : ixN ds.length i with
  | none => rw [h] at e; cases e
  | some j => rw [h] at e; exact r.get e
theorem op2_ix : Op2 G E (rIx G.K) oIx := fun W H M a b u v Q m ra rb p => by
  cases b with
  | int i =>
    cases rb
    have seq : ∀ l, seqOf M a = some l → PR G W H (PV G Q) E (match atI l i with | some d => .ok d M | none => (.no : R D)) → rIx G.K u (.int i) H Q := fun l e1 p => by
      split at p
      · rename_i d e2
        obtain ⟨p1, us, h1, h2, h3⟩ := seqOf_ok m ra e1
        obtain ⟨w, h4, h5⟩ := h3.atI e2
        rcases h2 with h2 | h2
        · exact .inl ⟨p1, us, i, w, h1, rfl, h2, h4, p.here m _ h5⟩
        · exact .inr (.inl ⟨p1, us, i, w, h1, rfl, h2, h4, p.here m _ h5⟩)
      · exact p.elim
    cases a with
    | str x =>
      cases ra
      simp only [oIx] at p
      split at p
      · rename_i hz
        split at p
        · rename_i c e2
          exact .inr (.inr ⟨l2s x, i, c, rfl, rfl, by rw [l2s_len, line_eq]; exact hz, by rw [l2s_toList]; exact e2, p.here m _ rfl⟩)
        · exact p.elim
      · exact p.elim
    | tup l => exact seq l rfl p
    | ct l => exact seq l rfl p
    | lst l => exact seq l rfl p
    | fz l => exact seq l rfl p
    | ref j =>
      simp only [oIx] at p
      split at p
      · rename_i l e1
        exact seq l e1 p
      · exact p.elim
    | _ => exact p.elim
  | _ => cases a <;> exact p.elim
theorem sn_ix (ha : PE X a (tE ⟨X.K, cl, X.w⟩ E fa)) (hb : PE X b (tE ⟨X.K, cl, X.w⟩ E fb)) (hs : PlainIx b := by intro _ _; rfl) : PE X (.Subscript a b pos) (tE ⟨X.K, cl, X.w⟩ E (mOp oIx fa fb)) :=
  pe_imp (pe_ix ix_seq ha hb hs) (tE_op op2_ix)
def FO := Env → Mem → R (Option Int)
def pNone : FO := fun _ M => .ok none M
def pSome (f : FE) : FO := fun env M => (f env M).bind fun d m => match d with
  | .int i => .ok (some i) m
  | _ => .no
def cutD {α : Type} (xs : List α) (lo hi : Option Int) : List α := (xs.drop (HT.sIx xs.length 0 lo)).take (HT.sIx xs.length xs.length hi - HT.sIx xs.length 0 lo)
def oSl (c : Bool) (d : D) (lo hi : Option Int) (M : Mem) : R D := match d with
  | .str x => if x.length ≤ 16777216 then .ok (.str (cutD x lo hi)) M else .no
  | .tup l => .ok (.tup (cutD l lo hi)) M
  | d => match lstOf M d with
    | some l => mkL c (cutD l lo hi) M
    | none => .no
def mSl (c : Bool) (f : FE) (lo hi : FO) : FE := fun env M => (f env M).bind fun d m => (lo env m).bind fun l m1 => (hi env m1).bind fun h m2 => oSl c d l h m2
def tOO (G : Gx) (E : XK) (f : FO) : L2.St → Hp → (Option Int → Hp → Prop) → Prop := fun σ H Q => ∃ W env M, Sta G W env M σ H ∧ PR G W H (fun o _ _ H' => Q o H') E (f env M)
theorem po_imp {e : Option Expr} {t t' : TO} (h : PO X e t) (i : ∀ σ H Q, t' σ H Q → t σ H Q) : PO X e t' := ⟨fun pins s σ H Q I q => h.run pins s σ H Q I (i σ H Q q)⟩
theorem sp_none : PO X none (tOO G E pNone) := po_imp po_none fun σ H Q ⟨W, env, M, s, p⟩ => p.here s.mem
theorem sp_some (ha : PE X a (tE G E fa)) : PO X (some a) (tOO G E (pSome fa)) := po_imp (po_some ha) fun σ H Q ⟨W, env, M, s, p⟩ => by
  refine tE.bind s p fun d m W1 H1 u f1 s1 r1 p1 => ?_
  cases d with
  | int i => exact ⟨i, r1, p1.here s1.mem⟩
  | _ => exact p1.elim
theorem RpL.cut {ds : List D} {us : List V} (r : RpL G W H ds us) (lo hi : Option Int) : RpL G W H (cutD ds lo hi) (cutV us lo hi) := by
  unfold cutD cutV
  rw [r.len]
  exact (r.drop _).take _
theorem cutD_whole {α : Type} {xs : List α} {lo hi : Option Int} (h : HT.sIx xs.length 0 lo = 0 ∧ HT.sIx xs.length xs.length hi = xs.length) : cutD xs lo hi = xs := by
  unfold cutD
  rw [h.1, h.2, List.drop_zero, Nat.sub_zero, List.take_length]
theorem sl2 (c : Bool) (d : D) (lo hi : Option Int) (W : Wd) (H : Hp) (M : Mem) (u : V) (Q : VK) (m : MemOk G W H M) (r : Rp G W H d u) (p : PR G W H (PV G Q) E (oSl c d lo hi M)) :
    rSlL G.K u lo hi H Q ∨ rSlA G.K u lo hi H Q ∨ rSlS u lo hi H Q := by
  have seq : ∀ l, lstOf M d = some l → PR G W H (PV G Q) E (mkL c (cutD l lo hi) M) → rSlL G.K u lo hi H Q := fun l e q => by
    obtain ⟨a1, us, h1, h2, h3⟩ := lstOf_ok m r e
    exact ⟨a1, us, h1, h2, mkL_new m q (h3.cut lo hi)⟩
  cases d with
  | str x =>
    cases r
    simp only [oSl] at p
    split at p
    · rename_i hz
      refine .inr (.inr ⟨l2s x, rfl, by rw [l2s_len, line_eq]; exact hz, p.here m _ ?_⟩)
      show V.str _ = V.str _
      unfold cutS cutD
      rw [l2s_len, l2s_toList]
      rfl
    · exact p.elim
  | tup l =>
    obtain ⟨a1, us, h1, h2, h3⟩ := r
    refine .inr (.inl ⟨a1, us, h1, h2.sq, fun hw => p.here m _ ⟨a1, us, rfl, h2.imp id fun z => ⟨by rw [z.1]; simp [cutD], z.2⟩, ?_⟩, fun _ => tup_new m p (h3.cut lo hi)⟩)
    have hw' := hw
    rw [h3.len] at hw'
    rw [cutD_whole hw']
    exact h3
  | ct l => exact p.elim
  | lst l => exact .inl (seq l rfl p)
  | fz l => exact .inl (seq l rfl p)
  | ref j =>
    simp only [oSl] at p
    split at p
    · rename_i l e1
      exact .inl (seq l e1 p)
    · exact p.elim
  | _ => exact p.elim
theorem sn_sl (c : Bool) {lo hi : Option Expr} {gl gh : FO} {p2 : Pos} (ha : PE X a (tE ⟨X.K, cl, X.w⟩ E fa)) (hl : PO X lo (tOO ⟨X.K, cl, X.w⟩ E gl)) (hh : PO X hi (tOO ⟨X.K, cl, X.w⟩ E gh)) : PE X (.Subscript a (.Slice lo hi none p2) pos) (tE ⟨X.K, cl, X.w⟩ E (mSl c fa gl gh)) :=
  pe_imp (pe_slice (sl_list.or (sl_tupA.or sl_str)) ha hl hh) fun σ H Q ⟨W, env, M, s, p⟩ => by
    refine tE.bind s p fun d m W1 H1 u f1 s1 r1 p1 => ?_
    refine ⟨W1, env, m, s1, PR.bind p1 fun l m2 W2 H2 f2 k2 p2 => ?_⟩
    have s2 := s1.fut f2 k2
    refine ⟨W2, env, m2, s2, PR.bind p2 fun h m3 W3 H3 f3 k3 p3 => ?_⟩
    exact sl2 c d l h W3 H3 m3 u Q k3 (s2.mem.rp f3 (s1.mem.rp f2 r1)) p3
def Fn1 (G : Gx) (E : XK) (r : List V → Hp → VK → Prop) (o : List D → Mem → R D) : Prop := ∀ W H M ds us Q, MemOk G W H M → RpL G W H ds us → PR G W H (PV G Q) E (o ds M) → r us H Q
def mCall (o : List D → Mem → R D) (g : FA) : FE := fun env M => (g env M).bind o
theorem tE_call {r : List V → Hp → VK → Prop} {o : List D → Mem → R D} {g : FA} (hs : Fn1 G E r o) (σ : L2.St) (H : Hp) (Q : VK) (h : tE G E (mCall o g) σ H Q) : tCB r (tA G E g) σ H Q := by
  obtain ⟨W, env, M, s, p⟩ := h
  refine tA.bind s p fun ds m2 W2 H2 us f2 s2 r2 p2 => ?_
  exact hs W2 H2 m2 ds us Q s2.mem r2 p2
def oLen : List D → Mem → R D
  | [.str x], M => if x.length ≤ 16777216 then .ok (.int x.length) M else .no
  | [d], M => match seqOf M d with
    | some l => .ok (.int l.length) M
    | none => .no
  | _, _ => .no
theorem fn_len : Fn1 G E (fun xs H Q => (∃ p ys, xs = [.ref p] ∧ (SqL G.K H p ys ∨ SqT G.K H p ys) ∧ Q (.int ys.length) H) ∨ ∃ z : Str, xs = [.str z] ∧ z.length ≤ sizeLine ∧ Q (.int z.length) H) oLen := fun W H M ds us Q m r p => by
  match ds, r, p with
  | [d], r, p =>
    obtain ⟨u, us', e1, r1, r2⟩ := r
    have : us' = [] := r2
    subst this e1
    have seq : ∀ l, seqOf M d = some l → PR G W H (PV G Q) E (.ok (.int l.length) M) → ∃ p ys, [u] = [V.ref p] ∧ (SqL G.K H p ys ∨ SqT G.K H p ys) ∧ Q (.int ys.length) H := fun l e q => by
      obtain ⟨a1, us, h1, h2, h3⟩ := seqOf_ok m r1 e
      subst h1
      exact ⟨a1, us, rfl, h2, by rw [h3.len]; exact q.here m _ rfl⟩
    cases d with
    | str x =>
      cases r1
      simp only [oLen] at p
      split at p
      · rename_i hz
        exact .inr ⟨_, rfl, by rw [l2s_len, line_eq]; exact hz, by rw [l2s_len]; exact p.here m _ rfl⟩
      · exact p.elim
    | tup l => exact .inl (seq l rfl p)
    | ct l => exact .inl (seq l rfl p)
    | lst l => exact .inl (seq l rfl p)
    | fz l => exact .inl (seq l rfl p)
    | ref j =>
      simp only [oLen] at p
      split at p
      · rename_i l e1
        exact .inl (seq l e1 p)
      · exact p.elim
    | _ => exact p.elim
  | [], r, p => exact p.elim
  | a :: b :: c, r, p => cases a <;> exact p.elim
theorem call_lenA : CallR X (.builtin "len") (fun xs H Q => (∃ p ys, xs = [.ref p] ∧ (SqL X.K H p ys ∨ SqT X.K H p ys) ∧ Q (.int ys.length) H) ∨ ∃ z : Str, xs = [.str z] ∧ z.length ≤ sizeLine ∧ Q (.int z.length) H) := call_len_seq.or call_len_str
def o2I (f : Int → Int → Int) : List D → Mem → R D
  | [.int i, .int j], M => .ok (.int (f i j)) M
  | _, _ => .no
theorem fn_2I {f : Int → Int → Int} : Fn1 G E (fun xs H Q => ∃ i j, xs = [.int i, .int j] ∧ Q (.int (f i j)) H) (o2I f) := fun W H M ds us Q m r p => by
  unfold o2I at p
  split at p
  · obtain ⟨u, us', e1, r1, v, us2, e2, r2, r3⟩ := r
    have : us2 = [] := r3
    subst this e2 e1
    cases r1; cases r2
    exact ⟨_, _, rfl, p.here m _ rfl⟩
  · exact p.elim
def oMax := o2I fun i j => if j > i then j else i
def oMin := o2I fun i j => if j < i then j else i
def oInt : List D → Mem → R D
  | [.int i], M => .ok (.int i) M
  | [.bl k], M => .ok (.int (if k = true then 1 else 0)) M
  | _, _ => .no
def oList (c : Bool) : List D → Mem → R D
  | [d], M => match seqOf M d with
    | some l => mkL c l M
    | none => .no
  | _, _ => .no
theorem rp_one {d : D} {us : List V} (r : RpL G W H [d] us) : ∃ u, us = [u] ∧ Rp G W H d u := by
  obtain ⟨u, us', e1, r1, r2⟩ := r
  have : us' = [] := r2
  subst this e1
  exact ⟨u, rfl, r1⟩
theorem fn_list {c : Bool} : Fn1 G E (fun xs H Q => ∃ p ys, xs = [.ref p] ∧ (SqL G.K H p ys ∨ SqT G.K H p ys) ∧ ∀ l, H l = none → Q (.ref l) (upd H l (.lst ys))) (oList c) := fun W H M ds us Q m r p => by
  unfold oList at p
  split at p
  · obtain ⟨u, e1, r1⟩ := rp_one r
    subst e1
    split at p
    · rename_i l e1
      obtain ⟨a1, us, h1, h2, h3⟩ := seqOf_ok m r1 e1
      subst h1
      exact ⟨a1, us, rfl, h2, mkL_new m p h3⟩
    · exact p.elim
  · exact p.elim
def oTuple : List D → Mem → R D
  | [.tup l], M => .ok (.tup l) M
  | [d], M => match lstOf M d with
    | some l => .ok (.tup l) M
    | none => .no
  | _, _ => .no
theorem fn_tuple : Fn1 G E (fun xs H Q => ∃ p ys, xs = [.ref p] ∧ ((SqL G.K H p ys ∧ ∀ l, H l = none → Q (.ref l) (upd H l (.tup ys))) ∨ (SqT G.K H p ys ∧ Q (.ref p) H))) oTuple := fun W H M ds us Q m r p => by
  unfold oTuple at p
  split at p
  · obtain ⟨u, e1, r1⟩ := rp_one r
    subst e1
    obtain ⟨a1, us, h1, h2, h3⟩ := r1
    subst h1
    exact ⟨a1, us, rfl, .inr ⟨h2.sq, p.here m _ ⟨a1, us, rfl, h2, h3⟩⟩⟩
  · obtain ⟨u, e1, r1⟩ := rp_one r
    subst e1
    split at p
    · rename_i l e1
      obtain ⟨a1, us, h1, h2, h3⟩ := lstOf_ok m r1 e1
      subst h1
      exact ⟨a1, us, rfl, .inl ⟨h2, tup_new m p h3⟩⟩
    · exact p.elim
  · exact p.elim
def Mt1 (G : Gx) (E : XK) (r : V → List V → Hp → VK → Prop) (o : D → List D → Mem → R D) : Prop := ∀ W H M a u ds us Q, MemOk G W H M → Rp G W H a u → RpL G W H ds us → PR G W H (PV G Q) E (o a ds M) → r u us H Q
def tyOk (T : String) (M : Mem) : D → Bool
  | .str _ => T == "str"
  | .int _ => T == "int"
  | .lst _ => T == "list"
  | .fz _ => T == "list"
  | .ref i => match M[i]? with
    | some (.lst _) => T == "list"
    | some (.dk false _) => T == "dict"
    | some (.dt false _) => T == "dict"
    | some (.dn false _) => T == "dict"
    | _ => false
  | _ => false
/-- a method's object is of the type -/
def tyW (K : PySem.W.Frag) (w : World) (T : String) (x : V) (H : Hp) : Prop := tyV K T x H ∨ (T = "dict" ∧ ∃ a es, x = V.ref a ∧ H a = some (NdO w a es))
theorem tyOk_ok {T : String} {d : D} {u : V} (m : MemOk G W H M) (r : Rp G W H d u) (e : tyOk T M d = true) : tyW G.K G.w T u H := by
  cases d with
  | str x => cases r; exact .inl (eq_of_beq e)
  | int x => cases r; exact .inl (eq_of_beq e)
  | lst l => obtain ⟨a1, us, h1, h2, h3⟩ := lstOf_ok m (d := .lst l) r rfl; subst h1; exact .inl (.inl ⟨eq_of_beq e, us, h2⟩)
  | fz l => obtain ⟨a1, us, h1, h2, h3⟩ := lstOf_ok m (d := .fz l) r rfl; subst h1; exact .inl (.inl ⟨eq_of_beq e, us, h2⟩)
  | ref i =>
    obtain ⟨a, e1, e2⟩ := r
    subst e2
    simp only [tyOk] at e
    split at e
    · rename_i l hc
      obtain ⟨us, h1, r1⟩ := m.cell i _ a hc e1
      exact .inl (.inl ⟨eq_of_beq e, us, .inl (.inl h1)⟩)
    · rename_i kvs hc
      obtain ⟨us, h1, r1⟩ := m.cell i _ a hc e1
      exact .inl (.inr (.inr (.inl ⟨eq_of_beq e, .inl ⟨us, h1⟩⟩)))
    · rename_i kvs hc
      obtain ⟨us, h1, r1⟩ := m.cell i _ a hc e1
      exact .inl (.inr (.inr (.inl ⟨eq_of_beq e, .inr ⟨us, h1⟩⟩)))
    · rename_i kvs hc
      obtain ⟨us, h1, r1⟩ := m.cell i _ a hc e1
      exact .inr ⟨eq_of_beq e, a, us, rfl, h1⟩
    · cases e
  | _ => cases e
def tMw (K : PySem.W.Frag) (w : World) (T : String) (r : V → List V → Hp → VK → Prop) (to : TE) (t : TA) : TE := fun σ H Q => to σ H fun x H1 => tyW K w T x H1 ∧ t σ H1 fun xs H2 => r x xs H2 Q
def tMw0 (K : PySem.W.Frag) (w : World) (T : String) (r : V → List V → Hp → VK → Prop) (to : TE) : TE := fun σ H Q => to σ H fun x H1 => tyW K w T x H1 ∧ r x [] H1 Q
def mMeth (T : String) (o : D → List D → Mem → R D) (f : FE) (g : FA) : FE := fun env M => (f env M).bind fun a m => if tyOk T m a = true then (g env m).bind fun ds m' => o a ds m' else .no
theorem tE_meth {T : String} {r : V → List V → Hp → VK → Prop} {o : D → List D → Mem → R D} {f : FE} {g : FA} (hs : Mt1 G E r o) (σ : L2.St) (H : Hp) (Q : VK) (h : tE G E (mMeth T o f g) σ H Q) : tMw G.K G.w T r (tE G E f) (tA G E g) σ H Q := by
  obtain ⟨W, env, M, s, p⟩ := h
  refine tE.bind s p fun d m W1 H1 u f1 s1 r1 p1 => ?_
  split at p1
  · rename_i ht
    refine ⟨tyOk_ok s1.mem r1 ht, ?_⟩
    refine tA.bind s1 p1 fun ds m2 W2 H2 us f2 s2 r2 p2 => ?_
    exact hs W2 H2 m2 d u ds us Q s2.mem (s1.mem.rp f2 r1) r2 p2
  · exact p1.elim
theorem tE_meth0 {T : String} {r : V → List V → Hp → VK → Prop} {o : D → List D → Mem → R D} {f : FE} (hs : Mt1 G E r o) (σ : L2.St) (H : Hp) (Q : VK) (h : tE G E (mMeth T o f aNil) σ H Q) : tMw0 G.K G.w T r (tE G E f) σ H Q := by
  obtain ⟨W, env, M, s, p⟩ := h
  refine tE.bind s p fun d m W1 H1 u f1 s1 r1 p1 => ?_
  split at p1
  · rename_i ht
    exact ⟨tyOk_ok s1.mem r1 ht, hs W1 H1 m d u [] [] Q s1.mem r1 rfl p1⟩
  · exact p1.elim
def oAppend : D → List D → Mem → R D
  | .ref i, [d], M => match M[i]? with
    | some (.lst l) => if l.length < 16777216 then .ok .non (M.set i (.lst (l ++ [d]))) else .no
    | _ => .no
  | _, _, _ => .no
theorem mt1_append : Mt1 G E rAppend oAppend := fun W H M a u ds us Q m ra r p => by
  unfold oAppend at p
  split at p
  · obtain ⟨v, e1, r1⟩ := rp_one r
    subst e1
    obtain ⟨a1, e2, e3⟩ := ra
    subst e3
    split at p
    · rename_i l hc
      split at p
      · rename_i hz
        obtain ⟨xs, h1, h2⟩ := m.cell _ _ a1 hc e2
        refine ⟨a1, xs, v, rfl, rfl, h1, by rw [h2.len, line_eq]; exact hz, ?_⟩
        have f := Fut.wrote (W := W) (H := H) (o := .lst (xs ++ [v])) e2 h1 trivial
        exact p W _ f (m.wrote e2 ⟨_, upd_same, m.rpL f (h2.append ⟨v, [], rfl, r1, rfl⟩)⟩) _ rfl
      · exact p.elim
    · exact p.elim
  · exact p.elim
def oExtend : D → List D → Mem → R D
  | .ref i, [d], M => match M[i]?, ownOf M d with
    | some (.lst l), some l' => if l.length + l'.length ≤ 16777216 then .ok .non (M.set i (.lst (l ++ l'))) else .no
    | _, _ => .no
  | _, _, _ => .no
def oPopAt : D → List D → Mem → R D
  | .ref i, [.int k], M => match M[i]? with
    | some (.lst l) => match ixN l.length k with
      | some j => match l[j]? with
        | some d => if -(2 ^ 63) ≤ k ∧ k < 2 ^ 63 then .ok d (M.set i (.lst (l.eraseIdx j))) else .no
        | none => .no
      | none => .no
    | _ => .no
  | _, _, _ => .no
theorem RpL.eraseIdx : ∀ {ds : List D} {us : List V} (j : Nat), RpL G W H ds us → RpL G W H (ds.eraseIdx j) (us.eraseIdx j)
  | [], us, j, h => by have : us = [] := h; subst this; exact (rfl : ([] : List V) = [])
  | d0 :: ds, us, 0, h => by
    obtain ⟨v, vs, e1, h1, h2⟩ := h
    subst e1
    exact h2
  | d0 :: ds, us, j + 1, h => by
    obtain ⟨v, vs, e1, h1, h2⟩ := h
    subst e1
    exact ⟨v, vs.eraseIdx j, rfl, h1, RpL.eraseIdx j h2⟩
theorem mt1_popAt : Mt1 G E rPopAt oPopAt := fun W H M a u ds us Q m ra r p => by
  unfold oPopAt at p
  split at p
  · obtain ⟨v, e1, r1⟩ := rp_one r
    subst e1
    cases r1
    obtain ⟨a1, e2, e3⟩ := ra
    subst e3
    split at p
    · rename_i l hc
      split at p
      · rename_i j hj
        split at p
        · rename_i d hd
          split at p
          · rename_i hk
            obtain ⟨xs, h1, h2⟩ := m.cell _ _ a1 hc e2
            obtain ⟨w, h3, h4⟩ := h2.get hd
            rw [← h2.len] at hj
            refine ⟨a1, xs, _, j, w, rfl, rfl, h1, hk.1, hk.2, (ixN_seq hj).1, h3, ?_⟩
            have f := Fut.wrote (W := W) (H := H) (o := .lst (xs.eraseIdx j)) e2 h1 trivial
            exact p W _ f (m.wrote e2 ⟨_, upd_same, m.rpL f (h2.eraseIdx j)⟩) _ (m.rp f h4)
          · exact p.elim
        · exact p.elim
      · exact p.elim
    · exact p.elim
  · exact p.elim
def strsOf : List D → Option (List (List Nat))
  | [] => some []
  | .str b :: r => (strsOf r).map (b :: ·)
  | _ :: _ => none
theorem strsOf_ok : ∀ {l : List D} {us : List V} {bs : List (List Nat)}, RpL G W H l us → strsOf l = some bs → us = (bs.map l2s).map V.str
  | [], us, bs, r, e => by have : us = [] := r; subst this; cases e; rfl
  | .str b :: l, us, bs, r, e => by
    obtain ⟨u, us', e1, r1, r2⟩ := r
    cases r1
    simp only [strsOf] at e
    cases q : strsOf l with
    | none => rw [q] at e; cases e
    | some bs' =>
      rw [q] at e; cases e
      rw [e1, strsOf_ok r2 q]; rfl
  | .non :: _, _, _, _, e => by cases e
  | .int _ :: _, _, _, _, e => by cases e
  | .bl _ :: _, _, _, _, e => by cases e
  | .tup _ :: _, _, _, _, e => by cases e
  | .lst _ :: _, _, _, _, e => by cases e
  | .fz _ :: _, _, _, _, e => by cases e
  | .ct _ :: _, _, _, _, e => by cases e
  | .ref _ :: _, _, _, _, e => by cases e
def joinL (sep : List Nat) : List (List Nat) → List Nat
  | [] => []
  | [x] => x
  | x :: r => x ++ sep ++ joinL sep r
def oJoin : D → List D → Mem → R D
  | .str sep, [d], M => match (seqOf M d).bind strsOf with
    | some xs => if (xs.map (·.length)).sum + xs.length * sep.length ≤ 16777216 then .ok (.str (joinL sep xs)) M else .no
    | none => .no
  | _, _, _ => .no
end
end Fn
set_option Elab.async false
set_option linter.all false
set_option maxRecDepth 100000
set_option maxHeartbeats 1000000
namespace Fn
open PySem PySem.Spec PyProof.Rows L2
section
variable {X : Cx} {G : Gx} {cl : Nat → Addr} {E : XK} {W : Wd} {H : Hp} {M : Mem} {a b c : Expr} {fa fb fc : FE} {pos : Pos}
theorem join_l2s (sep : List Nat) : ∀ xs : List (List Nat), Str.join (l2s sep) (xs.map l2s) = l2s (joinL sep xs)
  | [] => rfl
  | [x] => rfl
  | x :: y :: r => by
    show l2s x ++ l2s sep ++ Str.join (l2s sep) ((y :: r).map l2s) = l2s (x ++ sep ++ joinL sep (y :: r))
    rw [join_l2s sep (y :: r), l2s_append, l2s_append]
theorem mt1_join : Mt1 G E (fun x xs H Q => ∃ a p, ∃ ys : List Str, x = .str a ∧ xs = [.ref p] ∧ (SqL G.K H p (ys.map V.str) ∨ SqT G.K H p (ys.map V.str)) ∧
    (ys.map (·.length)).sum + ys.length * a.length ≤ 16777216 ∧ Q (.str (PySem.Txt.join a ys)) H) oJoin := fun W H M a u ds us Q m ra r p => by
  unfold oJoin at p
  split at p
  · obtain ⟨v, e1, r1⟩ := rp_one r
    subst e1
    cases ra
    split at p
    · rename_i xs e1
      cases q : seqOf M _ with
      | none => rw [q] at e1; cases e1
      | some l =>
        rw [q] at e1
        obtain ⟨a1, us, h1, h2, h3⟩ := seqOf_ok m r1 q
        subst h1
        have := strsOf_ok h3 e1
        subst this
        split at p
        · rename_i hz
          refine ⟨_, a1, xs.map l2s, rfl, rfl, h2, ?_, p.here m _ ?_⟩
          · rw [List.map_map, List.length_map, l2s_len]
            rw [show (fun x : Str => x.length) ∘ l2s = (·.length) from funext fun x => l2s_len x]
            exact hz
          · show V.str _ = V.str _
            rw [PySem.Txt.join, PySem.StrLaws.glued_eq_join, join_l2s]
        · exact p.elim
    · exact p.elim
  · exact p.elim
theorem op2_inS : Op2 G E (fun x y H Q => ∃ (c : Nat) (z : Str), x = .str ⟨#[c]⟩ ∧ y = .str z ∧ Q (.bl (decide (c ∈ z.cps.toList))) H) (oInS false) := fun W H M a b u v Q m ra rb p => by
  unfold oInS at p
  split at p
  · cases ra; cases rb
    exact ⟨_, _, rfl, rfl, p.here m _ (by rw [l2s_toList]; rfl)⟩
  · exact p.elim
theorem op2_notInS : Op2 G E (fun x y H Q => ∃ (c : Nat) (z : Str), x = .str ⟨#[c]⟩ ∧ y = .str z ∧ Q (.bl (!decide (c ∈ z.cps.toList))) H) (oInS true) := fun W H M a b u v Q m ra rb p => by
  unfold oInS at p
  split at p
  · cases ra; cases rb
    exact ⟨_, _, rfl, rfl, p.here m _ (by rw [l2s_toList]; rfl)⟩
  · exact p.elim
def tyD (M : Mem) : D → Option String
  | .non => some "NoneType"
  | .bl _ => some "bool"
  | .int _ => some "int"
  | .str _ => some "str"
  | .tup _ => some "tuple"
  | .ct _ => some "tuple"
  | .lst _ => some "list"
  | .fz _ => some "list"
  | .ref i => match M[i]? with
    | some (.lst _) => some "list"
    | _ => none
/-- is a of class b, of the classes of data -/
def isTy (a b : String) : Bool := a == b || (a == "bool" && b == "int")
def isTyOk (b : String) : Bool := b == "bool" || b == "int" || b == "str" || b == "tuple" || b == "list"
theorem kitB_ok {a b : String} (ha : a = "NoneType" ∨ a = "bool" ∨ a = "int" ∨ a = "str" ∨ a = "tuple" ∨ a = "list") (hb : isTyOk b = true) : kitB a b = some (isTy a b) := by
  unfold isTyOk at hb
  simp only [Bool.or_eq_true, beq_iff_eq] at hb
  rcases hb with (((rfl | rfl) | rfl) | rfl) | rfl <;> rcases ha with rfl | rfl | rfl | rfl | rfl | rfl <;> decide +kernel
theorem tyX_lst {xs : List V} {a : Addr} (h : SqL G.K H a xs) : TyX G.K H (.ref a) (.type "list") := by
  rcases h with (h | ⟨o, h⟩) | ⟨o, its, n, h1, h2, _⟩
  · exact .base (.lst h)
  · exact .base (.frz h)
  · exact .kList h1 h2
theorem tyX_tup {xs : List V} {a : Addr} (h : SqT G.K H a xs) : TyX G.K H (.ref a) (.type "tuple") := by
  rcases h with (h | ⟨o, h⟩) | ⟨o, its, n, h1, h2, _⟩
  · exact .base (.tup h)
  · exact .fTuple h
  · exact .kTuple h1 h2
theorem tyD_ok (m : MemOk G W H M) {d : D} {u : V} {t : String} (r : Rp G W H d u) (e : tyD M d = some t) : TyX G.K H u (.type t) ∧ (t = "NoneType" ∨ t = "bool" ∨ t = "int" ∨ t = "str" ∨ t = "tuple" ∨ t = "list") := by
  cases d with
  | non => cases r; cases e; exact ⟨.base .non, .inl rfl⟩
  | bl b => cases r; cases e; exact ⟨.base (.bl b), .inr (.inl rfl)⟩
  | int b => cases r; cases e; exact ⟨.base (.int b), .inr (.inr (.inl rfl))⟩
  | str b => cases r; cases e; exact ⟨.base (.str _), .inr (.inr (.inr (.inl rfl)))⟩
  | tup l => cases e; obtain ⟨a, us, h1, h2, _⟩ := r; subst h1; exact ⟨tyX_tup h2.sq, .inr (.inr (.inr (.inr (.inl rfl))))⟩
  | ct l => cases e; obtain ⟨a, us, h1, h2, _⟩ := r; subst h1; exact ⟨tyX_tup h2.sq, .inr (.inr (.inr (.inr (.inl rfl))))⟩
  | lst l => cases e; obtain ⟨a, us, h1, h2, _⟩ := lstOf_ok m (d := .lst l) r rfl; subst h1; exact ⟨tyX_lst h2, .inr (.inr (.inr (.inr (.inr rfl))))⟩
  | fz l => cases e; obtain ⟨a, us, h1, h2, _⟩ := lstOf_ok m (d := .fz l) r rfl; subst h1; exact ⟨tyX_lst h2, .inr (.inr (.inr (.inr (.inr rfl))))⟩
  | ref i =>
    obtain ⟨a, e1, e2⟩ := r
    subst e2
    simp only [tyD] at e
    split at e
    · rename_i l hc
      cases e
      obtain ⟨us, h1, h2⟩ := m.cell i _ a hc e1
      exact ⟨.base (.lst h1), .inr (.inr (.inr (.inr (.inr rfl))))⟩
    · cases e
/-- isinstance(e, T) -/
def oIsi (T : String) (d : D) (M : Mem) : R D := match tyD M d with
  | some t => .ok (.bl (isTy t T)) M
  | none => .no
theorem sn_isi {T : String} {x : Str} {p1 p3 : Pos} (hg : Gl X "isinstance") (hm : X.mg "isinstance" = none) (hg2 : Gl X x) (hm2 : X.mg x = none) (hv2 : bootBuiltins x = some (.type T)) (hT : isTyOk T = true) (hn : x ≠ "__name__") (hd : (x == ("__debug__" : Str)) = false) (ha : PE X a (tE ⟨X.K, cl, X.w⟩ E fa))
    (hs1 : starEach [.Name x p3] X.env = (false, eval (.Name x p3) X.env) :: starEach [] X.env := by rfl)
    (hs2 : starEach [a, .Name x p3] X.env = (false, eval a X.env) :: starEach [.Name x p3] X.env := by rfl)
    (hpl : (backTo pos (starEach [.Name x p3] X.env)).any (·.1) = false := by rfl) : PE X (.Call (.Name "isinstance" p1) [a, .Name x p3] [] pos) (tE ⟨X.K, cl, X.w⟩ E (mUn (oIsi T) fa)) :=
  pe_imp (pe_callB call_isi hg hm (by decide +kernel) (pa_cons ha (pa_cons (pe_bltn (v := .ty T) hg2 hm2 hv2 rfl hn hd) pa_nil hs1) hs2) (by decide) (by decide) hs2 hpl) fun σ H Q ⟨W, env, M, s, p⟩ => by
    refine tE.bind s p fun d m W1 H1 u f1 s1 r1 p1 => ?_
    simp only [oIsi] at p1
    split at p1
    · rename_i t e
      obtain ⟨k1, k2⟩ := tyD_ok s1.mem r1 e
      exact ⟨u, .ty T, .type t, .type T, isTy t T, rfl, .ty T, k1, kit_ty (kitB_ok k2 hT), p1.here s1.mem _ rfl⟩
    · exact p1.elim
end
end Fn
set_option Elab.async false
set_option linter.all false
set_option maxRecDepth 100000
set_option maxHeartbeats 1000000
namespace Fn
open PySem PySem.Spec PyProof.Rows L2
inductive Flow where
  | nx (env : Env) | bk (env : Env) | ct (env : Env) | rt (d : D)
abbrev FS := Env → Mem → R Flow
abbrev FG := D → Env → Mem → R Env
section
variable {X : Cx} {G : Gx} {cl : Nat → Addr} {E : XK} {W : Wd} {H : Hp} {M : Mem} {a b c : Expr} {fa fb fc : FE} {pos : Pos}
def PFl (G : Gx) (D : Ends) : Flow → Mem → Wd → Hp → Prop
  | .nx env, _, W', H' => ∀ σ', EnvOk G W' H' env σ' → D.nx σ' H'
  | .bk env, _, W', H' => ∀ σ', EnvOk G W' H' env σ' → D.bk σ' H'
  | .ct env, _, W', H' => ∀ σ', EnvOk G W' H' env σ' → D.ct σ' H'
  | .rt d, _, W', H' => ∀ u, Rp G W' H' d u → D.rt u H'
def tS (G : Gx) (E : XK) (f : FS) : TS := fun D σ H => ∃ W env M, Sta G W env M σ H ∧ PR G W H (PFl G D) E (f env M)
/-- slots beside vs stay -/
def PEnv (G : Gx) (vs : List Nat) (σ : L2.St) (Q : L2.St → Hp → Prop) : Env → Mem → Wd → Hp → Prop := fun env _ W' H' => ∀ σ', EnvOk G W' H' env σ' → wipe σ' vs = wipe σ vs → Q σ' H'
def tGt (G : Gx) (E : XK) (vs : List Nat) (f : FG) : TG := fun v σ H Q => ∃ W env M d, Sta G W env M σ H ∧ Rp G W H d v ∧ PR G W H (PEnv G vs σ Q) E (f d env M)
theorem wipe_get (σ : L2.St) (j : Nat) : ∀ vs : List Nat, j ∉ vs → (wipe σ vs)[j]? = σ[j]?
  | [], _ => rfl
  | v :: vs, h => by
    unfold wipe
    rw [List.getElem?_set_ne (fun z => h (by rw [z]; exact List.mem_cons_self ..))]
    exact wipe_get σ j vs fun z => h (List.mem_cons_of_mem _ z)
theorem wipe_in (σ : L2.St) (j : Nat) : ∀ vs : List Nat, j ∈ vs → j < σ.length → (wipe σ vs)[j]? = some none
  | v :: vs, h, hl => by
    unfold wipe
    by_cases e : v = j
    · subst e
      exact List.getElem?_set_self (by rw [wipe_length]; exact hl)
    · rw [List.getElem?_set_ne e]
      exact wipe_in σ j vs ((List.mem_cons.mp h).resolve_left fun z => e z.symm) hl
theorem wipe_ext {σ σ' : L2.St} {vs : List Nat} (hl : σ.length = σ'.length) (h : ∀ j, j ∉ vs → σ[j]? = σ'[j]?) : wipe σ vs = wipe σ' vs := by
  apply List.ext_getElem?
  intro j
  by_cases hj : j ∈ vs
  · by_cases hb : j < σ.length
    · rw [wipe_in σ j vs hj hb, wipe_in σ' j vs hj (by omega)]
    · rw [List.getElem?_eq_none (by rw [wipe_length]; omega), List.getElem?_eq_none (by rw [wipe_length]; omega)]
  · rw [wipe_get σ j vs hj, wipe_get σ' j vs hj, h j hj]
theorem wipe_set {σ : L2.St} {vs : List Nat} {i : Nat} {x : Option V} (hi : i ∈ vs) : wipe (σ.set i x) vs = wipe σ vs :=
  wipe_ext (by simp) fun j hj => List.getElem?_set_ne (fun z => hj (by rw [← z]; exact hi))
theorem pg_imp {e : Expr} {t t' : TG} (h : PG X e t) (i : ∀ v σ H Q, t' v σ H Q → t v σ H Q) : PG X e t' := ⟨fun pins s σ H v u Q I r q => h.run pins s σ H v u Q I r (i v σ H Q q)⟩
theorem EnvOk.set {env : Env} {σ : L2.St} {d : D} {u : V} (h : EnvOk G W H env σ) (i : Nat) (r : Rp G W H d u) : EnvOk G W H (env.set i (some d)) (σ.set i (some u)) := by
  refine ⟨by simp [h.1], fun j d' e => ?_⟩
  by_cases hj : i = j
  · subst hj
    by_cases hl : i < env.length
    · rw [List.getElem?_set_self hl] at e
      cases e
      exact ⟨u, List.getElem?_set_self (by rw [← h.1]; exact hl), r⟩
    · rw [List.set_eq_of_length_le (by omega)] at e
      rw [List.getElem?_eq_none (by omega)] at e
      cases e
  · rw [List.getElem?_set_ne hj] at e ⊢
    exact h.2 j d' e
def gN (i : Nat) : FG := fun d env M => .ok (env.set i (some d)) M
theorem sg_name {i : Nat} {x : Str} {pos : Pos} {vs : List Nat} (h : PG X (.Name x pos) (gName i)) (hv : i ∈ vs) : PG X (.Name x pos) (tGt G E vs (gN i)) := pg_imp h fun v σ H Q ⟨W, env, M, d, s, r, p⟩ => p.here s.mem _ (s.env.set i r) (wipe_set hv)
abbrev FGs := List D → Env → Mem → R Env
def tGts (G : Gx) (E : XK) (sl : List Nat) (f : FGs) : TGs := fun vs σ H Q => ∃ W env M ds, Sta G W env M σ H ∧ RpL G W H ds vs ∧ PR G W H (PEnv G sl σ Q) E (f ds env M)
theorem pgs_imp {e : List Expr} {t t' : TGs} (h : PGs X e t) (i : ∀ v σ H Q, t' v σ H Q → t v σ H Q) : PGs X e t' := ⟨fun pins s σ H v u Q I r q => h.run pins s σ H v u Q I r (i v σ H Q q)⟩
def gsNil : FGs := fun ds env M => match ds with
  | [] => .ok env M
  | _ => .no
def gsCons (f : FG) (g : FGs) : FGs := fun ds env M => match ds with
  | d :: r => (f d env M).bind fun env' m => g r env' m
  | [] => .no
theorem sgs_nil {vs : List Nat} : PGs X [] (tGts G E vs gsNil) := pgs_imp pgs_nil fun v σ H Q ⟨W, env, M, ds, s, r, p⟩ => by
  unfold gsNil at p
  split at p
  · have : v = [] := r
    subst this
    exact ⟨rfl, p.here s.mem _ s.env rfl⟩
  · exact p.elim
theorem sgs_cons {e : Expr} {es : List Expr} {f : FG} {g : FGs} {sl : List Nat} (h1 : PG X e (tGt G E sl f)) (h2 : PGs X es (tGts G E sl g))
    (hs : (assignEach (e :: es) X.env).map (·.2) = assign e X.env :: (assignEach es X.env).map (·.2) := by rfl) : PGs X (e :: es) (tGts G E sl (gsCons f g)) := pgs_imp (pgs_cons h1 h2 hs) fun v σ H Q ⟨W, env, M, ds, s, r, p⟩ => by
  unfold gsCons at p
  split at p
  · rename_i d r'
    obtain ⟨u, us, e1, r1, r2⟩ := r
    refine ⟨u, us, e1, W, env, M, d, s, r1, PR.bind p fun env' m W1 H1 f1 k1 p1 => fun σ' en ew => ?_⟩
    refine ⟨W1, env', m, r', ⟨k1, en⟩, s.mem.rpL f1 r2, PR.mono p1 fun env2 m2 W2 H2 f2 k2 q σ2 en2 ew2 => q σ2 en2 (ew2.trans ew)⟩
  · exact p.elim
def gT (n : Nat) (g : FGs) : FG := fun d env M => match d with
  | .tup l => if l.length = n then g l env M else .no
  | .ct l => if l.length = n then g l env M else .no
  | _ => .no
theorem sg_tup {es : List Expr} {k : Nat} {g : FGs} {n : Nat} {sl : List Nat} (hc : X.calm = true) (h : PGs X es (tGts ⟨X.K, cl, X.w⟩ E sl g))
    (hn : (assignEach es X.env).length = n := by rfl) (hst : (assignEach es X.env).findIdx? (·.1) = none := by rfl) : PG X (.Tuple es k pos) (tGt ⟨X.K, cl, X.w⟩ E sl (gT n g)) := pg_imp (pg_tup hc h hn hst) fun v σ H Q ⟨W, env, M, d, s, r, p⟩ => by
  unfold gT at p
  split at p
  · rename_i l
    obtain ⟨a1, us, e1, s1, r1⟩ := r
    split at p
    · rename_i hl
      exact ⟨a1, us, e1, s1.sq, by rw [r1.len, hl], W, env, M, l, s, r1, p⟩
    · exact p.elim
  · rename_i l
    obtain ⟨a1, us, e1, s1, r1⟩ := r
    split at p
    · rename_i hl
      exact ⟨a1, us, e1, s1.sq, by rw [r1.len, hl], W, env, M, l, s, r1, p⟩
    · exact p.elim
  · exact p.elim
/-- x[i] = v of a list -/
def gIx (fo fi : FE) : FG := fun d env M => (fo env M).bind fun o m => (fi env m).bind fun i m' => match o, i with
  | .ref j, .int k => match m'[j]? with
    | some (.lst l) => match ixN l.length k with
      | some n => .ok env (m'.set j (.lst (l.set n d)))
      | none => .no
    | _ => .no
  | _, _ => .no
theorem sg_ix {sl : List Nat} (ha : PE X a (tE G E fa)) (hb : PE X b (tE G E fb)) (hs : ∀ v, assign (.Subscript a b pos) X.env v = (do
      let ov ← holding [v] (eval a X.env)
      let iv ← holding [v, ov] (eval b X.env)
      standAt pos
      holding [v, ov, iv] (setItem ov iv v)
      release [v, ov, iv] []) := by intro _; rfl) : PG X (.Subscript a b pos) (tGt G E sl (gIx fa fb)) := pg_imp (pg_sub ha hb set_list hs) fun v σ H Q ⟨W, env, M, d, s, r, p⟩ => by
  refine tE.bind s p fun o m W1 H1 u1 f1 s1 r1 p1 => ?_
  refine tE.bind s1 p1 fun i m2 W2 H2 u2 f2 s2 r2 p2 => ?_
  split at p2
  · rename_i j k
    split at p2
    · rename_i l hc
      split at p2
      · rename_i n hn
        obtain ⟨a1, e1, e2⟩ := s1.mem.rp f2 r1
        subst e2; cases r2
        obtain ⟨us, h1, h2⟩ := s2.mem.cell _ _ a1 hc e1
        refine ⟨a1, us, k, n, rfl, rfl, h1, by rw [h2.len]; exact hn, ?_⟩
        have f := Fut.wrote (W := W2) (H := H2) (o := .lst (us.set n v)) e1 h1 trivial
        exact p2 W2 _ f (s2.mem.wrote e1 ⟨_, upd_same, s2.mem.rpL f (h2.set n (s1.mem.rp f2 (s.mem.rp f1 r)))⟩) _ (s2.env.fut s2.mem f) rfl
      · exact p2.elim
    · exact p2.elim
  · exact p2.elim
def mSet (i : Nat) (f : FE) : FS := fun env M => (f env M).bind fun d m => .ok (.nx (env.set i (some d))) m
theorem ss_set {i : Nat} {x : Str} {pos' : Pos} (ha : PE X a (tE G E fa)) (hN : X.N.Nodup) (hi : X.N[i]? = some x) (hx : Loc X.env.scope x) (hs : swapsWith a (some (.Name x pos')) pos.line X.env = pure false := by rfl) (hf : X.fn x = true ∨ X.env.scope.names.lookup x = some .local := by first | exact .inl rfl | exact .inr rfl | assumption) :
    PS X (.Assign [.Name x pos'] a pos) (tS G E (mSet i fa)) := ps_imp (ps_set hN hi hx ha hs hf) fun D σ H ⟨W, env, M, s, p⟩ => by
  refine tE.bind s p fun d m W1 H1 u f1 s1 r1 p1 => ?_
  exact p1.here s1.mem _ (s1.env.set i r1)
def mAsg (f : FE) (g : FG) : FS := fun env M => (f env M).bind fun d m => (g d env m).bind fun env' m' => .ok (.nx env') m'
theorem ss_asg {tg : Expr} {g : FG} {sl : List Nat} (ha : PE X a (tE G E fa)) (hg : PG X tg (tGt G E sl g)) (hs : swapsWithSole [tg] a pos.line X.env = pure false := by rfl) (hw : swappedStores [tg] a X.env = pure none := by rfl)
    (h1 : (assignEach [tg] X.env).map (·.2) = [assign tg X.env] := by rfl) : PS X (.Assign [tg] a pos) (tS G E (mAsg fa g)) := ps_imp (ps_asg ha hg hs hw h1) fun D σ H ⟨W, env, M, s, p⟩ => by
  refine tE.bind s p fun d m W1 H1 u f1 s1 r1 p1 => ?_
  refine ⟨W1, env, m, d, s1, r1, PR.bind p1 fun env' m2 W2 H2 f2 k2 p2 => fun σ' en _ => ?_⟩
  exact p2.here k2 _ en
/-- a, b = e, e': no tuple is made -/
def mPar (i j : Nat) (g : FA) : FS := fun env M => (g env M).bind fun ds m => match ds with
  | [d, d'] => .ok (.nx ((env.set i (some d)).set j (some d'))) m
  | _ => .no
theorem ss_par {i j : Nat} {x y : Str} {g : FA} {px py pt : Pos} {kt k2 pt2} (hc : X.calm = true) (hN : X.N.Nodup) (hi : X.N[i]? = some x) (hj : X.N[j]? = some y) (hij : i ≠ j)
    (hx : X.env.scope.names.lookup x = some .local) (hy : X.env.scope.names.lookup y = some .local) (ha : PA X [a, b] (tA G E g))
    (hw : swappedStores [.Tuple [.Name x px, .Name y py] kt pt] (.Tuple [a, b] k2 pt2) X.env = pure (some [x, y]))
    (hs : swapsWithSole [.Tuple [.Name x px, .Name y py] kt pt] (.Tuple [a, b] k2 pt2) pos.line X.env = pure false := by rfl) :
    PS X (.Assign [.Tuple [.Name x px, .Name y py] kt pt] (.Tuple [a, b] k2 pt2) pos) (tS G E (mPar i j g)) := ps_imp (ps_par hc hN hi hj hij hx hy ha hw hs) fun D σ H ⟨W, env, M, s, p⟩ => by
  refine tA.bind s p fun ds m W1 H1 us f1 s1 r1 p1 => ?_
  split at p1
  · rename_i d d'
    obtain ⟨u, us', e1, r2, u', us2, e2, r3, r4⟩ := r1
    have : us2 = [] := r4
    subst this e2 e1
    exact ⟨u, u', rfl, p1.here s1.mem _ ((s1.env.set i r2).set j r3)⟩
  · exact p1.elim
def mExpr (f : FE) : FS := fun env M => (f env M).bind fun _ m => .ok (.nx env) m
theorem ss_expr (ha : PE X a (tE G E fa)) (hs : swapsWith a none pos.line X.env = pure false := by rfl) : PS X (.Expr a pos) (tS G E (mExpr fa)) := ps_imp (ps_expr ha hs) fun D σ H ⟨W, env, M, s, p⟩ => by
  refine tE.bind s p fun d m W1 H1 u f1 s1 r1 p1 => ?_
  exact p1.here s1.mem _ s1.env
def mRet (f : FE) : FS := fun env M => (f env M).bind fun d m => .ok (.rt d) m
theorem ss_ret (ha : PE X a (tE G E fa)) : PS X (.Return (some a) pos) (tS G E (mRet fa)) := ps_imp (ps_ret ha) fun D σ H ⟨W, env, M, s, p⟩ => by
  refine tE.bind s p fun d m W1 H1 u f1 s1 r1 p1 => ?_
  exact p1.here s1.mem _ r1
def mRetN : FS := fun _ M => .ok (.rt .non) M
def mPass : FS := fun env M => .ok (.nx env) M
def mSeq (f g : FS) : FS := fun env M => (f env M).bind fun fl m => match fl with
  | .nx env' => g env' m
  | fl => .ok fl m
theorem sb_nil : PSs X [] (tS G E mPass) := pss_imp pss_nil fun D σ H ⟨W, env, M, s, p⟩ => p.here s.mem _ s.env
theorem sb_one {st : Stmt} {f : FS} (h : PS X st (tS G E f)) : PSs X [st] (tS G E f) := pss_one h
theorem sb_cons {st : Stmt} {r : List Stmt} {f g : FS} (h : PS X st (tS G E f)) (h2 : PSs X r (tS G E g)) : PSs X (st :: r) (tS G E (mSeq f g)) := pss_imp (pss_cons h h2) fun D σ H ⟨W, env, M, s, p⟩ => by
  refine ⟨W, env, M, s, PR.bind p fun fl m W1 H1 f1 k1 p1 => ?_⟩
  cases fl with
  | nx env' => exact fun σ' en => ⟨W1, env', m, ⟨k1, en⟩, p1⟩
  | bk env' => exact PR.here (E := E) k1 p1
  | ct env' => exact PR.here (E := E) k1 p1
  | rt d => exact PR.here (E := E) k1 p1
def mIfS (c : FT) (f g : FS) : FS := fun env M => (c env M).bind fun b m => if b = true then f env m else g env m
theorem ss_if {gc : FT} {f g : FS} {st1 st2 : List Stmt} (hc : PT X c (tT G E gc)) (ha : PSs X st1 (tS G E f)) (hb : PSs X st2 (tS G E g)) : PS X (.If c st1 st2 pos) (tS G E (mIfS gc f g)) := ps_imp (ps_if hc ha hb) fun D σ H ⟨W, env, M, s, p⟩ => by
  refine tT.bind s p fun k m W1 H1 f1 s1 p1 => ?_
  cases k with
  | true => rw [if_pos rfl] at p1 ⊢; exact ⟨W1, env, m, s1, p1⟩
  | false => rw [if_neg Bool.false_ne_true] at p1 ⊢; exact ⟨W1, env, m, s1, p1⟩
/-- x op= e of a name: as x = x op e -/
def mAug (i : Nat) (o : D → D → Mem → R D) (f : FE) : FS := fun env M => match env[i]? with
  | some (some x) => (f env M).bind fun d m => (o x d m).bind fun z m' => .ok (.nx (env.set i (some z))) m'
  | _ => .no
def Ip2 (G : Gx) (E : XK) (r : TIp) (o : D → D → Mem → R D) : Prop := ∀ W H M a b u v Q, MemOk G W H M → Rp G W H a u → Rp G W H b v → PR G W H (PV G Q) E (o a b M) → r u v H Q
theorem ss_aug {i : Nat} {x : Str} {op : Operator} {ti : TIp} {o : D → D → Mem → R D} {pos' : Pos} (hi2 : Ip2 G E ti o) (ha : PE X a (tE G E fa)) (ho : PIp X op ti) (hN : X.N.Nodup) (hi : X.N[i]? = some x) (hx : Loc X.env.scope x) (hf : X.fn x = true ∨ X.env.scope.names.lookup x = some .local := by first | exact .inl rfl | exact .inr rfl | assumption) :
    PS X (.AugAssign (.Name x pos') op a pos) (tS G E (mAug i o fa)) := ps_imp (ps_aug hN hi hx ha ho hf) fun D σ H ⟨W, env, M, s, p⟩ => by
  unfold mAug at p
  split at p
  · rename_i d e
    obtain ⟨u, h1, h2⟩ := s.env.2 i d e
    refine ⟨u, h1, ?_⟩
    refine tE.bind s p fun d2 m W1 H1 u2 f1 s1 r1 p1 => ?_
    refine hi2 W1 H1 m d d2 u u2 _ s1.mem (s.mem.rp f1 h2) r1 (PR.bind p1 fun z m2 W2 H2 f2 k2 p2 => fun w rw_ => ?_)
    exact p2.here k2 _ ((s1.env.fut s1.mem f2).set i rw_)
  · exact p.elim
theorem ip2_add : Ip2 G E (ipI fun i j => i + j) (oI fun i j => .int (i + j)) := fun W H M a b u v Q m ra rb p => by
  cases a <;> cases b <;> first
    | exact p.elim
    | exact ⟨_, _, ra, rb, p.here m _ rfl⟩
def whileM (c : FT) (body : FS) : Nat → Env → Mem → R Flow
  | 0, _, _ => .no
  | n + 1, env, M => (c env M).bind fun b m => if b = true then (body env m).bind fun fl m' => match fl with
      | .nx env' => whileM c body n env' m'
      | .ct env' => whileM c body n env' m'
      | .bk env' => .ok (.nx env') m'
      | .rt d => .ok (.rt d) m'
    else .ok (.nx env) m
def mWhile (c : FT) (body : FS) : FS := whileM c body 1000000000
theorem ss_while {gc : FT} {f : FS} {st : List Stmt} (hp : PassesOwn (model X.prog X.w) X.A X.env X.xe) (hc : PT X c (tT G E gc)) (hb : PSs X st (tS G E f)) : PS X (.While c st [] pos) (tS G E (mWhile gc f)) := ps_imp (ps_while hp hc hb) fun D σ H ⟨W, env, M, s, p⟩ => by
  refine ⟨fun n σ' H' => ∃ W env M, Sta G W env M σ' H' ∧ PR G W H' (PFl G D) E (whileM gc f n env M), ⟨1000000000, W, env, M, s, p⟩, ?_⟩
  rintro n σ' H' ⟨W, env, M, s, p⟩
  cases n with
  | zero => exact p.elim
  | succ n =>
    refine tT.bind s p fun k m W1 H1 f1 s1 p1 => ?_
    cases k with
    | true =>
      rw [if_pos rfl] at p1 ⊢
      refine ⟨fun σ2 H2 => ∃ W env M, Sta G W env M σ2 H2 ∧ PR G W H2 (PFl G D) E (whileM gc f n env M), fun σ2 H2 h => ⟨n, Nat.lt_succ_self n, h⟩, ?_⟩
      refine ⟨W1, env, m, s1, PR.bind p1 fun fl m2 W2 H2 f2 k2 p2 => ?_⟩
      cases fl with
      | nx env' => exact fun σ3 en => ⟨W2, env', m2, ⟨k2, en⟩, p2⟩
      | ct env' => exact fun σ3 en => ⟨W2, env', m2, ⟨k2, en⟩, p2⟩
      | bk env' => exact PR.here (E := E) k2 p2
      | rt d => exact PR.here (E := E) k2 p2
    | false =>
      rw [if_neg Bool.false_ne_true] at p1 ⊢
      exact p1.here s1.mem _ s1.env
end
end Fn
set_option Elab.async false
set_option linter.all false
set_option maxRecDepth 100000
set_option maxHeartbeats 1000000
namespace Fn
open PySem PySem.Spec PyProof.Rows L2
/-- what is walked: its items; what must stay true of the memory meanwhile -/
structure Src where
  items : List D
  still : Mem → Prop
abbrev FI := Env → Mem → R Src
section
variable {X : Cx} {G : Gx} {cl : Nat → Addr} {E : XK} {W : Wd} {H : Hp} {M : Mem} {a b c : Expr} {fa fb fc : FE} {pos : Pos}
/-- what is locked stays -/
def Lk (H H' : Hp) : Prop := ∀ a od u, H a = some (.frz od u) → H' a = some (.frz od u)
structure SrcOk (G : Gx) (W0 : Wd) (H0 : Hp) (src : Src) (J : It) : Prop where
  item : ∀ W H M, Kp W0 H0 W H → Lk H0 H → MemOk G W H M → src.still M → ∀ (i : Nat) d, src.items[i]? = some d → J.go i H ∧ ∀ x H', J.yld i H x H' → Fut W H W H' ∧ MemOk G W H' M ∧ Rp G W H' d x
  stop : ∀ W H M, Kp W0 H0 W H → Lk H0 H → MemOk G W H M → src.still M → J.stop src.items.length H
def PI' (G : Gx) (Rr : It → Hp → Prop) : Src → Mem → Wd → Hp → Prop := fun src M W H => ∀ J, SrcOk G W H src J → src.still M → Rr J H
def tI (G : Gx) (E : XK) (f : FI) : TI := fun σ H Rr => ∃ W env M, Sta G W env M σ H ∧ PR G W H (PI' G Rr) E (f env M)
theorem pi_imp {tg it : Expr} {t t' : TI} (h : PI X tg it t) (i : ∀ σ H Q, t' σ H Q → t σ H Q) : PI X tg it t' := ⟨fun pins s σ H Q I q => h.run pins s σ H Q I (i σ H Q q)⟩
/-- a list or a tuple -/
def iSeq (K : PySem.W.Frag) (tl : TE) : TI := fun σ H R => tl σ H fun x H1 => ∃ a, x = .ref a ∧ (((∃ xs, SqL K H1 a xs) ∧ R (Itl K a) H1) ∨ ((∃ xs, SqT K H1 a xs) ∧ R (Itt K a) H1))
theorem pi_seq {tg l : Expr} {tl : TE} (hl : PE X l tl) : PI X tg l (iSeq X.K tl) := by
  refine ⟨fun pins s σ H R I h => ?_⟩
  refine thn (hl.run pins s σ H _ I h) fun v s1 ⟨x, H1, I1, r1, q1⟩ => ?_
  obtain ⟨a, e, q⟩ := q1
  subst e
  cases r1
  rcases q with ⟨⟨xs, hq⟩, q⟩ | ⟨⟨xs, hq⟩, q⟩
  · obtain ⟨its, rv, p, hz⟩ := I1.list hq
    refine wpAny_pyIter_list p.isList ?_
    refine ⟨s1.heap.objs.size, [s1.heap.objs.size], _, _, H1, rfl, I1.kept (t' := s1.toks) fun b o e => Heap.get?_push_of_some _ e, turn_list a _, ⟨_, Heap.get?_push_size _ rfl, rfl, rfl⟩, fun b hb => ?_, q⟩
    have e : b = s1.heap.objs.size := by simpa using hb
    subst e
    exact I1.fpOk (Nat.le_refl _) (I1.hok.fresh (Nat.le_refl _))
  · obtain ⟨its, rv, p, hz⟩ := I1.tuple hq
    refine wpAny_pyIter_tuple (show s1.heap.IsTuple a its.toArray from p) ?_
    refine ⟨s1.heap.objs.size, [s1.heap.objs.size], _, _, H1, rfl, I1.kept (t' := s1.toks) fun b o e => Heap.get?_push_of_some _ e, turn_tuple a _, ⟨_, Heap.get?_push_size _ rfl, rfl, rfl⟩, fun b hb => ?_, q⟩
    have e : b = s1.heap.objs.size := by simpa using hb
    subst e
    exact I1.fpOk (Nat.le_refl _) (I1.hok.fresh (Nat.le_refl _))
/-- the items of a list or tuple, walked -/
def srcOf (M : Mem) (d : D) : Option Src := match d with
  | .tup l => some ⟨l, fun _ => True⟩
  | .ct l => some ⟨l, fun _ => True⟩
  | .lst l => some ⟨l, fun _ => True⟩
  | .fz l => some ⟨l, fun _ => True⟩
  | .ref i => match M[i]? with
    | some (.lst l) => some ⟨l, fun M' => M'[i]? = some (.lst l)⟩
    | _ => none
  | _ => none
def iSq (f : FE) : FI := fun env M => (f env M).bind fun d m => match srcOf m d with
  | some s => .ok s m
  | none => .no
theorem src_itl {W0 : Wd} {H0 : Hp} {src : Src} {a : Addr} (h : ∀ W H M, Kp W0 H0 W H → MemOk G W H M → src.still M → ∃ us, SqL G.K H a us ∧ RpL G W H src.items us) : SrcOk G W0 H0 src (Itl G.K a) where
  item := fun W H M f _ m st i d e => by
    obtain ⟨us, h1, h2⟩ := h W H M f m st
    obtain ⟨u, e2, r2⟩ := h2.get e
    refine ⟨⟨us, u, h1, e2⟩, fun x H' y => ?_⟩
    obtain ⟨rfl, y⟩ := y
    have := y us h1
    rw [e2] at this; cases this
    exact ⟨Fut.rfl', m, r2⟩
  stop := fun W H M f _ m st => by
    obtain ⟨us, h1, h2⟩ := h W H M f m st
    exact ⟨us, h1, by rw [h2.len]; exact Nat.le_refl _⟩
theorem src_itt {W0 : Wd} {H0 : Hp} {src : Src} {a : Addr} (h : ∀ W H M, Kp W0 H0 W H → MemOk G W H M → src.still M → ∃ us, SqT G.K H a us ∧ RpL G W H src.items us) : SrcOk G W0 H0 src (Itt G.K a) where
  item := fun W H M f _ m st i d e => by
    obtain ⟨us, h1, h2⟩ := h W H M f m st
    obtain ⟨u, e2, r2⟩ := h2.get e
    refine ⟨⟨us, u, h1, e2⟩, fun x H' y => ?_⟩
    obtain ⟨rfl, y⟩ := y
    have := y us h1
    rw [e2] at this; cases this
    exact ⟨Fut.rfl', m, r2⟩
  stop := fun W H M f _ m st => by
    obtain ⟨us, h1, h2⟩ := h W H M f m st
    exact ⟨us, h1, by rw [h2.len]; exact Nat.le_refl _⟩
theorem srcOf_ok (m : MemOk G W H M) {d : D} {u : V} {src : Src} (r : Rp G W H d u) (e : srcOf M d = some src) :
    src.still M ∧ ∃ a, u = .ref a ∧ (((∃ xs, SqL G.K H a xs) ∧ SrcOk G W H src (Itl G.K a)) ∨ ((∃ xs, SqT G.K H a xs) ∧ SrcOk G W H src (Itt G.K a))) := by
  cases d with
  | tup l =>
    cases e
    obtain ⟨a, us, e1, s1, r1⟩ := id r
    refine ⟨trivial, a, e1, .inr ⟨⟨us, s1.sq⟩, src_itt fun W2 H2 M2 f2 m2 _ => ?_⟩⟩
    obtain ⟨a', us', e', s', r'⟩ := Rp.kp f2 _ _ r
    rw [e1] at e'; cases e'
    exact ⟨us', s'.sq, r'⟩
  | ct l =>
    cases e
    obtain ⟨a, us, e1, s1, r1⟩ := id r
    refine ⟨trivial, a, e1, .inr ⟨⟨us, s1.sq⟩, src_itt fun W2 H2 M2 f2 m2 _ => ?_⟩⟩
    obtain ⟨a', us', e', s', r'⟩ := Rp.kp f2 _ _ r
    rw [e1] at e'; cases e'
    exact ⟨us', s'.sq, r'⟩
  | lst l =>
    cases e
    obtain ⟨a, us, e1, s1, r1⟩ := id r
    refine ⟨trivial, a, e1, .inl ⟨⟨us, .inl (.inl s1.1)⟩, src_itl fun W2 H2 M2 f2 m2 _ => ?_⟩⟩
    obtain ⟨a', us', e', s', r'⟩ := Rp.kp f2 _ _ r
    rw [e1] at e'; cases e'
    exact ⟨us', .inl (.inl s'.1), r'⟩
  | fz l =>
    cases e
    obtain ⟨a, us, e1, s1, r1⟩ := lstOf_ok m (d := .fz l) r rfl
    refine ⟨trivial, a, e1, .inl ⟨⟨us, s1⟩, src_itl fun W2 H2 M2 f2 m2 _ => ?_⟩⟩
    obtain ⟨a', us', e', s', r'⟩ := lstOf_ok m2 (d := .fz l) (Rp.kp f2 _ _ r) rfl
    rw [e1] at e'; cases e'
    exact ⟨us', s', r'⟩
  | ref i =>
    simp only [srcOf] at e
    split at e
    · rename_i l hc
      cases e
      obtain ⟨a, e1, e2⟩ := id r
      obtain ⟨us, h1, h2⟩ := m.cell i _ a hc e1
      refine ⟨hc, a, e2, .inl ⟨⟨us, .inl (.inl h1)⟩, src_itl fun W2 H2 M2 f2 m2 st => ?_⟩⟩
      obtain ⟨us', h1', h2'⟩ := m2.cell i _ a st (f2.get _ _ e1)
      exact ⟨us', .inl (.inl h1'), h2'⟩
    · cases e
  | _ => cases e
theorem si_seq {tg : Expr} (ha : PE X a (tE ⟨X.K, cl, X.w⟩ E fa)) : PI X tg a (tI ⟨X.K, cl, X.w⟩ E (iSq fa)) := pi_imp (pi_seq ha) fun σ H Rr ⟨W, env, M, s, p⟩ => by
  refine tE.bind s p fun d m W1 H1 u f1 s1 r1 p1 => ?_
  split at p1
  · rename_i src e
    obtain ⟨st, a1, e1, q⟩ := srcOf_ok s1.mem r1 e
    have k := p1.here s1.mem
    refine ⟨a1, e1, ?_⟩
    rcases q with ⟨h1, h2⟩ | ⟨h1, h2⟩
    · exact .inl ⟨h1, k _ h2 st⟩
    · exact .inr ⟨h1, k _ h2 st⟩
  · exact p1.elim
/-- a text, sign by sign -/
def iStrM (f : FE) : FI := fun env M => (f env M).bind fun d m => match d with
  | .str x => .ok ⟨x.map fun c => .str [c], fun _ => True⟩ m
  | _ => .no
def rngItems (lo : Int) (n : Nat) : List D := (List.range n).map fun i : Nat => .int (lo + (i : Int))
theorem src_rng {W0 : Wd} {H0 : Hp} (lo : Int) (n : Nat) : SrcOk G W0 H0 ⟨rngItems lo n, fun _ => True⟩ (Itr lo n) where
  item := fun W H M f _ m _ i d e => by
    have e' : (rngItems lo n)[i]? = some d := e
    unfold rngItems at e'
    rw [List.getElem?_map] at e'
    cases q : (List.range n)[i]? with
    | none => rw [q] at e'; cases e'
    | some k =>
      rw [q] at e'; cases e'
      obtain ⟨h1, h2⟩ := List.getElem?_eq_some_iff.mp q
      simp at h1 h2
      subst h2
      refine ⟨h1, fun x H' y => ?_⟩
      obtain ⟨rfl, rfl⟩ := y
      exact ⟨Fut.rfl', m, rfl⟩
  stop := fun W H M f _ m _ => by
    show n ≤ (rngItems lo n).length
    simp [rngItems]
def rngOk (i : Int) : Bool := decide (-(2 ^ 62) ≤ i) && decide (i < 2 ^ 62)
theorem rngOk_ok {i : Int} (h : rngOk i = true) : -(2 ^ 62) ≤ i ∧ i < 2 ^ 62 := by
  unfold rngOk at h
  simp only [Bool.and_eq_true, decide_eq_true_eq] at h
  exact h
def iR1 (g : FA) : FI := fun env M => (g env M).bind fun ds m => match ds with
  | [.int j] => if rngOk j = true then .ok ⟨rngItems 0 j.toNat, fun _ => True⟩ m else .no
  | _ => .no
def iR2 (g : FA) : FI := fun env M => (g env M).bind fun ds m => match ds with
  | [.int i, .int j] => if rngOk i = true ∧ rngOk j = true then .ok ⟨rngItems i (j - i).toNat, fun _ => True⟩ m else .no
  | _ => .no
theorem si_range1 {tg : Expr} {g : FA} {p : Pos} (hg : Gl X "range") (hm : X.mg "range" = none) (ha : PA X [a] (tA G E g)) (hs : starEach [a] X.env = [(false, eval a X.env)] := by rfl) : PI X tg (.Call (.Name "range" p) [a] [] pos) (tI G E (iR1 g)) :=
  pi_imp (pi_range1 hg hm ha hs) fun σ H Rr ⟨W, env, M, s, p⟩ => by
    refine tA.bind s p fun ds m W1 H1 us f1 s1 r1 p1 => ?_
    split at p1
    · rename_i j
      split at p1
      · rename_i hj
        obtain ⟨u, e1, r2⟩ := rp_one r1
        subst e1; cases r2
        exact ⟨j, rfl, (rngOk_ok hj).1, (rngOk_ok hj).2, p1.here s1.mem _ (src_rng 0 j.toNat) trivial⟩
      · exact p1.elim
    · exact p1.elim
open Classical in
noncomputable def forL (P : Mem → Prop) (g : FG) (body : FS) : List D → Env → Mem → R Flow
  | [], env, M => if P M then .ok (.nx env) M else .no
  | d :: r, env, M => if P M then (g d env M).bind fun env1 m1 => (body env1 m1).bind fun fl m => match fl with
      | .nx env' => forL P g body r env' m
      | .ct env' => forL P g body r env' m
      | .bk env' => .ok (.nx env') m
      | .rt d => .ok (.rt d) m
    else .no
noncomputable def mFor (f : FI) (g : FG) (body : FS) : FS := fun env M => (f env M).bind fun src m => forL src.still g body src.items env m
theorem ss_for {tg it : Expr} {f : FI} {g : FG} {body : FS} {st : List Stmt} {sl : List Nat} (hp : PassesOwn (model X.prog X.w) X.A X.env X.xe) (hc : X.calm = true) (hi : PI X tg it (tI G E f)) (hg : PG X tg (tGt G E sl g)) (hb : PSs X st (tS G E body))
    (hs : ∀ x, foldedSetIterable it X.env x = pure x := by intro _; rfl) : PS X (.For tg it st [] pos) (tS G E (mFor f g body)) := ps_imp (ps_for hp hc hi hg hb hs) fun D σ H ⟨W, env, M, s, p⟩ => by
  refine ⟨W, env, M, s, PR.bind p fun src m W0 H0 f0 k0 p0 => fun J sj st0 => ?_⟩
  have s0 := s.fut f0 k0
  refine ⟨fun i n σ' H' => n + i = src.items.length ∧ ∃ W env M, Fut W0 H0 W H' ∧ Sta G W env M σ' H' ∧ PR G W H' (PFl G D) E (forL src.still g body (src.items.drop i) env M), ⟨src.items.length, rfl, W0, env, m, Fut.rfl', s0, p0⟩, ?_⟩
  rintro i n σ' H' ⟨hn, W1, env1, M1, f1, s1, p1⟩
  cases hd : src.items.drop i with
  | nil =>
    rw [hd] at p1
    unfold forL at p1
    split at p1
    · rename_i hP
      have hl : src.items.length ≤ i := List.drop_eq_nil_iff.mp hd
      have : i = src.items.length := by omega
      subst this
      exact .inl ⟨sj.stop W1 H' M1 (f1.kp k0) f1.lk s1.mem hP, p1.here s1.mem _ s1.env⟩
    · exact p1.elim
  | cons d r =>
    rw [hd] at p1
    unfold forL at p1
    split at p1
    · rename_i hP
      have hi' : src.items[i]? = some d := by
        have h0 : (src.items.drop i)[0]? = some d := by rw [hd]; rfl
        rw [List.getElem?_drop] at h0
        simpa using h0
      have hr : src.items.drop (i + 1) = r := by
        rw [← List.tail_drop, hd]; rfl
      have hlt : i < src.items.length := (List.getElem?_eq_some_iff.mp hi').1
      obtain ⟨go, yl⟩ := sj.item W1 H' M1 (f1.kp k0) f1.lk s1.mem hP i d hi'
      refine .inr ⟨go, fun σ2 H2 => ∃ W env M, Fut W0 H0 W H2 ∧ Sta G W env M σ2 H2 ∧ PR G W H2 (PFl G D) E (forL src.still g body r env M), fun σ2 H2 ⟨W, env, M, q1, q2, q3⟩ => ⟨n - 1, by omega, by omega, W, env, M, q1, q2, by rw [hr]; exact q3⟩, fun x H2 y => ?_⟩
      obtain ⟨f2, k2, rx⟩ := yl x H2 y
      have s2 := s1.fut f2 k2
      refine ⟨W1, env1, M1, d, s2, rx, PR.bind (PR.fut f2 p1) fun env3 m3 W3 H3 f3 k3 p3 => fun σ3 en3 _ => ?_⟩
      refine ⟨W3, env3, m3, ⟨k3, en3⟩, PR.bind p3 fun fl m4 W4 H4 f4 k4 p4 => ?_⟩
      have ff := f1.trans (f2.trans (f3.trans f4))
      cases fl with
      | nx env' => exact fun σ4 en => ⟨W4, env', m4, ff, ⟨k4, en⟩, p4⟩
      | ct env' => exact fun σ4 en => ⟨W4, env', m4, ff, ⟨k4, en⟩, p4⟩
      | bk env' => exact PR.here (E := E) k4 p4
      | rt d => exact PR.here (E := E) k4 p4
    · exact p1.elim
end
end Fn
set_option Elab.async false
set_option linter.all false
set_option maxRecDepth 100000
set_option maxHeartbeats 1000000
namespace Fn
open PySem PySem.Spec PyProof.Rows L2
section
variable {X : Cx} {G : Gx} {cl : Nat → Addr} {E : XK} {W : Wd} {H : Hp} {M : Mem} {a b c : Expr} {fa fb fc : FE} {pos : Pos}
def wipeE (env : Env) : List Nat → Env
  | [] => env
  | v :: vs => (wipeE env vs).set v none
theorem wipeE_ok {env : Env} {σ : L2.St} (h : EnvOk G W H env σ) : ∀ vs, EnvOk G W H (wipeE env vs) (wipe σ vs)
  | [] => h
  | v :: vs => by
    have ih := wipeE_ok h vs
    unfold wipeE wipe
    refine ⟨by simp [ih.1], fun j d e => ?_⟩
    by_cases hj : v = j
    · subst hj
      by_cases hl : v < (wipeE env vs).length
      · rw [List.getElem?_set_self hl] at e; cases e
      · rw [List.getElem?_eq_none (by simp; omega)] at e; cases e
    · rw [List.getElem?_set_ne hj] at e ⊢
      exact ih.2 j d e
/-- the block's tests -/
theorem wipe_wipe (σ : L2.St) (vs : List Nat) : wipe (wipe σ vs) vs = wipe σ vs := wipe_ext (wipe_length σ vs) fun j hj => wipe_get σ j vs hj
def tsYes : FT := fun _ M => .ok true M
open Classical in
noncomputable def compL (P : Mem → Prop) (g : FG) (t : FT) (f : FE) (env : Env) : List D → Mem → R (List D)
  | [], M => if P M then .ok [] M else .no
  | d :: r, M => if P M then (g d env M).bind fun env1 m1 => (t env1 m1).bind fun b m2 => if b = true then (f env1 m2).bind fun y m3 => (compL P g t f env r m3).bind fun ys m4 => .ok (y :: ys) m4 else compL P g t f env r m2
    else .no
/-- a hidden object is written -/
theorem Kp.hidden {D0 : Addr} {xs : List V} {o : HO} (hD : D0 ∈ W.hd) (hx : H D0 = some (.lst xs)) : Kp W H W (upd H D0 o) :=
  ⟨fun _ _ h => h, fun a o' e _ h2 => by rw [upd_ne (fun z => h2 (by rw [z]; exact hD))]; exact e,
   fun a o' e st => by rw [upd_ne fun z => by subst z; rw [hx] at e; cases e; exact st]; exact e, fun _ _ _ h1 h2 => ⟨h1, h2⟩⟩
theorem CellOk.kp {W' : Wd} {H' : Hp} (k : Kp W H W' H') {a : Addr} {c : Cell} (e : H' a = H a) (h : CellOk G W H a c) : CellOk G W' H' a c := by
  have pk : ∀ {κ κ' : Type} {f : κ → κ'} {l : List (κ × D)} {vs : List (κ' × V)}, RpK G W H f l vs → RpK G W' H' f l vs := fun h => Paired.imp (fun _ _ z => ⟨z.1, Rp.kp k _ _ z.2⟩) h
  cases c with
  | lst l => obtain ⟨vs, q, r⟩ := h; exact ⟨vs, by rw [e]; exact q, RpL.kp k _ _ r⟩
  | dk lk kvs => obtain ⟨vs, q, r⟩ := h; exact ⟨vs, by rw [e]; exact q, pk r⟩
  | dt lk kvs => obtain ⟨vs, q, r⟩ := h; exact ⟨vs, by rw [e]; exact q, pk r⟩
  | dn lk kvs => obtain ⟨vs, q, r⟩ := h; exact ⟨vs, by rw [e]; exact q, r.kp k⟩
  | ins c0 fs => obtain ⟨dx, vs, q, r⟩ := h; exact ⟨dx, vs, by rw [e]; exact q, pk r⟩
theorem MemOk.hidden (m : MemOk G W H M) {D0 : Addr} {xs : List V} {o : HO} (hD : D0 ∈ W.hd) (hx : H D0 = some (.lst xs)) : MemOk G W (upd H D0 o) M where
  len := m.len
  nd := m.nd
  cell := fun i c a e1 e2 => (m.cell i c a e1 e2).kp (Kp.hidden hD hx) (upd_ne fun z => by subst z; exact m.apart _ (List.mem_of_getElem? e2) hD)
  apart := m.apart
  hid := fun b hb => by
    by_cases z : b = D0
    · subst z; exact ⟨_, upd_same⟩
    · obtain ⟨u, hu⟩ := m.hid b hb
      exact ⟨u, by rw [upd_ne z]; exact hu⟩
/-- D0 hidden, and no more -/
theorem Kp.hide {D0 : Addr} {o : HO} (hD : H D0 = none) : Kp W H ⟨W.as, D0 :: W.hd⟩ (upd H D0 o) :=
  ⟨fun _ _ h => h, fun a o' e _ _ => by rw [upd_ne (ne_of_none e hD)]; exact e, fun a o' e _ => by rw [upd_ne (ne_of_none e hD)]; exact e,
   fun a o' e h1 h2 => ⟨h1, fun z => by rcases List.mem_cons.mp z with z | z; · exact ne_of_none e hD z
                                        · exact h2 z⟩⟩
theorem MemOk.hide (m : MemOk G W H M) {D0 : Addr} {o : HO} (hD : H D0 = none) : MemOk G ⟨W.as, D0 :: W.hd⟩ (upd H D0 o) M where
  len := m.len
  nd := m.nd
  cell := fun i c a e1 e2 => by
    have k := m.cell i c a e1 e2
    obtain ⟨u, hu, _⟩ := k.there
    exact k.kp (Kp.hide hD) (upd_ne (ne_of_none hu hD))
  apart := fun a ha z => by
    rcases List.mem_cons.mp z with z | z
    · subst z; exact (m.fresh hD).1 ha
    · exact m.apart a ha z
  hid := fun b hb => by
    rcases List.mem_cons.mp hb with z | z
    · subst z; exact ⟨_, upd_same⟩
    · obtain ⟨u, hu⟩ := m.hid b z
      exact ⟨u, by rw [upd_ne (ne_of_none hu hD)]; exact hu⟩
theorem Kp.show {as hd : List Addr} {D0 : Addr} : Kp ⟨as, D0 :: hd⟩ H ⟨as, hd⟩ H :=
  ⟨fun _ _ h => h, fun _ _ e _ _ => e, fun _ _ e _ => e, fun _ _ _ h1 h2 => ⟨h1, fun z => h2 (List.mem_cons_of_mem _ z)⟩⟩
theorem MemOk.show {as hd : List Addr} {D0 : Addr} (m : MemOk G ⟨as, D0 :: hd⟩ H M) : MemOk G ⟨as, hd⟩ H M where
  len := m.len
  nd := m.nd
  cell := fun i c a e1 e2 => (m.cell i c a e1 e2).kp Kp.show rfl
  apart := fun a ha z => m.apart a ha (List.mem_cons_of_mem _ z)
  hid := fun b hb => m.hid b (List.mem_cons_of_mem _ hb)
theorem Kp.track {as hd : List Addr} {D0 : Addr} : Kp ⟨as, D0 :: hd⟩ H ⟨as ++ [D0], hd⟩ H :=
  ⟨fun i a h => by
    show (as ++ [D0])[i]? = some a
    rw [List.getElem?_append_left (List.getElem?_eq_some_iff.mp h).1]; exact h, fun _ _ e _ _ => e, fun _ _ e _ => e,
   fun a _ _ h1 h2 => ⟨fun z => by
    rcases List.mem_append.mp z with z | z
    · exact h1 z
    · exact h2 (by rw [List.mem_singleton] at z; rw [z]; exact List.mem_cons_self ..), fun z => h2 (List.mem_cons_of_mem _ z)⟩⟩
theorem MemOk.track {as hd : List Addr} {D0 : Addr} {us : List V} {ys : List D} (m : MemOk G ⟨as, D0 :: hd⟩ H M) (hx : H D0 = some (.lst us)) (hn : D0 ∉ hd) (r : RpL G ⟨as, D0 :: hd⟩ H ys us) : MemOk G ⟨as ++ [D0], hd⟩ H (M ++ [.lst ys]) where
  len := by
    have := m.len
    simp at this ⊢
    omega
  nd := by
    show (as ++ [D0]).Nodup
    rw [List.nodup_append]
    refine ⟨m.nd, by simp, fun a ha b hb => ?_⟩
    rw [List.mem_singleton] at hb; subst hb
    intro z; subst z
    exact m.apart a ha (List.mem_cons_self ..)
  cell := fun i c' a e1 e2 => by
    have ml : as.length = M.length := m.len
    have e2' : (as ++ [D0])[i]? = some a := e2
    by_cases hi : i < M.length
    · rw [List.getElem?_append_left hi] at e1
      rw [List.getElem?_append_left (by omega)] at e2'
      exact (m.cell i c' a e1 e2').kp Kp.track rfl
    · rw [List.getElem?_append_right (by omega)] at e1 e2'
      have e3 : i - M.length = 0 := by
        have := (List.getElem?_eq_some_iff.mp e1).1
        simp at this; omega
      rw [e3] at e1
      rw [show i - as.length = 0 by omega] at e2'
      simp at e1 e2'
      subst e1 e2'
      exact ⟨us, hx, RpL.kp Kp.track _ _ r⟩
  apart := fun a ha z => by
    rcases List.mem_append.mp ha with q | q
    · exact m.apart a q (List.mem_cons_of_mem _ z)
    · rw [List.mem_singleton] at q; subst q
      exact hn z
  hid := fun b hb => m.hid b (List.mem_cons_of_mem _ hb)
def R.nox {α : Type} : R α → R α
  | .ok a m => .ok a m
  | _ => .no
@[simp] theorem R.nox_ok {α : Type} (a : α) (m : Mem) : (R.ok a m).nox = .ok a m := rfl
theorem R.bind_eq {α β : Type} {r : R α} {k : α → Mem → R β} {b : β} {m : Mem} (h : r.bind k = .ok b m) : ∃ a m1, r = .ok a m1 ∧ k a m1 = .ok b m := by
  cases r with
  | ok a m1 => exact ⟨a, m1, rfl, h⟩
  | ex c fs m1 => cases h
  | no => cases h
/-- the hidden list becomes the made one -/
theorem mkL_shown {W0 : Wd} {H0 : Hp} {as : List Addr} {D0 : Addr} {us : List V} {c : Bool} {ys : List D} {Q : VK} (f : Fut W0 H0 ⟨as, W0.hd⟩ H) (h0 : H0 D0 = none) (n0 : D0 ∉ W0.as ∧ D0 ∉ W0.hd) (m : MemOk G ⟨as, D0 :: W0.hd⟩ H M) (hx : H D0 = some (.lst us)) (r : RpL G ⟨as, D0 :: W0.hd⟩ H ys us) (p : PR G W0 H0 (PV G Q) E (mkL c ys M)) : Q (.ref D0) H := by
  have nas : D0 ∉ as := fun z => m.apart D0 z (List.mem_cons_self ..)
  unfold mkL at p
  cases c with
  | false =>
    rw [if_neg Bool.false_ne_true] at p
    exact p ⟨as, W0.hd⟩ H f m.show _ ⟨D0, us, rfl, ⟨hx, nas, n0.2⟩, RpL.kp Kp.show _ _ r⟩
  | true =>
    rw [if_pos rfl] at p
    refine p ⟨as ++ [D0], W0.hd⟩ H ⟨?_, rfl, f.keep, f.lk⟩ (m.track hx n0.2 r) _ ⟨D0, ?_, rfl⟩
    · obtain ⟨nw, e, q⟩ := f.ext
      have e' : as = W0.as ++ nw := e
      refine ⟨nw ++ [D0], by show as ++ [D0] = _; rw [e', List.append_assoc], fun a ha => ?_⟩
      rcases List.mem_append.mp ha with z | z
      · exact q a z
      · rw [List.mem_singleton] at z; subst z
        exact ⟨h0, n0.1⟩
    · have ml : as.length = M.length := m.len
      show (as ++ [D0])[M.length]? = some D0
      rw [← ml]; simp
noncomputable def mLc (c : Bool) (vs : List Nat) (fi : FI) (g : FG) (t : FT) (f : FE) : FE := fun env M => (fi env M).bind fun src m => if src.items.length < 16777216 then (compL src.still g t f (wipeE env vs) src.items m).nox.bind fun ys m' => mkL c ys m' else .no
theorem PR.of_ok {α : Type} {K : α → Mem → Wd → Hp → Prop} {r : R α} {x : α} {m : Mem} (e : r = .ok x m) (h : ∀ W' H', Fut W H W' H' → MemOk G W' H' m → K x m W' H') : PR G W H K E r := by
  subst e; exact h
theorem tLc_of {E' : XK} {c : Bool} {vs : List Nat} {fi : FI} {g : FG} {t : FT} {f : FE} (σ : L2.St) (H : Hp) (Q : VK) (h : tE G E (mLc c vs fi g t f) σ H Q) : tLc (tI G E fi) (tGt G E' vs g) (tT G E' t) (tE G E' f) vs σ H Q := by
  obtain ⟨W, env, M, s, p⟩ := h
  refine ⟨W, env, M, s, PR.bind p fun src m W0 H0 f0 k0 p0 => fun J sj st0 => fun D0 hD0 => ?_⟩
  have s0 := s.fut f0 k0
  split at p0
  · rename_i hz
    obtain ⟨ys, m', hrun⟩ : ∃ ys m', compL src.still g t f (wipeE env vs) src.items m = .ok ys m' := by
      cases hc : compL src.still g t f (wipeE env vs) src.items m with
      | ok ys m' => exact ⟨ys, m', rfl⟩
      | ex c fs m' => rw [hc] at p0; exact p0.elim
      | no => rw [hc] at p0; exact p0.elim
    rw [hrun] at p0
    have q0 : PR G W0 H0 (PV G Q) E (mkL c ys m') := p0
    have n0 := k0.fresh hD0
    refine ⟨fun i n H' => n + i = src.items.length ∧ ∃ as M done rest acc, compL src.still g t f (wipeE env vs) (src.items.drop i) M = .ok rest m' ∧ done ++ rest = ys ∧ done.length ≤ i ∧ Fut W0 H0 ⟨as, W0.hd⟩ H' ∧ Kp W0 H0 ⟨as, D0 :: W0.hd⟩ H' ∧ MemOk G ⟨as, D0 :: W0.hd⟩ H' M ∧ H' D0 = some (.lst acc) ∧ RpL G ⟨as, D0 :: W0.hd⟩ H' done acc, ⟨src.items.length, rfl, W0.as, m, [], ys, [], hrun, rfl, Nat.le_refl _, ⟨⟨[], by simp, by simp⟩, rfl, fun a o e _ => by rw [upd_ne (ne_of_none e hD0)]; exact e, fun a od u e => by rw [upd_ne (ne_of_none e hD0)]; exact e⟩, Kp.hide hD0, k0.hide hD0, upd_same, rfl⟩, ?_⟩
    rintro i n H1 ⟨hn, as, M1, done, rest, acc, h1, h2, h3, h4, h4k, h5, h6, h7⟩
    cases hd : src.items.drop i with
    | nil =>
      rw [hd] at h1
      unfold compL at h1
      split at h1
      · rename_i hP
        cases h1
        rw [List.append_nil] at h2
        subst h2
        have hl : src.items.length ≤ i := List.drop_eq_nil_iff.mp hd
        have : i = src.items.length := by omega
        subst this
        exact .inl ⟨sj.stop _ H1 _ h4k h4.lk h5 hP, mkL_shown h4 hD0 n0 h5 h6 h7 q0⟩
      · cases h1
    | cons d r =>
      rw [hd] at h1
      unfold compL at h1
      split at h1
      · rename_i hP
        have hi' : src.items[i]? = some d := by
          have h0 : (src.items.drop i)[0]? = some d := by rw [hd]; rfl
          rw [List.getElem?_drop] at h0
          simpa using h0
        have hr : src.items.drop (i + 1) = r := by
          rw [← List.tail_drop, hd]; rfl
        have hlt : i < src.items.length := (List.getElem?_eq_some_iff.mp hi').1
        obtain ⟨go, yl⟩ := sj.item _ H1 _ h4k h4.lk h5 hP i d hi'
        obtain ⟨env1, m1, g1, h1⟩ := R.bind_eq h1
        obtain ⟨b, m2, g2, h1⟩ := R.bind_eq h1
        refine .inr ⟨go, fun H' => ∃ as M done rest acc, compL src.still g t f (wipeE env vs) r M = .ok rest m' ∧ done ++ rest = ys ∧ done.length ≤ i + 1 ∧ Fut W0 H0 ⟨as, W0.hd⟩ H' ∧ Kp W0 H0 ⟨as, D0 :: W0.hd⟩ H' ∧ MemOk G ⟨as, D0 :: W0.hd⟩ H' M ∧ H' D0 = some (.lst acc) ∧ RpL G ⟨as, D0 :: W0.hd⟩ H' done acc, fun H' ⟨as, M, done, rest, acc, k⟩ => ⟨n - 1, by omega, by omega, as, M, done, rest, acc, by rw [hr]; exact k⟩, fun x H2 y => ?_⟩
        obtain ⟨f2, k2, rx⟩ := yl x H2 y
        have en2 : EnvOk G ⟨as, D0 :: W0.hd⟩ H2 env σ := s0.env.kp (h4k.trans (f2.kp h5))
        refine ⟨_, wipeE env vs, M1, d, ⟨k2, wipeE_ok en2 vs⟩, rx, PR.of_ok g1 fun W3 H3 f3 k3 => fun σ3 en3 ew3 => ⟨by rw [ew3]; exact wipe_wipe σ vs, W3, env1, m1, ⟨k3, en3⟩, PR.of_ok g2 fun W4 H4 f4 k4 => ?_⟩⟩
        have f24 := f2.trans (f3.trans f4)
        have a4 := h5.rpL f24 h7
        have hD4 : H4 D0 = some (.lst acc) := f24.keep _ _ h6 fun z => h5.apart D0 z (List.mem_cons_self ..)
        have ft : ∀ {as5 : List Addr} {H5 : Hp}, Fut ⟨as, D0 :: W0.hd⟩ H1 ⟨as5, D0 :: W0.hd⟩ H5 → Fut W0 H0 ⟨as5, W0.hd⟩ H5 := fun f5 => h4.trans ⟨f5.ext, rfl, f5.keep, f5.lk⟩
        cases b with
        | false =>
          rw [if_neg Bool.false_ne_true] at h1
          simp only [PB, Bool.false_eq_true, if_false]
          obtain ⟨as4, hd4⟩ := W4
          obtain rfl : hd4 = D0 :: W0.hd := f24.hd
          exact ⟨as4, m2, done, rest, acc, h1, h2, by omega, ft f24, h4k.trans (f24.kp h5), k4, hD4, a4⟩
        | true =>
          rw [if_pos rfl] at h1
          obtain ⟨y, m3, g3, h1⟩ := R.bind_eq h1
          obtain ⟨ys', m4, g4, h1⟩ := R.bind_eq h1
          cases h1
          simp only [PB, if_true]
          refine ⟨W4, env1, m2, ⟨k4, en3.fut k3 f4⟩, PR.of_ok g3 fun W5 H5 f5 k5 => fun u ru => ?_⟩
          have f25 := f24.trans f5
          obtain ⟨as5, hd5⟩ := W5
          obtain rfl : hd5 = D0 :: W0.hd := f25.hd
          have hD5 : H5 D0 = some (.lst acc) := f25.keep _ _ h6 fun z => h5.apart D0 z (List.mem_cons_self ..)
          have a5 := h5.rpL f25 h7
          have hid : D0 ∈ (⟨as5, D0 :: W0.hd⟩ : Wd).hd := List.mem_cons_self ..
          have kh : Kp ⟨as5, D0 :: W0.hd⟩ H5 ⟨as5, D0 :: W0.hd⟩ (upd H5 D0 (.lst (acc ++ [u]))) := Kp.hidden hid hD5
          refine ⟨acc, hD5, by rw [h7.len, line_eq]; omega, as5, m3, done ++ [y], ys', acc ++ [u], g4, by rw [List.append_assoc]; exact h2, by simp; omega, ?_, h4k.trans ((f25.kp h5).trans kh), k5.hidden hid hD5, upd_same, RpL.kp kh _ _ (a5.append ⟨u, [], rfl, ru, rfl⟩)⟩
          have f5' := ft f25
          exact ⟨f5'.ext, rfl, fun a o e ha => by rw [upd_ne (ne_of_none e hD0)]; exact f5'.keep a o e ha, fun a od u e => by rw [upd_ne (ne_of_none e hD0)]; exact f5'.lk a od u e⟩
      · cases h1
  · exact p0.elim
theorem sn_lc (c : Bool) {elt tg iter : Expr} {ifs : List Expr} {scope : Scope} {own : List (Str × Nat)} {fi : FI} {g : FG} {t : FT} {f : FE} (hc : X.calm = true) (hN : X.N.Nodup) (hi : PI X tg iter (tI G E fi)) (ok : BlkOk X.N X.env.scope scope own)
    (hg : ∀ (s : Shared) (H : Hp) (C : Addr) (cl : List (Str × Addr)) (fp : List Addr), PG (X.blk s H scope (compEnvC scope cl C X.env) fp) tg (tGt G (fun _ _ _ => False) (own.map (·.2)) g)) (ht : ∀ (s : Shared) (H : Hp) (C : Addr) (cl : List (Str × Addr)) (fp : List Addr), PTs (X.blk s H scope (compEnvC scope cl C X.env) fp) ifs (tT G (fun _ _ _ => False) t))
    (he : ∀ (s : Shared) (H : Hp) (C : Addr) (cl : List (Str × Addr)) (fp : List Addr), PE (X.blk s H scope (compEnvC scope cl C X.env) fp) elt (tE G (fun _ _ _ => False) f)) (hs : ∀ x, foldedSetIterable iter X.env x = pure x := by intro _; rfl) :
    PE X (.ListComp elt [⟨tg, iter, ifs, 0⟩] scope pos) (tE G E (mLc c (own.map (·.2)) fi g t f)) := pe_imp (pe_lc hc hN hi ok hg ht he hs) tLc_of
theorem ss_setLc (c : Bool) {i : Nat} {y : Str} {py : Pos} {elt tg iter : Expr} {ifs : List Expr} {scope : Scope} {own : List (Str × Nat)} {spos : Pos} {fi : FI} {g : FG} {t : FT} {f : FE} (hc : X.calm = true) (hN : X.N.Nodup) (hy : X.N[i]? = some y) (hyl : X.env.scope.names.lookup y = some .local)
    (hsw : swapsWith (.ListComp elt [⟨tg, iter, ifs, 0⟩] scope pos) (some (.Name y py)) spos.line X.env = pure true) (hi : PI X tg iter (tI G E fi)) (ok : BlkOk X.N X.env.scope scope own)
    (hg : ∀ (s : Shared) (H : Hp) (C : Addr) (cl : List (Str × Addr)) (fp : List Addr), PG (X.blk s H scope (compEnvC scope cl C X.env) fp) tg (tGt G (fun _ _ _ => False) (own.map (·.2)) g)) (ht : ∀ (s : Shared) (H : Hp) (C : Addr) (cl : List (Str × Addr)) (fp : List Addr), PTs (X.blk s H scope (compEnvC scope cl C X.env) fp) ifs (tT G (fun _ _ _ => False) t))
    (he : ∀ (s : Shared) (H : Hp) (C : Addr) (cl : List (Str × Addr)) (fp : List Addr), PE (X.blk s H scope (compEnvC scope cl C X.env) fp) elt (tE G (fun _ _ _ => False) f)) (hs : ∀ x, foldedSetIterable iter X.env x = pure x := by intro _; rfl) :
    PS X (.Assign [.Name y py] (.ListComp elt [⟨tg, iter, ifs, 0⟩] scope pos) spos) (tS G E (mSet i (mLc c (own.map (·.2)) fi g t f))) := ps_imp (ps_setLc hc hN hy hyl hsw hi ok hg ht he hs) fun D σ H ⟨W, env, M, s, p⟩ => by
  refine tLc_of (c := c) σ H _ ?_
  refine tE.bind s p fun d m W1 H1 u f1 s1 r1 p1 => ?_
  exact p1.here s1.mem _ (s1.env.set i r1)
theorem sts_nil : PTs X [] (tT G E tsYes) := ⟨fun pins s σ H Q I h => pts_nil.run pins s σ H Q I (by obtain ⟨W, env, M, st, p⟩ := h; exact p.here st.mem)⟩
theorem sts_one {t : FT} (h : PT X c (tT G E t)) : PTs X [c] (tT G E t) := pts_one h
end
end Fn
set_option Elab.async false
set_option linter.all false
set_option maxRecDepth 100000
set_option maxHeartbeats 1000000
namespace Fn
open PySem PySem.Spec PyProof.Rows L2
abbrev FD := List D → Mem → R D
section
variable {X : Cx} {G : Gx} {cl : Nat → Addr} {E : XK} {W : Wd} {H : Hp} {M : Mem} {a b c : Expr} {fa fb fc : FE} {pos : Pos}
def spOf (G : Gx) (n : Nat) (g : FD) : Sp := fun vs H Q E => ∃ W M ds, MemOk G W H M ∧ RpL G W H ds vs ∧ ds.length = n ∧ PR G W H (PV G Q) E (g ds M)
theorem passA {X : Cx} {E : XK} : Passes CX0 X E := fun _ _ _ _ _ _ _ h => h.elim
/-- f(..) with the written arguments and the defaults dd -/
def mFun (n : Nat) (g : FD) (dd : List D) (fa : FA) : FE := fun env M => (fa env M).bind fun ds m => if (ds ++ dd).length = n then g (ds ++ dd) m else .no
def Closed (dd : List D) (dvs : List V) : Prop := ∀ (G : Gx) (W : Wd) (H : Hp), RpL G W H dd dvs
theorem closed_nil : Closed [] [] := fun _ _ _ => rfl
section
variable {CX : CXT} {k n : Nat} {f C : Addr} {fd : FuncData} {ps : List Str} {g : FD} {dvs : List V} {dd : List D} {ds : List Value} {x m : Str} {p apos : Pos} {e o : Expr} {es : List Expr} {ga : FA}
theorem fun_reads {E' : XK} (hc : Closed dd dvs) (σ : L2.St) (H : Hp) (Q : VK) (h : tE G E (mFun n g dd ga) σ H Q) : tCall (spOf G n g) dvs E (tA G E ga) σ H Q := by
  obtain ⟨W, env, M, s, p⟩ := h
  refine tA.bind s p fun ds m2 W2 H2 us f2 s2 r2 p2 => ?_
  split at p2
  · rename_i hl
    exact ⟨W2, m2, ds ++ dd, s2.mem, r2.append (hc G W2 H2), hl, p2⟩
  · exact p2.elim
theorem sn_call (F : FnOk X.prog X.w X.K X.mg X.base CX k f fd ps (spOf ⟨X.K, cl, X.w⟩ n g)) (hr : Room k X.A) (hg : Gl X x) (hm : X.mg x = some (.ref f)) (hk : PySem.W.keepIn X.K (.ref f) = true) (hb : Binds X.K fd ps ds) (hd : Vals dvs ds) (hc : Closed dd dvs) (hx : Passes CX X E)
    (ha : PA X (e :: es) (tA ⟨X.K, cl, X.w⟩ E ga)) (hdb : (x == ("__debug__" : Str)) = false := by decide) (he : starEach (e :: es) X.env = (false, eval e X.env) :: starEach es X.env := by rfl) (hpl : (backTo pos (starEach es X.env)).any (·.1) = false := by rfl) :
    PE X (.Call (.Name x p) (e :: es) [] pos) (tE ⟨X.K, cl, X.w⟩ E (mFun n g dd ga)) := pe_imp (pe_call F hr hg hm hk hb hd hx ha hdb he hpl) (fun_reads (E' := E) hc)
theorem sn_call0 (F : FnOk X.prog X.w X.K X.mg X.base CX k f fd ps (spOf ⟨X.K, cl, X.w⟩ n g)) (hr : Room k X.A) (hg : Gl X x) (hm : X.mg x = some (.ref f)) (hk : PySem.W.keepIn X.K (.ref f) = true) (hb : Binds X.K fd ps ds) (hd : Vals dvs ds) (hc : Closed dd dvs) (hx : Passes CX X E)
    (hdb : (x == ("__debug__" : Str)) = false := by decide) : PE X (.Call (.Name x p) [] [] pos) (tE ⟨X.K, cl, X.w⟩ E (mFun n g dd aNil)) := pe_imp (pe_call0 F hr hg hm hk hb hd hx hdb) fun σ H Q h => by
  obtain ⟨W, env, M, s, p⟩ := h
  have p' : PR ⟨X.K, cl, X.w⟩ W H (PV ⟨X.K, cl, X.w⟩ Q) E (if ([] ++ dd).length = n then g ([] ++ dd) M else .no) := p
  split at p'
  · rename_i hl
    exact ⟨W, M, [] ++ dd, s.mem, hc _ _ _, hl, p'⟩
  · exact p'.elim
end
def envStart (N : Nat) (ds : List D) : Env := ds.map some ++ List.replicate (N - ds.length) none
/-- rb, a body's run, does what rg tells -/
def Ref (M : Mem) (rg : R D) (rb : R Flow) : Prop := ∀ (G : Gx) (W : Wd) (H : Hp) (Q : VK) (E : XK), MemOk G W H M → PR G W H (PV G Q) E rg → PR G W H (PFl G { nx := fun _ H' => Q .non H', rt := Q }) E rb
theorem Ref.no {M : Mem} {rb : R Flow} : Ref M .no rb := fun _ _ _ _ _ _ h => h.elim
theorem Ref.ret {M m : Mem} {d : D} : Ref M (.ok d m) (.ok (.rt d) m) := fun _ _ _ _ _ _ h => h
theorem Ref.nx {M m : Mem} {env : Env} : Ref M (.ok .non m) (.ok (.nx env) m) := fun _ _ _ _ _ _ h => fun W' H' f m' σ' _ => h W' H' f m' .non rfl
theorem Ref.ex {M m : Mem} {c : Nat} {fs : List (Str × D)} : Ref M (.ex c fs m) (.ex c fs m) := fun _ _ _ _ _ _ h => h
theorem Ref.of {M : Mem} {rg : R D} {rb rb' : R Flow} (e : rb = rb') (h : Ref M rg rb') : Ref M rg rb := by rw [e]; exact h
theorem envStart_ok {N : List Str} {ds : List D} {vs : List V} (r : RpL G W H ds vs) : EnvOk G W H (envStart N.length ds) (L2.start N vs) := by
  unfold envStart L2.start
  rw [r.len]
  refine ⟨by simp [r.len], fun i d e => ?_⟩
  by_cases hi : i < ds.length
  · rw [List.getElem?_append_left (by simpa using hi), List.getElem?_map] at e
    cases q : ds[i]? with
    | none => rw [q] at e; cases e
    | some d' =>
      rw [q] at e; cases e
      obtain ⟨u, h1, h2⟩ := r.get q
      refine ⟨u, ?_, h2⟩
      rw [List.getElem?_append_left (by simp [r.len]; exact hi), List.getElem?_map, h1]
      rfl
  · rw [List.getElem?_append_right (by simp; omega), List.getElem?_replicate] at e
    split at e <;> cases e
/-- a def's model: its body's run -/
def runB (B : FS) (N : Nat) : FD := fun ds M => match B (envStart N ds) M with
  | .ok (.rt d) m => .ok d m
  | .ok (.nx _) m => .ok .non m
  | .ok _ _ => .no
  | .ex c fs m => .ex c fs m
  | .no => .no
theorem ref_run (B : FS) (N : Nat) (ds : List D) (M : Mem) : Ref M (runB B N ds M) (B (envStart N ds) M) := by
  unfold runB
  split
  · rename_i e; exact Ref.of e Ref.ret
  · rename_i e; exact Ref.of e Ref.nx
  · exact Ref.no
  · rename_i e; exact Ref.of e Ref.ex
  · exact Ref.no
mutual
def bdD (n : Nat) : D → Bool
  | .ref i => decide (i < n)
  | .tup l => bdL n l
  | .ct l => bdL n l
  | .lst l => bdL n l
  | .fz l => bdL n l
  | _ => true
def bdL (n : Nat) : List D → Bool
  | [] => true
  | d :: r => bdD n d && bdL n r
end
def bdC (n : Nat) : Cell → Bool
  | .lst l => bdL n l
  | .dk _ kvs => bdL n (kvs.map (·.2))
  | .dt _ kvs => bdL n (kvs.map (·.2))
  | .dn _ kvs => bdL n (kvs.map (·.2))
  | .ins _ fs => bdL n (fs.map (·.2))
mutual
def frzD (m : Mem) (n : Nat) : D → D
  | .ref i => if i < n then .ref i else match m[i]? with
    | some (.lst l) => .lst l
    | _ => .ref i
  | .tup l => .tup (frzL m n l)
  | .ct l => .ct (frzL m n l)
  | .lst l => .lst (frzL m n l)
  | .fz l => .fz (frzL m n l)
  | d => d
def frzL (m : Mem) (n : Nat) : List D → List D
  | [] => []
  | d :: r => frzD m n d :: frzL m n r
end
/-- may the memory be cut to its first cells -/
def cutOk (M m : Mem) (d : D) : Prop := M.length ≤ m.length ∧ bdD M.length d = true ∧ ∀ (j : Nat) (c : Cell), j < M.length → m[j]? = some c → M[j]? = some c ∨ bdC M.length c = true
open Classical in
noncomputable def gcR (M : Mem) (r : R D) : R D := match r with
  | .ok d m => if cutOk M m (frzD m M.length d) then .ok (frzD m M.length d) (m.take M.length) else .ok d m
  | r => r
noncomputable def gcB (B : FS) (N : Nat) : FD := fun ds M => gcR M (runB B N ds M)
mutual
theorem Rp.bd {n : Nat} (hn : n = W.as.length) : ∀ (d : D) (u : V), Rp G W H d u → bdD n d = true
  | .non, u, h => rfl
  | .bl b, u, h => rfl
  | .int i, u, h => rfl
  | .str x, u, h => rfl
  | .tup l, u, h => by obtain ⟨a, us, e, s, r⟩ := h; exact RpL.bd hn l us r
  | .ct l, u, h => by obtain ⟨a, us, e, s, r⟩ := h; exact RpL.bd hn l us r
  | .lst l, u, h => by obtain ⟨a, us, e, s, r⟩ := h; exact RpL.bd hn l us r
  | .fz l, u, h => by obtain ⟨a, us, e, s, r⟩ := h; exact RpL.bd hn l us r
  | .ref i, u, h => by
    obtain ⟨a, e, r⟩ := h
    simp only [bdD, decide_eq_true_eq, hn]
    exact (List.getElem?_eq_some_iff.mp e).1
theorem RpL.bd {n : Nat} (hn : n = W.as.length) : ∀ (l : List D) (us : List V), RpL G W H l us → bdL n l = true
  | [], us, h => rfl
  | d :: r, us, h => by
    obtain ⟨u, us', e, h1, h2⟩ := h
    simp only [bdL, Rp.bd hn d u h1, RpL.bd hn r us' h2, Bool.and_self]
end
/-- the world cut to its first cells -/
def cutW (W : Wd) (n : Nat) : Wd := ⟨W.as.take n, W.hd⟩
theorem mem_take {α : Type} {l : List α} {n : Nat} {a : α} (h : a ∈ l.take n) : a ∈ l := List.mem_of_mem_take h
mutual
theorem Rp.trim {n : Nat} (hn : n ≤ W.as.length) : ∀ (d : D) (u : V), bdD n d = true → Rp G W H d u → Rp G (cutW W n) H d u
  | .non, u, b, h => h
  | .bl _, u, b, h => h
  | .int i, u, b, h => h
  | .str x, u, b, h => h
  | .tup l, u, b, h => by obtain ⟨a, us, e, s, r⟩ := h; exact ⟨a, us, e, s, RpL.trim hn l us b r⟩
  | .ct l, u, b, h => by obtain ⟨a, us, e, s, r⟩ := h; exact ⟨a, us, e, s, RpL.trim hn l us b r⟩
  | .lst l, u, b, h => by obtain ⟨a, us, e, s, r⟩ := h; exact ⟨a, us, e, ⟨s.1, fun z => s.2.1 (mem_take z), s.2.2⟩, RpL.trim hn l us b r⟩
  | .fz l, u, b, h => by obtain ⟨a, us, e, s, r⟩ := h; exact ⟨a, us, e, s, RpL.trim hn l us b r⟩
  | .ref i, u, b, h => by
    obtain ⟨a, e, r⟩ := h
    refine ⟨a, ?_, r⟩
    simp only [bdD, decide_eq_true_eq] at b
    show (W.as.take n)[i]? = some a
    rw [List.getElem?_take, if_pos b]
    exact e
theorem RpL.trim {n : Nat} (hn : n ≤ W.as.length) : ∀ (l : List D) (us : List V), bdL n l = true → RpL G W H l us → RpL G (cutW W n) H l us
  | [], us, b, h => h
  | d :: r, us, b, h => by
    obtain ⟨u, us', e, h1, h2⟩ := h
    simp only [bdL, Bool.and_eq_true] at b
    exact ⟨u, us', e, Rp.trim hn d u b.1 h1, RpL.trim hn r us' b.2 h2⟩
end
mutual
theorem Rp.frz {m : Mem} {n : Nat} (k : MemOk G W H m) (hn : n ≤ W.as.length) : ∀ (d : D) (u : V), bdD n (frzD m n d) = true → Rp G W H d u → Rp G (cutW W n) H (frzD m n d) u
  | .non, u, b, h => h
  | .bl _, u, b, h => h
  | .int i, u, b, h => h
  | .str x, u, b, h => h
  | .tup l, u, b, h => by obtain ⟨a, us, e, s, r⟩ := h; exact ⟨a, us, e, s.imp id fun z => ⟨by rw [z.1]; rfl, z.2⟩, RpL.frz k hn l us b r⟩
  | .ct l, u, b, h => by obtain ⟨a, us, e, s, r⟩ := h; exact ⟨a, us, e, s, RpL.frz k hn l us b r⟩
  | .lst l, u, b, h => by obtain ⟨a, us, e, s, r⟩ := h; exact ⟨a, us, e, ⟨s.1, fun z => s.2.1 (mem_take z), s.2.2⟩, RpL.frz k hn l us b r⟩
  | .fz l, u, b, h => by obtain ⟨a, us, e, s, r⟩ := h; exact ⟨a, us, e, s, RpL.frz k hn l us b r⟩
  | .ref i, u, b, h => by
    simp only [frzD] at b ⊢
    split at b
    · rename_i hi
      rw [if_pos hi]
      exact Rp.trim hn (.ref i) u (by simp only [bdD, decide_eq_true_eq]; exact hi) h
    · rename_i hi
      rw [if_neg hi]
      split at b
      · rename_i l hc
        obtain ⟨a, e, rfl⟩ := h
        obtain ⟨us, h1, h2⟩ := k.cell i _ a hc e
        refine ⟨a, us, rfl, ⟨h1, fun z => ?_, k.apart a (List.mem_of_getElem? e)⟩, RpL.trim hn l us b h2⟩
        obtain ⟨j, hj⟩ := List.getElem?_of_mem z
        have hj' : (W.as.take n)[j]? = some a := hj
        rw [List.getElem?_take] at hj'
        split at hj'
        · rename_i hjn
          have := (List.getElem?_inj (List.getElem?_eq_some_iff.mp hj').1 k.nd).mp (hj'.trans e.symm)
          omega
        · cases hj'
      · simp only [bdD, decide_eq_true_eq] at b
        exact absurd b hi
theorem RpL.frz {m : Mem} {n : Nat} (k : MemOk G W H m) (hn : n ≤ W.as.length) : ∀ (l : List D) (us : List V), bdL n (frzL m n l) = true → RpL G W H l us → RpL G (cutW W n) H (frzL m n l) us
  | [], us, b, h => h
  | d :: r, us, b, h => by
    obtain ⟨u, us', e, h1, h2⟩ := h
    simp only [frzL, bdL, Bool.and_eq_true] at b
    exact ⟨u, us', e, Rp.frz k hn d u b.1 h1, RpL.frz k hn r us' b.2 h2⟩
end
theorem rpk_vals {κ κ' : Type} {f : κ → κ'} : ∀ {l : List (κ × D)} {vs : List (κ' × V)}, RpK G W H f l vs → RpL G W H (l.map (·.2)) (vs.map (·.2))
  | _, _, .nil => (rfl : ([] : List V) = [])
  | _, _, .cons h t => ⟨_, _, rfl, h.2, rpk_vals t⟩
theorem rpn_vals : ∀ {l : List (NK × D)} {vs : List (NestedKey × Addr × V)}, RpN G W H l vs → RpL G W H (l.map (·.2)) (vs.map (·.2.2))
  | _, _, .nil => (rfl : ([] : List V) = [])
  | _, _, .cons h t => ⟨_, _, rfl, h.2.2.2, rpn_vals t⟩
theorem CellOk.bd {n : Nat} (hn : n = W.as.length) {a : Addr} {c : Cell} (h : CellOk G W H a c) : bdC n c = true := by
  cases c with
  | lst l => obtain ⟨us, _, r⟩ := h; exact RpL.bd hn l us r
  | dk lk kvs => obtain ⟨us, _, r⟩ := h; exact RpL.bd hn _ _ (rpk_vals r)
  | dt lk kvs => obtain ⟨us, _, r⟩ := h; exact RpL.bd hn _ _ (rpk_vals r)
  | dn lk kvs => obtain ⟨us, _, r⟩ := h; exact RpL.bd hn _ _ (rpn_vals r)
  | ins c0 fs => obtain ⟨dx, us, _, r⟩ := h; exact RpL.bd hn _ _ (rpk_vals r)
theorem rpk_cut {n : Nat} (hn : n ≤ W.as.length) {κ κ' : Type} {f : κ → κ'} : ∀ {l : List (κ × D)} {vs : List (κ' × V)}, bdL n (l.map (·.2)) = true → RpK G W H f l vs → RpK G (cutW W n) H f l vs
  | _, _, _, .nil => .nil
  | _, _, b, .cons h t => by
    simp only [List.map_cons, bdL, Bool.and_eq_true] at b
    exact .cons ⟨h.1, Rp.trim hn _ _ b.1 h.2⟩ (rpk_cut hn b.2 t)
theorem rpn_cut {n : Nat} (hn : n ≤ W.as.length) : ∀ {l : List (NK × D)} {vs : List (NestedKey × Addr × V)}, bdL n (l.map (·.2)) = true → RpN G W H l vs → RpN G (cutW W n) H l vs
  | _, _, _, .nil => .nil
  | _, _, b, .cons h t => by
    simp only [List.map_cons, bdL, Bool.and_eq_true] at b
    exact .cons ⟨h.1, h.2.1, h.2.2.1, Rp.trim hn _ _ b.1 h.2.2.2⟩ (rpn_cut hn b.2 t)
theorem CellOk.trim {n : Nat} (hn : n ≤ W.as.length) {a : Addr} {c : Cell} (b : bdC n c = true) (h : CellOk G W H a c) : CellOk G (cutW W n) H a c := by
  cases c with
  | lst l => obtain ⟨us, q, r⟩ := h; exact ⟨us, q, RpL.trim hn l us b r⟩
  | dk lk kvs => obtain ⟨us, q, r⟩ := h; exact ⟨us, q, rpk_cut hn b r⟩
  | dt lk kvs => obtain ⟨us, q, r⟩ := h; exact ⟨us, q, rpk_cut hn b r⟩
  | dn lk kvs => obtain ⟨us, q, r⟩ := h; exact ⟨us, q, rpn_cut hn b r⟩
  | ins c0 fs => obtain ⟨dx, us, q, r⟩ := h; exact ⟨dx, us, q, rpk_cut hn b r⟩
theorem MemOk.bd (k : MemOk G W H M) {j : Nat} {c : Cell} (h : M[j]? = some c) : bdC M.length c = true := by
  have hl : j < W.as.length := by rw [k.len]; exact (List.getElem?_eq_some_iff.mp h).1
  exact (k.cell j c _ h (List.getElem?_eq_getElem hl)).bd k.len.symm
theorem MemOk.trim {m : Mem} (k0 : MemOk G W H M) {W' : Wd} {H' : Hp} (k : MemOk G W' H' m) (hl : M.length ≤ m.length) (hb : ∀ (j : Nat) (c : Cell), j < M.length → m[j]? = some c → M[j]? = some c ∨ bdC M.length c = true) : MemOk G (cutW W' M.length) H' (m.take M.length) where
  len := by
    show (W'.as.take M.length).length = _
    rw [List.length_take, List.length_take, k.len]
  nd := k.nd.sublist (List.take_sublist ..)
  cell := fun i c a e1 e2 => by
    have e2' : (W'.as.take M.length)[i]? = some a := e2
    rw [List.getElem?_take] at e1 e2'
    split at e1
    · rename_i hi
      rw [if_pos hi] at e2'
      have hn : M.length ≤ W'.as.length := by rw [k.len]; exact hl
      refine (k.cell i c a e1 e2').trim hn ?_
      rcases hb i c hi e1 with z | z
      · exact k0.bd z
      · exact z
    · cases e1
  apart := fun a ha => k.apart a (mem_take ha)
  hid := k.hid
theorem Fut.trim {W' : Wd} {H' : Hp} (k0 : MemOk G W H M) (f : Fut W H W' H') : Fut W H (cutW W' M.length) H' := by
  refine ⟨⟨[], ?_, by simp⟩, f.hd, f.keep, f.lk⟩
  obtain ⟨nw, e, _⟩ := f.ext
  show W'.as.take M.length = _
  rw [e, ← k0.len, List.append_nil, List.take_left']
  rfl
theorem ref_gc (B : FS) (N : Nat) (ds : List D) (M : Mem) : Ref M (gcB B N ds M) (B (envStart N ds) M) := by
  intro G W H Q E m p
  refine ref_run B N ds M G W H Q E m ?_
  unfold gcB at p
  cases hr : runB B N ds M with
  | ex c fs m' => rw [hr] at p; exact p
  | no => rw [hr] at p; exact p
  | ok d m' =>
    rw [hr] at p
    simp only [gcR] at p
    split at p
    · rename_i hc
      refine fun W' H' f k u ru => p (cutW W' M.length) H' (Fut.trim m f) (MemOk.trim m k hc.1 hc.2.2) u ?_
      exact Rp.frz k (by rw [k.len]; exact hc.1) d u hc.2.1 ru
    · exact p
/-- the usual ends: cells ahead as they were, or one written -/
theorem cut_id {M junk : Mem} {d : D} (hd : bdD M.length d = true) : cutOk M (M ++ junk) d := ⟨by simp, hd, fun j c hj e => .inl (by rw [List.getElem?_append_left hj] at e; exact e)⟩
theorem cut_set {M junk : Mem} {d : D} {i : Nat} {c : Cell} (hd : bdD M.length d = true) (hc : bdC M.length c = true) : cutOk M (M.set i c ++ junk) d := ⟨by simp, hd, fun j c' hj e => by
  rw [List.getElem?_append_left (by simpa using hj)] at e
  by_cases hij : i = j
  · subst hij
    rw [List.getElem?_set_self hj] at e
    cases e
    exact .inr hc
  · rw [List.getElem?_set_ne hij] at e
    exact .inl e⟩
section
variable {P : Program} {w : World} {K : PySem.W.Frag} {mg : Str → Option Value} {base : Heap}
/-- THE RULE: a def's body by its model, the model by what is said of it -/
theorem fn_def {x qual : Str} {st : Stmt} {f : Addr} {fd : FuncData} {N ps : List Str} {k : Nat} {g : FD} {B : FS} {cl : Nat → Addr} (F : Fun K x qual st f fd) (S : FnScope N ps (defScope st))
    (hbody : ∀ (cdv : Value) (A : Around) (outer : List PySem.Env) (s : Shared) (H : Hp) (E : XK), Room k (A.deeper (envOfC qual (defScope st) s.heap.objs.size f cdv)) →
      PSs (cxOf CX0 P w K mg base N qual (defScope st) f cdv A outer s H E).nox (defBody st) (tS ⟨K, cl, w⟩ E B))
    (href : ∀ ds M, ds.length = ps.length → Ref M (g ds M) (B (envStart N.length ds) M)) : FnOk P w K mg base CX0 (k + 1) f fd ps (spOf ⟨K, cl, w⟩ ps.length g) := by
  refine F.ok S (fun vs H Q E ⟨W, M, ds, m, r, hl, _⟩ => by rw [r.len, hl]) fun cdv A outer s H vs Q E hr ⟨W, M, ds, m, r, hl, p⟩ => ?_
  exact ⟨_, hbody cdv A outer s H E hr, W, envStart N.length ds, M, ⟨m, envStart_ok r⟩, href ds M hl _ W H Q E m p⟩
end
end
end Fn
set_option Elab.async false
set_option linter.all false
set_option maxRecDepth 100000
set_option maxHeartbeats 1000000
namespace Fn
open PySem PySem.Spec PyProof.Rows L2
section
variable {X : Cx} {G : Gx} {cl : Nat → Addr} {E : XK} {W : Wd} {H : Hp} {M : Mem} {a b c : Expr} {fa fb fc : FE} {pos : Pos}
theorem huE {k : Nat} {A : Around} (hr : Room k A) : A.units + 64 < cLine := hr.units
theorem hu1E {k : Nat} {A : Around} (hr : Room k A) : A.units + 65 < cLine := by have := hr.un; omega
theorem sn_strL {x : Str} {l : List Nat} {j : Nat} (h : s2l x = l) : PE X (.Constant (.str x) j pos) (tE G E (mC (.str l))) := by subst h; exact sn_str
section
variable {id T : String} {r : List V → Hp → VK → Prop} {o : List D → Mem → R D} {x : Str} {p : Pos} {e : Expr} {es : List Expr} {g : FA}
theorem sn_callB (hc : CallR X (.builtin id) r) (hs : Fn1 ⟨X.K, cl, X.w⟩ E r o) (hg : Gl X x) (hm : X.mg x = none) (hv : bootBuiltins x = some (.builtin id)) (ha : PA X (e :: es) (tA ⟨X.K, cl, X.w⟩ E g)) (hn : x ≠ "__name__" := by decide) (hdb : (x == ("__debug__" : Str)) = false := by decide)
    (he : starEach (e :: es) X.env = (false, eval e X.env) :: starEach es X.env := by rfl) (hpl : (backTo pos (starEach es X.env)).any (·.1) = false := by rfl) : PE X (.Call (.Name x p) (e :: es) [] pos) (tE ⟨X.K, cl, X.w⟩ E (mCall o g)) :=
  pe_imp (pe_callB hc hg hm hv ha hn hdb he hpl) (tE_call hs)
theorem sn_callTy (hc : CallR X (.type T) r) (hs : Fn1 ⟨X.K, cl, X.w⟩ E r o) (hg : Gl X x) (hm : X.mg x = none) (hv : bootBuiltins x = some (.type T)) (ha : PA X (e :: es) (tA ⟨X.K, cl, X.w⟩ E g)) (hn : x ≠ "__name__" := by decide) (hdb : (x == ("__debug__" : Str)) = false := by decide)
    (he : starEach (e :: es) X.env = (false, eval e X.env) :: starEach es X.env := by rfl) (hpl : (backTo pos (starEach es X.env)).any (·.1) = false := by rfl) : PE X (.Call (.Name x p) (e :: es) [] pos) (tE ⟨X.K, cl, X.w⟩ E (mCall o g)) :=
  pe_imp (pe_callTy hc hg hm hv ha hn hdb he hpl) (tE_call hs)
end
section
variable {id T : String} {r : V → List V → Hp → VK → Prop} {o : D → List D → Mem → R D} {name : Str} {apos cpos : Pos} {rc e : Expr} {es : List Expr} {f : FE} {g : FA}
theorem tyW_is {pins : List (Addr × Obj)} {σ : L2.St} {H : Hp} {s : Shared} {T : String} {x : V} {v : Value} (I : Inv X pins σ H s) (r : RelV x v) (ty : tyW X.K X.w T x H) : s.TypeIs v T ∧ ∀ a, v = .ref a → ∃ ob, s.heap.get? a = some ob ∧ ob.dict = none := by
  rcases ty with ty | ⟨rfl, a, es, rfl, ha⟩
  · exact tyV_is I r ty
  · obtain rfl : v = Value.ref a := r
    obtain ⟨⟨z, hd, xs, pr, ob, arr, ep, h1, h2, _⟩, _, _⟩ := I.hok a _ ha
    exact ⟨⟨ob, h1, h2.1⟩, fun b e => by cases e; exact ⟨ob, h1, h2.2.1⟩⟩
theorem pe_mw0 {to : TE} (pa : PlainAttrs T) (slot : Slot T name id) (hty : typeOf (.builtin id) = pure (.type "method_descriptor")) (hm : MtR X id r) (ho : PE X rc to)
    (hbase : attributeBase rc name X.env (eval rc X.env) = eval rc X.env := by rfl) (hline : (apos.endLine == cpos.line) = true := by rfl) : PE X (.Call (.Attribute rc name apos) [] [] cpos) (tMw0 X.K X.w T r to) := ⟨fun pins s σ H Q I h =>
  wpAny_Call_method0_late hbase hline (thn (ho.run pins s σ H _ I h) fun v s1 ⟨x, H1, I1, r1, ty, q1⟩ =>
    have hh := tyW_is I1 r1 ty
    ⟨T, id, pa, slot, hty, hh.1, hh.2, Calls.callWith_builtin rfl (PySem.evalArgs_none (hm pins s1 σ H1 x [] v [] Q I1 r1 .nil q1))⟩)⟩
theorem pe_mw {to : TE} {t : TA} (pa : PlainAttrs T) (slot : Slot T name id) (hty : typeOf (.builtin id) = pure (.type "method_descriptor")) (hm : MtR X id r) (ho : PE X rc to) (ha : PA X (e :: es) t)
    (hbase : attributeBase rc name X.env (eval rc X.env) = eval rc X.env := by rfl)
    (hfew : ((backTo cpos (starEach (e :: es) X.env)).all (fun x => !x.1) && (backToKw cpos (keywordEach [] X.env)).all (fun x => x.1.isSome)
      && decide ((e :: es).length + ([] : List Keyword).length + (if ([] : List Keyword).isEmpty then 0 else 1) < 30)) = true := by rfl)
    (hline : (apos.endLine == cpos.line) = true := by rfl) (hs : starEach (e :: es) X.env = (false, eval e X.env) :: starEach es X.env := by rfl) (hplain : (backTo cpos (starEach es X.env)).any (·.1) = false := by rfl) :
    PE X (.Call (.Attribute rc name apos) (e :: es) [] cpos) (tMw X.K X.w T r to t) := by
  refine ⟨fun pins s σ H Q I h => ?_⟩
  refine wpAny_Call_method_late hbase hfew hline rfl (thn (ho.run pins s σ H _ I h) fun v s1 ⟨x, H1, I1, r1, ty, q1⟩ => ?_)
  have hh := tyW_is I1 r1 ty
  refine ⟨T, id, pa, slot, hty, hh.1, hh.2, ?_⟩
  have hA := ha.run cpos pins s1 σ H1 _ I1 q1
  rw [hs] at hA ⊢
  refine Calls.callWith_builtin (by show (false || (backTo cpos (starEach es X.env)).any (·.1)) = false; rw [hplain] <;> rfl) (Calls.evalArgs_plain ?_)
  exact thn hA fun us s2 ⟨vs, H2, I2, r2, q2⟩ => hm pins s2 σ H2 x vs v us Q I2 r1 r2 q2
theorem sn_meth (pa : PlainAttrs T) (slot : Slot T name id) (hty : typeOf (.builtin id) = pure (.type "method_descriptor")) (hm : MtR X id r) (hs : Mt1 ⟨X.K, cl, X.w⟩ E r o) (ho : PE X rc (tE ⟨X.K, cl, X.w⟩ E f)) (ha : PA X (e :: es) (tA ⟨X.K, cl, X.w⟩ E g))
    (hbase : attributeBase rc name X.env (eval rc X.env) = eval rc X.env := by rfl)
    (hfew : ((backTo cpos (starEach (e :: es) X.env)).all (fun x => !x.1) && (backToKw cpos (keywordEach [] X.env)).all (fun x => x.1.isSome)
      && decide ((e :: es).length + ([] : List Keyword).length + (if ([] : List Keyword).isEmpty then 0 else 1) < 30)) = true := by rfl)
    (hline : (apos.endLine == cpos.line) = true := by rfl) (hs1 : starEach (e :: es) X.env = (false, eval e X.env) :: starEach es X.env := by rfl) (hplain : (backTo cpos (starEach es X.env)).any (·.1) = false := by rfl) :
    PE X (.Call (.Attribute rc name apos) (e :: es) [] cpos) (tE ⟨X.K, cl, X.w⟩ E (mMeth T o f g)) := pe_imp (pe_mw pa slot hty hm ho ha hbase hfew hline hs1 hplain) (tE_meth hs)
theorem sn_meth0 (pa : PlainAttrs T) (slot : Slot T name id) (hty : typeOf (.builtin id) = pure (.type "method_descriptor")) (hm : MtR X id r) (hs : Mt1 ⟨X.K, cl, X.w⟩ E r o) (ho : PE X rc (tE ⟨X.K, cl, X.w⟩ E f))
    (hbase : attributeBase rc name X.env (eval rc X.env) = eval rc X.env := by rfl) (hline : (apos.endLine == cpos.line) = true := by rfl) :
    PE X (.Call (.Attribute rc name apos) [] [] cpos) (tE ⟨X.K, cl, X.w⟩ E (mMeth T o f aNil)) := pe_imp (pe_mw0 pa slot hty hm ho hbase hline) (tE_meth0 hs)
end
theorem test_of {f : FE} {t : TE} (h : ∀ σ H Q, tE G E f σ H Q → t σ H Q) (σ : L2.St) (H : Hp) (Q : Bool → Hp → Prop) (q : tT G E (bOf f) σ H Q) : tTest t σ H Q := by
  obtain ⟨W, env, M, s, p⟩ := q
  refine h σ H _ (tE.bind s p fun d m W1 H1 u f1 s1 r1 p1 => ?_)
  cases d with
  | bl k => exact ⟨k, r1, p1.here s1.mem⟩
  | _ => exact p1.elim
theorem st_cmp {op : CmpOp} {r : R2} {o : D → D → Mem → R D} (ho : OpR X (compareOp op) r) (hs : Op2 G E r o) (hm : behindInMarks op b = false) (ha : PE X a (tE G E fa)) (hb : PE X b (tE G E fb)) : PT X (.Compare a [op] [b] pos) (tT G E (bOf (mOp o fa fb))) :=
  pt_imp (pt_cmpR ho ha hb hm) (test_of (tE_op hs))
theorem isN_reads {neg : Bool} (σ : L2.St) (H : Hp) (Q : VK) (h : tE G E (mUn (oIsN neg) fa) σ H Q) : tOp (fun x y H Q => y = .non ∧ Q (.bl (if neg = true then !decide (x = .non) else decide (x = .non))) H) (tE G E fa) (tC .non) σ H Q := by
  obtain ⟨W, env, M, s, p⟩ := h
  refine tE.bind s p fun d m W1 H1 u f1 s1 r1 p1 => ?_
  refine ⟨rfl, ?_⟩
  cases d with
  | non => cases r1; cases neg <;> exact p1.here s1.mem _ rfl
  | bl b => cases r1; cases neg <;> exact p1.here s1.mem _ rfl
  | int b => cases r1; cases neg <;> exact p1.here s1.mem _ rfl
  | str b => cases r1; cases neg <;> exact p1.here s1.mem _ rfl
  | tup l => obtain ⟨a, us, e1, _⟩ := r1; subst e1; cases neg <;> exact p1.here s1.mem _ rfl
  | ct l => obtain ⟨a, us, e1, _⟩ := r1; subst e1; cases neg <;> exact p1.here s1.mem _ rfl
  | lst l => obtain ⟨a, us, e1, _⟩ := r1; subst e1; cases neg <;> exact p1.here s1.mem _ rfl
  | fz l => obtain ⟨a, us, e1, _⟩ := r1; subst e1; cases neg <;> exact p1.here s1.mem _ rfl
  | ref l => obtain ⟨a, us, e1⟩ := r1; subst e1; cases neg <;> exact p1.here s1.mem _ rfl
theorem st_isN {i pos2} (ha : PE X a (tE G E fa)) : PT X (.Compare a [.Is] [.Constant .none i pos2] pos) (tT G E (bOf (mUn (oIsN false) fa))) := pt_imp (pt_cmpR op_isN ha pe_non (nomark _)) (test_of fun σ H Q h => isN_reads (neg := false) σ H Q h)
theorem st_notN {i pos2} (ha : PE X a (tE G E fa)) : PT X (.Compare a [.IsNot] [.Constant .none i pos2] pos) (tT G E (bOf (mUn (oIsN true) fa))) := pt_imp (pt_cmpR op_notN ha pe_non (nomark _)) (test_of fun σ H Q h => isN_reads (neg := true) σ H Q h)
/-- the parameters from the positional ones and the keywords' values: pi over any values -/
structure Perm2 where
  on : {α : Type} → List α → List α → List α
def piApp : Perm2 := ⟨fun ds zs => ds ++ zs⟩
def mFunKw (n m np : Nat) (π : Perm2) (dd : List D) (g : FD) (fa fk : FA) : FE := fun env M => (fa env M).bind fun ds m1 => (fk env m1).bind fun zs m2 => if ds.length = n ∧ zs.length = m ∧ (π.on ds (zs ++ dd)).length = np then g (π.on ds (zs ++ dd)) m2 else .no
theorem law_end {K : PySem.W.Frag} {w : World} {cl : Nat → Addr} {g : FD} (h : ∀ ns : List Int, ns.length ≤ 63 → ∃ m, g [.fz (ns.map .int)] [] = .ok (.bl true) m) {H : Hp} {a : Addr} {ns : List Int} (hl : ns.length ≤ 63) (ho : Only H) (hS : SqL K H a (ns.map V.int)) :
    spOf ⟨K, cl, w⟩ 1 g [.ref a] H (fun v _ => v = .bl true) fun _ _ _ => False := by
  obtain ⟨m, e⟩ := h ns hl
  have hints : ∀ ns : List Int, RpL ⟨K, cl, w⟩ ⟨[], []⟩ H (ns.map .int) (ns.map V.int) := fun ns => by
    induction ns with
    | nil => exact (rfl : ([] : List V) = [])
    | cons n r ih => exact ⟨_, _, rfl, rfl, ih⟩
  refine ⟨⟨[], []⟩, [], [.fz (ns.map .int)], ⟨rfl, List.nodup_nil, fun i c a e => by simp at e, by simp, by simp⟩, ⟨_, [], rfl, ⟨a, _, rfl, ?_, hints ns⟩, rfl⟩, rfl, ?_⟩
  · rcases hS with (h1 | ⟨o, h1⟩) | h1
    · rcases ho a with z | ⟨o, xs, z⟩
      · rw [h1] at z; cases z
      · rw [h1] at z; cases z
    · exact .inl ⟨o, h1⟩
    · exact .inr h1
  · rw [e]
    exact fun W' H' f m' u hu => hu
end
end Fn
set_option Elab.async false
set_option linter.all false
set_option maxRecDepth 100000
set_option maxHeartbeats 1000000
namespace Fn
open PySem PySem.Spec PyProof.Rows L2
section
variable {X : Cx} {G : Gx} {cl : Nat → Addr} {E : XK} {W : Wd} {H : Hp} {M : Mem} {a b c : Expr} {fa fb fc : FE} {pos : Pos}
def encD (d : D) : PyData := (pyD d).getD .none
def leD (a b : D) : Bool := PySem.W.dataLe false encD a b
def sortD (l : List D) : List D := l.mergeSort leD
def isTupD : D → Bool
  | .tup (_ :: _) => true
  | _ => false
def isOneD : D → Bool
  | .non => false
  | .tup _ => false
  | .ct _ => false
  | .ref _ => false
  | _ => true
/-- may these be sorted: all alike data, tuples with an item or no tuples -/
def sortOk (l : List D) : Prop := (∀ d ∈ l, (pyD d).isSome = true ∧ (encD d).depth ≤ 60) ∧ (∀ d ∈ l, ∀ d' ∈ l, PySem.W.alike (encD d) (encD d') = true) ∧ ((∀ d ∈ l, isTupD d = true) ∨ ∀ d ∈ l, isOneD d = true)
open Classical in
noncomputable def oSorted (c : Bool) : List D → Mem → R D
  | [d], M => match lstOf M d with
    | some l => if sortOk l then mkL c (sortD l) M else .no
    | none => .no
  | _, _ => .no
theorem eachIs_rp {h : Heap} : ∀ {ds : List D} {us : List V} {vs : List Value}, RpL G W H ds us → Vals us vs → PySem.W.EachIs (fun v d => ∃ u, Rp G W H d u ∧ RelV u v) vs ds
  | [], us, vs, r, k => by
    have : us = [] := r
    subst this
    cases k
    exact .nil
  | d :: r, us, vs, h1, k => by
    obtain ⟨u, us', e, h2, h3⟩ := h1
    subst e
    cases k with
    | cons k1 k2 => exact .cons ⟨u, h2, k1⟩ (eachIs_rp (h := h) h3 k2)
theorem eachIs_back : ∀ {ds : List D} {vs : List Value}, PySem.W.EachIs (fun v d => ∃ u, Rp G W H d u ∧ RelV u v) vs ds → ∃ us, RpL G W H ds us ∧ Vals us vs
  | _, _, .nil => ⟨[], (rfl : ([] : List V) = []), .nil⟩
  | _, _, .cons h t => by
    obtain ⟨u, h1, h2⟩ := h
    obtain ⟨us, h3, h4⟩ := eachIs_back t
    exact ⟨u :: us, ⟨u, us, rfl, h1, h3⟩, .cons h2 h4⟩
theorem eachIs_mono {α β : Type} {R R' : α → β → Prop} : ∀ {as : List α} {bs : List β}, PySem.W.EachIs R as bs → (∀ a b, b ∈ bs → R a b → R' a b) → PySem.W.EachIs R' as bs
  | _, _, .nil, _ => .nil
  | _, _, .cons h t, k => .cons (k _ _ (List.mem_cons_self ..) h) (eachIs_mono t fun a b hb => k a b (List.mem_cons_of_mem _ hb))
/-- sorted(xs) -/
def rSortD (G : Gx) : List V → Hp → VK → Prop := fun vs H Q => ∃ (W : Wd) (a : Addr) (us : List V) (ds : List D), vs = [V.ref a] ∧ SqL G.K H a us ∧ RpL G W H ds us ∧ sortOk ds ∧ ∀ us' p, RpL G W H (sortD ds) us' → H p = none → Q (.ref p) (upd H p (.lst us'))
theorem cr_sortedD (hu : X.A.units + 64 < cLine) : CallR X (.builtin "sorted") (rSortD ⟨X.K, cl, X.w⟩) := by
  intro pins s σ H vs us Q I r h
  obtain ⟨W, a, vs', ds, rfl, hs, hr, hk, q⟩ := h
  obtain ⟨its, rv, hl, hz⟩ := I.list hs
  rw [Vals.ref1 r]
  have e := eachIs_rp (h := s.heap) hr rv
  have er : PySem.W.EachIs (fun v d => ∃ as, Reads s.heap v (encD d) as) its ds := eachIs_mono e fun v d hd ⟨u, h1, h2⟩ => by
    obtain ⟨hp, _⟩ := hk.1 d hd
    cases hpd : pyD d with
    | none => rw [hpd] at hp; cases hp
    | some p =>
      have : encD d = p := by unfold encD; rw [hpd]; rfl
      rw [this]
      exact Dp.reads I p u v (pyD_ok h1 hpd) h2
  have hlen : its.length = ds.length := by rw [← rv.length, hr.len]
  have hL : ds.length ≤ sizeLine := by rw [← hr.len]; exact hz
  refine PySem.W.sorted_data hl.isList e er (fun p hp p' hp' => ?_) ?_ hL (fun d hd => ?_) fun out ho eo => ?_
  · obtain ⟨d, hd, rfl⟩ := List.mem_map.mp hp
    obtain ⟨d', hd', rfl⟩ := List.mem_map.mp hp'
    exact hk.2.1 d hd d' hd'
  · rcases hk.2.2 with z | z
    · refine .inl fun p hp => ?_
      obtain ⟨d, hd, rfl⟩ := List.mem_map.mp hp
      have h1 := z d hd
      have h2 := (hk.1 d hd).1
      cases d with
      | tup l =>
        cases l with
        | nil => cases h1
        | cons x r =>
          unfold encD
          cases hq : pyD (.tup (x :: r)) with
          | none => rw [hq] at h2; cases h2
          | some p =>
            simp only [pyD] at hq
            cases hq2 : pyL (x :: r) with
            | none => rw [hq2] at hq; cases hq
            | some ps =>
              rw [hq2] at hq; cases hq
              simp only [pyL] at hq2
              split at hq2
              · cases hq2; exact ⟨_, _, rfl⟩
              · cases hq2
      | _ => cases h1
    · refine .inr fun p hp => ?_
      obtain ⟨d, hd, rfl⟩ := List.mem_map.mp hp
      have h1 := z d hd
      have h2 := (hk.1 d hd).1
      cases d with
      | non => cases h1
      | tup l => cases h1
      | ref l => cases h1
      | ct l => cases h1
      | bl b => exact ⟨(by intro z; cases z), (by intro xs z; cases z)⟩
      | int b => exact ⟨(by intro z; cases z), (by intro xs z; cases z)⟩
      | str b => exact ⟨(by intro z; cases z), (by intro xs z; cases z)⟩
      | lst l =>
        unfold encD
        simp only [pyD] at h2 ⊢
        cases hq2 : pyL l with
        | none => rw [hq2] at h2; cases h2
        | some ps => exact ⟨(by intro z; cases z), (by intro xs z; cases z)⟩
      | fz l =>
        unfold encD
        simp only [pyD] at h2 ⊢
        cases hq2 : pyL l with
        | none => rw [hq2] at h2; cases h2
        | some ps => exact ⟨(by intro z; cases z), (by intro xs z; cases z)⟩
  · have := (hk.1 d hd).2
    omega
  · obtain ⟨us', h1, h2⟩ := eachIs_back eo
    obtain ⟨ep, he'⟩ := PyProof.Rows.sortedAll_at s.heap its out.toArray
    have hlen' : us'.length ≤ sizeLine := by rw [h2.length, ho]; exact hL
    exact ⟨.ref _, upd H (s.heap.objs.size + 1) (.lst us'), I.laid (t' := s.toks) (fun _ _ => PyProof.Rows.sortedAll_old) (Nat.le_succ _) ⟨hlen', out, ep, h2, he'⟩, rfl, q us' _ h1 (I.hok.fresh (Nat.le_succ _))⟩
theorem fn_sorted {c : Bool} : Fn1 G E (rSortD G) (oSorted c) := fun W H M ds us Q m r p => by
  unfold oSorted at p
  split at p
  · obtain ⟨u, e1, r1⟩ := rp_one r
    subst e1
    split at p
    · rename_i l e1
      split at p
      · rename_i hk
        obtain ⟨a1, us, h1, h2, h3⟩ := lstOf_ok m r1 e1
        subst h1
        exact ⟨W, a1, us, l, rfl, h2, h3, hk, fun us' p' hr hp => mkL_new m p hr p' hp⟩
      · exact p.elim
    · exact p.elim
  · exact p.elim
theorem sortD_perm (l : List D) : (sortD l).Perm l := List.mergeSort_perm l leD
def mPar3 (i j l : Nat) (g : FA) : FS := fun env M => (g env M).bind fun ds m => match ds with
  | [d, d', d''] => .ok (.nx (((env.set i (some d)).set j (some d')).set l (some d''))) m
  | _ => .no
theorem ss_par3 {i j l : Nat} {x y z : Str} {g : FA} {px py pz pt : Pos} {kt k2 pt2} (hc : X.calm = true) (hN : X.N.Nodup) (hi : X.N[i]? = some x) (hj : X.N[j]? = some y) (hl : X.N[l]? = some z) (hij : i ≠ j) (hil : i ≠ l) (hjl : j ≠ l)
    (hx : X.env.scope.names.lookup x = some .local) (hy : X.env.scope.names.lookup y = some .local) (hz : X.env.scope.names.lookup z = some .local) (ha : PA X [a, b, c] (tA G E g))
    (hw : swappedStores [.Tuple [.Name x px, .Name y py, .Name z pz] kt pt] (.Tuple [a, b, c] k2 pt2) X.env = pure (some [x, y, z]))
    (hs : swapsWithSole [.Tuple [.Name x px, .Name y py, .Name z pz] kt pt] (.Tuple [a, b, c] k2 pt2) pos.line X.env = pure false := by rfl) :
    PS X (.Assign [.Tuple [.Name x px, .Name y py, .Name z pz] kt pt] (.Tuple [a, b, c] k2 pt2) pos) (tS G E (mPar3 i j l g)) := ps_imp (ps_par3 hc hN hi hj hl hij hil hjl hx hy hz ha hw hs) fun D σ H ⟨W, env, M, s, p⟩ => by
  refine tA.bind s p fun ds m W1 H1 us f1 s1 r1 p1 => ?_
  split at p1
  · obtain ⟨u, us', e1, r2, u', us2, e2, r3, u'', us3, e3, r4, r5⟩ := r1
    have : us3 = [] := r5
    subst this e3 e2 e1
    exact ⟨u, u', u'', rfl, p1.here s1.mem _ (((s1.env.set i r2).set j r3).set l r4)⟩
  · exact p1.elim
end
end Fn
set_option Elab.async false
set_option linter.all false
set_option maxRecDepth 100000
set_option maxHeartbeats 4000000
namespace Fn
open PySem PySem.Spec PyProof.Rows L2
section
variable {env : Env} {M : Mem}
theorem mVar_eq (i : Nat) : mVar i env M = match env[i]? with | some (some d) => .ok d M | _ => .no := rfl
theorem mC_eq (d : D) : mC d env M = .ok d M := rfl
theorem mOp_eq (o : D → D → Mem → R D) (fa fb : FE) : mOp o fa fb env M = (fa env M).bind fun a m => (fb env m).bind fun b m' => o a b m' := rfl
theorem mUn_eq (o : D → Mem → R D) (fa : FE) : mUn o fa env M = (fa env M).bind fun a m => o a m := rfl
theorem mSeq_eq (f g : FS) : mSeq f g env M = (f env M).bind fun fl m => match fl with | .nx env' => g env' m | fl => .ok fl m := rfl
theorem mSet_eq (i : Nat) (f : FE) : mSet i f env M = (f env M).bind fun d m => .ok (.nx (env.set i (some d))) m := rfl
theorem mRet_eq (f : FE) : mRet f env M = (f env M).bind fun d m => .ok (.rt d) m := rfl
theorem mExpr_eq (f : FE) : mExpr f env M = (f env M).bind fun _ m => .ok (.nx env) m := rfl
theorem mIfS_eq (c : FT) (f g : FS) : mIfS c f g env M = (c env M).bind fun b m => if b = true then f env m else g env m := rfl
theorem mPass_eq : mPass env M = .ok (.nx env) M := rfl
theorem mAsg_eq (f : FE) (g : FG) : mAsg f g env M = (f env M).bind fun d m => (g d env m).bind fun env' m' => .ok (.nx env') m' := rfl
theorem mCall_eq (o : List D → Mem → R D) (g : FA) : mCall o g env M = (g env M).bind o := rfl
theorem mFun_eq (n : Nat) (g : FD) (dd : List D) (fa : FA) : mFun n g dd fa env M = (fa env M).bind fun ds m => if (ds ++ dd).length = n then g (ds ++ dd) m else .no := rfl
theorem aNil_eq : aNil env M = .ok [] M := rfl
theorem aCons_eq (f : FE) (g : FA) : aCons f g env M = (f env M).bind fun d m => (g env m).bind fun ds m' => .ok (d :: ds) m' := rfl
theorem mTup_eq (g : FA) : mTup g env M = (g env M).bind fun ds m => if ds.length ≤ 16777216 then .ok (.tup ds) m else .no := rfl
theorem mLst_eq (c : Bool) (g : FA) : mLst c g env M = (g env M).bind fun ds m => if ds.length ≤ 16777216 then mkL c ds m else .no := rfl
theorem bOf_eq (f : FE) : bOf f env M = (f env M).bind fun d m => match d with | .bl b => .ok b m | _ => .no := rfl
theorem mkL_t (ds : List D) : mkL true ds M = .ok (.ref M.length) (M ++ [.lst ds]) := rfl
theorem mkL_f (ds : List D) : mkL false ds M = .ok (.lst ds) M := rfl
theorem mMeth_eq (T : String) (o : D → List D → Mem → R D) (f : FE) (g : FA) : mMeth T o f g env M = (f env M).bind fun a m => if tyOk T m a = true then (g env m).bind fun ds m' => o a ds m' else .no := rfl
theorem oIx_fz (l : List D) (i : Int) : oIx (.fz l) (.int i) M = match atI l i with | some d => .ok d M | none => .no := rfl
theorem oIx_lst (l : List D) (i : Int) : oIx (.lst l) (.int i) M = match atI l i with | some d => .ok d M | none => .no := rfl
theorem oIx_tup (l : List D) (i : Int) : oIx (.tup l) (.int i) M = match atI l i with | some d => .ok d M | none => .no := rfl
theorem oAdd_int (c : Bool) (i j : Int) : oAdd c (.int i) (.int j) M = .ok (.int (i + j)) M := rfl
theorem oSub_int (i j : Int) : oSub (.int i) (.int j) M = .ok (.int (i - j)) M := rfl
theorem oMul_int (c : Bool) (i j : Int) (h : mulOk i j = true) : oMul c (.int i) (.int j) M = .ok (.int (i * j)) M := by
  show (if mulOk i j = true then _ else _) = _
  rw [if_pos h]
theorem oMod_int (i j : Int) (h : 0 < j) : oMod (.int i) (.int j) M = .ok (.int (i % j)) M := by
  show (if decide (0 < j) = true then _ else _) = _
  rw [if_pos (decide_eq_true h)]
theorem oDiv_int (i j : Int) (h : divOk i j = true) : oDiv (.int i) (.int j) M = .ok (.int (i / j)) M := by
  show (if divOk i j = true then _ else _) = _
  rw [if_pos h]
theorem oLt_int (i j : Int) : oLt (.int i) (.int j) M = .ok (.bl (decide (i < j))) M := rfl
theorem oLe_int (i j : Int) : oLe (.int i) (.int j) M = .ok (.bl (decide (i ≤ j))) M := rfl
theorem oGt_int (i j : Int) : oGt (.int i) (.int j) M = .ok (.bl (decide (j < i))) M := rfl
theorem oGe_int (i j : Int) : oGe (.int i) (.int j) M = .ok (.bl (decide (j ≤ i))) M := rfl
theorem oLen_fz (l : List D) : oLen [.fz l] M = .ok (.int l.length) M := rfl
theorem oLen_lst (l : List D) : oLen [.lst l] M = .ok (.int l.length) M := rfl
theorem oLen_tup (l : List D) : oLen [.tup l] M = .ok (.int l.length) M := rfl
theorem oLen_str (l : List Nat) (h : l.length ≤ 16777216) : oLen [.str l] M = .ok (.int l.length) M := by
  show (if l.length ≤ 16777216 then _ else _) = _
  rw [if_pos h]
theorem mRetN_eq : mRetN env M = .ok (.rt .non) M := rfl
theorem mPar_eq (i j : Nat) (g : FA) : mPar i j g env M = (g env M).bind fun ds m => match ds with | [d, d'] => .ok (.nx ((env.set i (some d)).set j (some d'))) m | _ => .no := rfl
theorem mAug_eq (i : Nat) (o : D → D → Mem → R D) (f : FE) : mAug i o f env M = match env[i]? with | some (some x) => (f env M).bind fun d m => (o x d m).bind fun z m' => .ok (.nx (env.set i (some z))) m' | _ => .no := rfl
theorem tOf_eq (f : FE) : tOf f env M = (f env M).bind fun d m => match truD m d with | some b => .ok b m | none => .no := rfl
theorem tAndM_eq (f g : FT) : tAndM f g env M = (f env M).bind fun b m => if b = true then g env m else .ok false m := rfl
theorem tOrM_eq (f g : FT) : tOrM f g env M = (f env M).bind fun b m => if b = true then .ok true m else g env m := rfl
theorem tNotM_eq (f : FT) : tNotM f env M = (f env M).bind fun b m => .ok (!b) m := rfl
theorem tsYes_eq : tsYes env M = .ok true M := rfl
theorem mFunKw_eq (n m np : Nat) (π : Perm2) (dd : List D) (g : FD) (fa fk : FA) : mFunKw n m np π dd g fa fk env M = (fa env M).bind fun ds m1 => (fk env m1).bind fun zs m2 => if ds.length = n ∧ zs.length = m ∧ (π.on ds (zs ++ dd)).length = np then g (π.on ds (zs ++ dd)) m2 else .no := rfl
theorem piApp_on {α : Type} (a b : List α) : piApp.on a b = a ++ b := rfl
theorem mAnd_eq (f g : FE) : mAnd f g env M = (f env M).bind fun d m => match d with | .bl true => g env m | .bl false => .ok (.bl false) m | _ => .no := rfl
theorem mOr_eq (f g : FE) : mOr f g env M = (f env M).bind fun d m => match d with | .bl true => .ok (.bl true) m | .bl false => g env m | _ => .no := rfl
theorem mNot_eq (f : FE) : mNot f env M = (f env M).bind fun d m => match d with | .bl b => .ok (.bl (!b)) m | _ => .no := rfl
theorem mIf_eq (t : FT) (f g : FE) : mIf t f g env M = (t env M).bind fun b m => if b = true then f env m else g env m := rfl
theorem mChain_eq (o o' : D → D → Mem → R D) (fa fb fc : FE) : mChain o o' fa fb fc env M = (fa env M).bind fun x m => (fb env m).bind fun y m => (o x y m).bind fun z m => match z with | .bl true => (fc env m).bind fun w m => o' y w m | .bl false => .ok (.bl false) m | _ => .no := rfl
theorem mSl_eq (c : Bool) (f : FE) (lo hi : FO) : mSl c f lo hi env M = (f env M).bind fun d m => (lo env m).bind fun l m1 => (hi env m1).bind fun h m2 => oSl c d l h m2 := rfl
theorem pNone_eq : pNone env M = .ok none M := rfl
theorem pSome_eq (f : FE) : pSome f env M = (f env M).bind fun d m => match d with | .int i => .ok (some i) m | _ => .no := rfl
theorem gN_eq (i : Nat) (d : D) : gN i d env M = .ok (env.set i (some d)) M := rfl
theorem gT_eq (n : Nat) (g : FGs) (d : D) : gT n g d env M = match d with | .tup l => if l.length = n then g l env M else .no | .ct l => if l.length = n then g l env M else .no | _ => .no := rfl
theorem gsNil_eq (ds : List D) : gsNil ds env M = match ds with | [] => .ok env M | _ => .no := rfl
theorem gsCons_eq (f : FG) (g : FGs) (ds : List D) : gsCons f g ds env M = match ds with | d :: r => (f d env M).bind fun env' m => g r env' m | [] => .no := rfl
theorem oMax_int (i j : Int) : oMax [.int i, .int j] M = .ok (.int (if j > i then j else i)) M := rfl
theorem oMin_int (i j : Int) : oMin [.int i, .int j] M = .ok (.int (if j < i then j else i)) M := rfl
theorem oInt_bl (b : Bool) : oInt [.bl b] M = .ok (.int (if b = true then 1 else 0)) M := rfl
theorem oInt_int (b : Int) : oInt [.int b] M = .ok (.int b) M := rfl
theorem oIsi_bl (b : Bool) (T : String) : oIsi T (.bl b) M = .ok (.bl (isTy "bool" T)) M := rfl
theorem oNeg_int (i : Int) : oNeg (.int i) M = .ok (.int (-i)) M := rfl
theorem oTuple_lst (l : List D) : oTuple [.lst l] M = .ok (.tup l) M := rfl
theorem oTuple_tup (l : List D) : oTuple [.tup l] M = .ok (.tup l) M := rfl
theorem iR1_eq (g : FA) : iR1 g env M = (g env M).bind fun ds m => match ds with | [.int j] => if rngOk j = true then .ok ⟨rngItems 0 j.toNat, fun _ => True⟩ m else .no | _ => .no := rfl
theorem iR2_eq (g : FA) : iR2 g env M = (g env M).bind fun ds m => match ds with | [.int i, .int j] => if rngOk i = true ∧ rngOk j = true then .ok ⟨rngItems i (j - i).toNat, fun _ => True⟩ m else .no | _ => .no := rfl
theorem iSq_eq (f : FE) : iSq f env M = (f env M).bind fun d m => match srcOf m d with | some s => .ok s m | none => .no := rfl
theorem iStrM_eq (f : FE) : iStrM f env M = (f env M).bind fun d m => match d with | .str x => .ok ⟨x.map fun c => .str [c], fun _ => True⟩ m | _ => .no := rfl
theorem srcOf_tup (l : List D) : srcOf M (.tup l) = some ⟨l, fun _ => True⟩ := rfl
theorem srcOf_lst (l : List D) : srcOf M (.lst l) = some ⟨l, fun _ => True⟩ := rfl
theorem srcOf_fz (l : List D) : srcOf M (.fz l) = some ⟨l, fun _ => True⟩ := rfl
end
theorem p64 : (2 : Int) ^ 64 = 18446744073709551616 := by decide +kernel
theorem mul_small {i j : Int} (h1 : -18446744073709551616 < j) (h2 : j < 18446744073709551616) : mulOk i j = true := by
  unfold mulOk
  rw [p64]
  simp only [Bool.or_eq_true, decide_eq_true_eq]
  exact Or.inl (Or.inr ⟨h1, h2⟩)
theorem mul_smallL {i j : Int} (h1 : -18446744073709551616 < i) (h2 : i < 18446744073709551616) : mulOk i j = true := by
  unfold mulOk
  rw [p64]
  simp only [Bool.or_eq_true, decide_eq_true_eq]
  exact Or.inl (Or.inl ⟨h1, h2⟩)
theorem oMul_r (c : Bool) (i j : Int) {M : Mem} (h1 : -18446744073709551616 < j) (h2 : j < 18446744073709551616) : oMul c (.int i) (.int j) M = .ok (.int (i * j)) M := oMul_int c i j (mul_small h1 h2)
theorem oMul_l (c : Bool) (i j : Int) {M : Mem} (h1 : -18446744073709551616 < i) (h2 : i < 18446744073709551616) : oMul c (.int i) (.int j) M = .ok (.int (i * j)) M := oMul_int c i j (mul_smallL h1 h2)
theorem i1 : -18446744073709551616 < (7919 : Int) := by omega
theorem i2 : (7919 : Int) < 18446744073709551616 := by omega
theorem i3 : -18446744073709551616 < (7 : Int) := by omega
theorem i4 : (7 : Int) < 18446744073709551616 := by omega
theorem i5 : (0 : Int) < 2147483629 := by omega
theorem i6 : -18446744073709551616 < (48271 : Int) := by omega
theorem i7 : (48271 : Int) < 18446744073709551616 := by omega
theorem i8 : (0 : Int) < 2147483647 := by omega
theorem i9 : -18446744073709551616 < (31 : Int) := by omega
theorem i10 : (31 : Int) < 18446744073709551616 := by omega
theorem i11 : -18446744073709551616 < (40692 : Int) := by omega
theorem i12 : (40692 : Int) < 18446744073709551616 := by omega
theorem i13 : -18446744073709551616 < (2 : Int) := by omega
theorem i14 : (2 : Int) < 18446744073709551616 := by omega
theorem i15 : (0 : Int) < 2147483587 := by omega
theorem i16 : (0 : Int) < 2147483579 := by omega
theorem i17 : (0 : Int) < 31 := by omega
theorem i18 : (31 : Int) < 1000000000000000000000000 := by omega
def intsD (ns : List Int) : List D := ns.map .int
def cellV (ns : List Int) (k : Nat) : Int :=
  if h : k < ns.length then ns[k] else
  if 0 < ns.length then (ns.getD (k * 7 % ns.length) 0 % 2147483629 * 48271 + k * 7919) % 2147483647 * 31 else ((k : Int) * 7919 + 5) % 2147483647 * 31
/-- the body of _law_cell -/
def cellB : FS := (mSeq (mIfS (bOf (mOp oLt (mVar 1) (mCall oLen (aCons (mVar 0) aNil)))) (mRet (mOp oIx (mVar 0) (mVar 1))) mPass) (mSeq (mSet 2 (mOp (oAdd false) (mOp (oMul false) (mVar 1) (mC (.int 7919))) (mC (.int 5)))) (mSeq (mIfS (bOf (mOp oGt (mCall oLen (aCons (mVar 0) aNil)) (mC (.int 0)))) (mSet 2 (mOp (oAdd false) (mOp (oMul false) (mOp oMod (mOp oIx (mVar 0) (mOp oMod (mOp (oMul false) (mVar 1) (mC (.int 7))) (mCall oLen (aCons (mVar 0) aNil)))) (mC (.int 2147483629))) (mC (.int 48271))) (mOp (oMul false) (mVar 1) (mC (.int 7919))))) mPass) (mRet (mOp (oMul false) (mOp oMod (mVar 2) (mC (.int 2147483647))) (mC (.int 31)))))))
theorem cell_run (ns : List Int) (k : Nat) (M : Mem) : cellB [some (.fz (intsD ns)), some (.int k), none] M = .ok (.rt (.int (cellV ns k))) M := by
  by_cases h : k < ns.length
  · have h' : decide ((k : Int) < (ns.length : Int)) = true := decide_eq_true (by omega)
    have hat : atI (ns.map D.int) (k : Int) = some (.int ns[k]) := atI_nat (by simp [h])
    simp -implicitDefEqProofs only [mSeq_eq, mIfS_eq, mSet_eq, mRet_eq, mRetN_eq, mExpr_eq, mPass_eq, mAsg_eq, mPar_eq, mAug_eq, bOf_eq, tOf_eq, tAndM_eq, tOrM_eq, tNotM_eq, tsYes_eq, mOp_eq, mUn_eq, mVar_eq, mC_eq, mCall_eq, mFun_eq, mFunKw_eq, mMeth_eq, mAnd_eq, mOr_eq, mNot_eq, mIf_eq, mChain_eq, mSl_eq, pNone_eq, pSome_eq, aCons_eq, aNil_eq, mTup_eq, mLst_eq, gN_eq, gT_eq, gsNil_eq, gsCons_eq, mkL_t, mkL_f, R.bind_ok, R.bind_no, R.nox_ok, List.getElem?_cons_zero, List.getElem?_cons_succ, List.set_cons_zero, List.set_cons_succ, List.length_cons, List.length_nil, List.append_nil, List.nil_append, List.cons_append, piApp_on, oLen_fz, oLen_lst, oLen_tup, oLt_int, oLe_int, oGt_int, oGe_int, oAdd_int, oSub_int, oIx_fz, oIx_lst, oIx_tup, oMax_int, oMin_int, oInt_bl, oInt_int, oIsi_bl, oNeg_int, oTuple_lst, oTuple_tup, iR1_eq, iR2_eq, iSq_eq, iStrM_eq, srcOf_tup, srcOf_lst, srcOf_fz, if_true, if_false, Bool.false_eq_true, Bool.true_eq_false, reduceIte, Nat.reduceAdd, Nat.reduceLeDiff, Nat.reduceEqDiff, decide_true, decide_false, and_self, and_true, true_and, cellB, intsD, List.length_map, h', hat]
    simp [cellV, h]
  · have h' : decide ((k : Int) < (ns.length : Int)) = false := decide_eq_false (by omega)
    by_cases h0 : 0 < ns.length
    · have h0' : decide ((0 : Int) < (ns.length : Int)) = true := decide_eq_true (by omega)
      have hk : ((k : Int) * 7) % (ns.length : Int) = ((k * 7 % ns.length : Nat) : Int) := by simp
      have hl : k * 7 % ns.length < ns.length := Nat.mod_lt _ h0
      have hat : atI (ns.map D.int) ((k * 7 % ns.length : Nat) : Int) = some (.int (ns.getD (k * 7 % ns.length) 0)) := atI_nat (by
        rw [List.getElem?_map, List.getElem?_eq_getElem hl]
        simp [List.getD, List.getElem?_eq_getElem hl])
      simp -implicitDefEqProofs only [mSeq_eq, mIfS_eq, mSet_eq, mRet_eq, mRetN_eq, mExpr_eq, mPass_eq, mAsg_eq, mPar_eq, mAug_eq, bOf_eq, tOf_eq, tAndM_eq, tOrM_eq, tNotM_eq, tsYes_eq, mOp_eq, mUn_eq, mVar_eq, mC_eq, mCall_eq, mFun_eq, mFunKw_eq, mMeth_eq, mAnd_eq, mOr_eq, mNot_eq, mIf_eq, mChain_eq, mSl_eq, pNone_eq, pSome_eq, aCons_eq, aNil_eq, mTup_eq, mLst_eq, gN_eq, gT_eq, gsNil_eq, gsCons_eq, mkL_t, mkL_f, R.bind_ok, R.bind_no, R.nox_ok, List.getElem?_cons_zero, List.getElem?_cons_succ, List.set_cons_zero, List.set_cons_succ, List.length_cons, List.length_nil, List.append_nil, List.nil_append, List.cons_append, piApp_on, oLen_fz, oLen_lst, oLen_tup, oLt_int, oLe_int, oGt_int, oGe_int, oAdd_int, oSub_int, oIx_fz, oIx_lst, oIx_tup, oMax_int, oMin_int, oInt_bl, oInt_int, oIsi_bl, oNeg_int, oTuple_lst, oTuple_tup, iR1_eq, iR2_eq, iSq_eq, iStrM_eq, srcOf_tup, srcOf_lst, srcOf_fz, if_true, if_false, Bool.false_eq_true, Bool.true_eq_false, reduceIte, Nat.reduceAdd, Nat.reduceLeDiff, Nat.reduceEqDiff, decide_true, decide_false, and_self, and_true, true_and, cellB, intsD, List.length_map, h', h0', oMul_r _ _ 7919 i1 i2, oMul_r _ _ 7 i3 i4, oMod_int _ (ns.length : Int) (by omega), hk, hat, oMod_int _ 2147483629 i5, oMul_r _ _ 48271 i6 i7, oMod_int _ 2147483647 i8, oMul_r _ _ 31 i9 i10]
      simp only [cellV, dif_neg h, if_pos h0]
    · have h0' : decide ((0 : Int) < (ns.length : Int)) = false := decide_eq_false (by omega)
      simp -implicitDefEqProofs only [mSeq_eq, mIfS_eq, mSet_eq, mRet_eq, mRetN_eq, mExpr_eq, mPass_eq, mAsg_eq, mPar_eq, mAug_eq, bOf_eq, tOf_eq, tAndM_eq, tOrM_eq, tNotM_eq, tsYes_eq, mOp_eq, mUn_eq, mVar_eq, mC_eq, mCall_eq, mFun_eq, mFunKw_eq, mMeth_eq, mAnd_eq, mOr_eq, mNot_eq, mIf_eq, mChain_eq, mSl_eq, pNone_eq, pSome_eq, aCons_eq, aNil_eq, mTup_eq, mLst_eq, gN_eq, gT_eq, gsNil_eq, gsCons_eq, mkL_t, mkL_f, R.bind_ok, R.bind_no, R.nox_ok, List.getElem?_cons_zero, List.getElem?_cons_succ, List.set_cons_zero, List.set_cons_succ, List.length_cons, List.length_nil, List.append_nil, List.nil_append, List.cons_append, piApp_on, oLen_fz, oLen_lst, oLen_tup, oLt_int, oLe_int, oGt_int, oGe_int, oAdd_int, oSub_int, oIx_fz, oIx_lst, oIx_tup, oMax_int, oMin_int, oInt_bl, oInt_int, oIsi_bl, oNeg_int, oTuple_lst, oTuple_tup, iR1_eq, iR2_eq, iSq_eq, iStrM_eq, srcOf_tup, srcOf_lst, srcOf_fz, if_true, if_false, Bool.false_eq_true, Bool.true_eq_false, reduceIte, Nat.reduceAdd, Nat.reduceLeDiff, Nat.reduceEqDiff, decide_true, decide_false, and_self, and_true, true_and, cellB, intsD, List.length_map, h', h0', oMul_r _ _ 7919 i1 i2, oMod_int _ 2147483647 i8, oMul_r _ _ 31 i9 i10]
      simp only [cellV, dif_neg h, if_neg h0]
structure Fl where
  own : Int
  cnt : Int
  seed : Int
def Fl.c (s : Fl) : Cell := .lst [.int s.own, .int s.cnt, .int s.seed]
/-- a flow that may be drawn of -/
def Fl.ok (s : Fl) : Prop := -9223372036854775808 < s.seed ∧ s.seed < 9223372036854775808
/-- the body of _law_flow, by the model of _law_cell -/
def flowB (g : FD) : FS := (mSeq (mSet 2 (mFun 2 g [] (aCons (mVar 0) (aCons (mVar 1) aNil)))) (mSeq (mSet 3 (mC (.int 0))) (mSeq (mIfS (bOf (mOp oGe (mVar 2) (mOp oPow (mC (.int 10)) (mC (.int 18))))) (mSet 3 (mVar 2)) mPass) (mRet (mLst true (aCons (mVar 3) (aCons (mC (.int 0)) (aCons (mOp (oAdd false) (mOp oMod (mVar 2) (mC (.int 2147483629))) (mOp (oMul false) (mC (.int 40692)) (mVar 1))) aNil))))))))
theorem pow_10_18 {M : Mem} : oPow (.int 10) (.int 18) M = .ok (.int 1000000000000000000) M := by
  have h : powOk 10 18 = true := by decide +kernel
  have e : (10 : Int) ^ (18 : Int).toNat = 1000000000000000000 := by decide +kernel
  simp only [oPow, oIC, h, if_true, e]
theorem flow_run (g : FD) (ns : List Int) (k : Nat) (M : Mem) (hk : k < 1000) (hg : g [.fz (intsD ns), .int k] M = .ok (.int (cellV ns k)) M) :
    ∃ s : Fl, s.ok ∧ flowB g [some (.fz (intsD ns)), some (.int k), none, none] M = .ok (.rt (.ref M.length)) (M ++ [s.c]) := by
  have h1 : 0 ≤ cellV ns k % 2147483629 := Int.emod_nonneg _ (by omega)
  have h2 : cellV ns k % 2147483629 < 2147483629 := Int.emod_lt_of_pos _ (by omega)
  by_cases h : 1000000000000000000 ≤ cellV ns k
  · refine ⟨⟨cellV ns k, 0, cellV ns k % 2147483629 + 40692 * k⟩, ⟨by show _ < _ + _; omega, by show _ + _ < _; omega⟩, ?_⟩
    simp -implicitDefEqProofs only [mSeq_eq, mIfS_eq, mSet_eq, mRet_eq, mRetN_eq, mExpr_eq, mPass_eq, mAsg_eq, mPar_eq, mAug_eq, bOf_eq, tOf_eq, tAndM_eq, tOrM_eq, tNotM_eq, tsYes_eq, mOp_eq, mUn_eq, mVar_eq, mC_eq, mCall_eq, mFun_eq, mFunKw_eq, mMeth_eq, mAnd_eq, mOr_eq, mNot_eq, mIf_eq, mChain_eq, mSl_eq, pNone_eq, pSome_eq, aCons_eq, aNil_eq, mTup_eq, mLst_eq, gN_eq, gT_eq, gsNil_eq, gsCons_eq, mkL_t, mkL_f, R.bind_ok, R.bind_no, R.nox_ok, List.getElem?_cons_zero, List.getElem?_cons_succ, List.set_cons_zero, List.set_cons_succ, List.length_cons, List.length_nil, List.append_nil, List.nil_append, List.cons_append, piApp_on, oLen_fz, oLen_lst, oLen_tup, oLt_int, oLe_int, oGt_int, oGe_int, oAdd_int, oSub_int, oIx_fz, oIx_lst, oIx_tup, oMax_int, oMin_int, oInt_bl, oInt_int, oIsi_bl, oNeg_int, oTuple_lst, oTuple_tup, iR1_eq, iR2_eq, iSq_eq, iStrM_eq, srcOf_tup, srcOf_lst, srcOf_fz, if_true, if_false, Bool.false_eq_true, Bool.true_eq_false, reduceIte, Nat.reduceAdd, Nat.reduceLeDiff, Nat.reduceEqDiff, decide_true, decide_false, and_self, and_true, true_and, flowB, hg, pow_10_18, decide_eq_true h, oMod_int _ 2147483629 i5, oMul_l _ 40692 _ i11 i12]
    rfl
  · refine ⟨⟨0, 0, cellV ns k % 2147483629 + 40692 * k⟩, ⟨by show _ < _ + _; omega, by show _ + _ < _; omega⟩, ?_⟩
    simp -implicitDefEqProofs only [mSeq_eq, mIfS_eq, mSet_eq, mRet_eq, mRetN_eq, mExpr_eq, mPass_eq, mAsg_eq, mPar_eq, mAug_eq, bOf_eq, tOf_eq, tAndM_eq, tOrM_eq, tNotM_eq, tsYes_eq, mOp_eq, mUn_eq, mVar_eq, mC_eq, mCall_eq, mFun_eq, mFunKw_eq, mMeth_eq, mAnd_eq, mOr_eq, mNot_eq, mIf_eq, mChain_eq, mSl_eq, pNone_eq, pSome_eq, aCons_eq, aNil_eq, mTup_eq, mLst_eq, gN_eq, gT_eq, gsNil_eq, gsCons_eq, mkL_t, mkL_f, R.bind_ok, R.bind_no, R.nox_ok, List.getElem?_cons_zero, List.getElem?_cons_succ, List.set_cons_zero, List.set_cons_succ, List.length_cons, List.length_nil, List.append_nil, List.nil_append, List.cons_append, piApp_on, oLen_fz, oLen_lst, oLen_tup, oLt_int, oLe_int, oGt_int, oGe_int, oAdd_int, oSub_int, oIx_fz, oIx_lst, oIx_tup, oMax_int, oMin_int, oInt_bl, oInt_int, oIsi_bl, oNeg_int, oTuple_lst, oTuple_tup, iR1_eq, iR2_eq, iSq_eq, iStrM_eq, srcOf_tup, srcOf_lst, srcOf_fz, if_true, if_false, Bool.false_eq_true, Bool.true_eq_false, reduceIte, Nat.reduceAdd, Nat.reduceLeDiff, Nat.reduceEqDiff, decide_true, decide_false, and_self, and_true, true_and, flowB, hg, pow_10_18, decide_eq_false h, oMod_int _ 2147483629 i5, oMul_l _ 40692 _ i11 i12]
    rfl
/-- the body of _law_draw -/
def drawB : FS := (mSeq (mIfS (bOf (mOp oGt (mOp oIx (mVar 0) (mC (.int 0))) (mC (.int 0)))) (mSeq (mSet 2 (mOp oMod (mOp oIx (mVar 0) (mC (.int 0))) (mVar 1))) (mSeq (mAsg (mOp oDiv (mOp oIx (mVar 0) (mC (.int 0))) (mVar 1)) (gIx (mVar 0) (mC (.int 0)))) (mRet (mVar 2)))) mPass) (mSeq (mAsg (mOp (oAdd false) (mOp oIx (mVar 0) (mC (.int 1))) (mC (.int 1))) (gIx (mVar 0) (mC (.int 1)))) (mSeq (mSet 3 (mOp oMod (mOp (oAdd false) (mOp (oAdd false) (mOp (oMul false) (mOp oIx (mVar 0) (mC (.int 2))) (mOp (oAdd false) (mC (.int 48271)) (mOp (oMul false) (mC (.int 2)) (mOp oIx (mVar 0) (mC (.int 1)))))) (mOp (oMul false) (mC (.int 7919)) (mOp oIx (mVar 0) (mC (.int 1))))) (mC (.int 1))) (mC (.int 2147483629)))) (mSeq (mSet 3 (mOp oMod (mOp (oMul false) (mVar 3) (mVar 3)) (mC (.int 2147483587)))) (mRet (mOp oMod (mOp oDiv (mOp oMod (mOp (oMul false) (mOp (oAdd false) (mVar 3) (mC (.int 5))) (mOp (oAdd false) (mVar 3) (mC (.int 40692)))) (mC (.int 2147483579))) (mC (.int 31))) (mVar 1)))))))
theorem oIx_ref {M : Mem} {i : Nat} {l : List D} (h : M[i]? = some (.lst l)) (k : Int) : oIx (.ref i) (.int k) M = match atI l k with | some d => .ok d M | none => .no := by
  simp only [oIx, seqOf, lstOf, h]
  all_goals rfl
theorem at0 {α : Type} (a b c : α) : atI [a, b, c] 0 = some a := rfl
theorem at1 {α : Type} (a b c : α) : atI [a, b, c] 1 = some b := rfl
theorem at2 {α : Type} (a b c : α) : atI [a, b, c] 2 = some c := rfl
theorem gIx_eq (fo fi : FE) (d : D) {env : Env} {M : Mem} : gIx fo fi d env M = (fo env M).bind fun o m => (fi env m).bind fun i m' => match o, i with
  | .ref j, .int k => match m'[j]? with
    | some (.lst l) => match ixN l.length k with
      | some n => .ok env (m'.set j (.lst (l.set n d)))
      | none => .no
    | _ => .no
  | _, _ => .no := rfl
theorem ix30 : ixN 3 0 = some 0 := rfl
theorem ix31 : ixN 3 1 = some 1 := rfl
theorem div_ok {many : Int} (h : 0 < many) (h2 : many < 1000000000000000000000000) (i : Int) : divOk i many = true := by
  unfold divOk
  simp only [Bool.and_eq_true, decide_eq_true_eq]
  refine ⟨h, ?_⟩
  have : many.natAbs < 2 ^ 80 := by
    have : (2 : Nat) ^ 80 = 1208925819614629174706176 := by decide +kernel
    omega
  exact Nat.lt_of_lt_of_le (PySem.Flt.log2_lt_of (by decide) this) (by decide)
theorem draw_run (s : Fl) (hs : s.ok) (i : Nat) (M : Mem) (many : Int) (h0 : 0 < many) (h1 : many < 1000000000000000000000000) (hM : M[i]? = some s.c) :
    ∃ (v : Int) (s' : Fl), 0 ≤ v ∧ v < many ∧ s'.ok ∧ drawB [some (.ref i), some (.int many), none, none] M = .ok (.rt (.int v)) (M.set i s'.c) := by
  have hi : i < M.length := (List.getElem?_eq_some_iff.mp hM).1
  have hM' : M[i]? = some (.lst [.int s.own, .int s.cnt, .int s.seed]) := hM
  by_cases h : 0 < s.own
  · refine ⟨s.own % many, ⟨s.own / many, s.cnt, s.seed⟩, Int.emod_nonneg _ (by omega), Int.emod_lt_of_pos _ h0, hs, ?_⟩
    simp -implicitDefEqProofs only [mSeq_eq, mIfS_eq, mSet_eq, mRet_eq, mRetN_eq, mExpr_eq, mPass_eq, mAsg_eq, mPar_eq, mAug_eq, bOf_eq, tOf_eq, tAndM_eq, tOrM_eq, tNotM_eq, tsYes_eq, mOp_eq, mUn_eq, mVar_eq, mC_eq, mCall_eq, mFun_eq, mFunKw_eq, mMeth_eq, mAnd_eq, mOr_eq, mNot_eq, mIf_eq, mChain_eq, mSl_eq, pNone_eq, pSome_eq, aCons_eq, aNil_eq, mTup_eq, mLst_eq, gN_eq, gT_eq, gsNil_eq, gsCons_eq, mkL_t, mkL_f, R.bind_ok, R.bind_no, R.nox_ok, List.getElem?_cons_zero, List.getElem?_cons_succ, List.set_cons_zero, List.set_cons_succ, List.length_cons, List.length_nil, List.append_nil, List.nil_append, List.cons_append, piApp_on, oLen_fz, oLen_lst, oLen_tup, oLt_int, oLe_int, oGt_int, oGe_int, oAdd_int, oSub_int, oIx_fz, oIx_lst, oIx_tup, oMax_int, oMin_int, oInt_bl, oInt_int, oIsi_bl, oNeg_int, oTuple_lst, oTuple_tup, iR1_eq, iR2_eq, iSq_eq, iStrM_eq, srcOf_tup, srcOf_lst, srcOf_fz, if_true, if_false, Bool.false_eq_true, Bool.true_eq_false, reduceIte, Nat.reduceAdd, Nat.reduceLeDiff, Nat.reduceEqDiff, decide_true, decide_false, and_self, and_true, true_and, drawB, oIx_ref hM', at0, decide_eq_true h, oMod_int _ many h0, oDiv_int _ many (div_ok h0 h1 _), gIx_eq, hM', ix30]
    rfl
  · have hset : (M.set i (.lst [.int s.own, .int (s.cnt + 1), .int s.seed]))[i]? = some (.lst [.int s.own, .int (s.cnt + 1), .int s.seed]) := List.getElem?_set_self hi
    let n1 : Int := (s.seed * (48271 + 2 * (s.cnt + 1)) + 7919 * (s.cnt + 1) + 1) % 2147483629
    let n2 : Int := n1 * n1 % 2147483587
    have b1 : 0 ≤ n1 := Int.emod_nonneg _ (by omega)
    have b2 : n1 < 2147483629 := Int.emod_lt_of_pos _ (by omega)
    have b3 : 0 ≤ n2 := Int.emod_nonneg _ (by omega)
    have b4 : n2 < 2147483587 := Int.emod_lt_of_pos _ (by omega)
    refine ⟨(n2 + 5) * (n2 + 40692) % 2147483579 / 31 % many, ⟨s.own, s.cnt + 1, s.seed⟩, Int.emod_nonneg _ (by omega), Int.emod_lt_of_pos _ h0, hs, ?_⟩
    simp -implicitDefEqProofs only [mSeq_eq, mIfS_eq, mSet_eq, mRet_eq, mRetN_eq, mExpr_eq, mPass_eq, mAsg_eq, mPar_eq, mAug_eq, bOf_eq, tOf_eq, tAndM_eq, tOrM_eq, tNotM_eq, tsYes_eq, mOp_eq, mUn_eq, mVar_eq, mC_eq, mCall_eq, mFun_eq, mFunKw_eq, mMeth_eq, mAnd_eq, mOr_eq, mNot_eq, mIf_eq, mChain_eq, mSl_eq, pNone_eq, pSome_eq, aCons_eq, aNil_eq, mTup_eq, mLst_eq, gN_eq, gT_eq, gsNil_eq, gsCons_eq, mkL_t, mkL_f, R.bind_ok, R.bind_no, R.nox_ok, List.getElem?_cons_zero, List.getElem?_cons_succ, List.set_cons_zero, List.set_cons_succ, List.length_cons, List.length_nil, List.append_nil, List.nil_append, List.cons_append, piApp_on, oLen_fz, oLen_lst, oLen_tup, oLt_int, oLe_int, oGt_int, oGe_int, oAdd_int, oSub_int, oIx_fz, oIx_lst, oIx_tup, oMax_int, oMin_int, oInt_bl, oInt_int, oIsi_bl, oNeg_int, oTuple_lst, oTuple_tup, iR1_eq, iR2_eq, iSq_eq, iStrM_eq, srcOf_tup, srcOf_lst, srcOf_fz, if_true, if_false, Bool.false_eq_true, Bool.true_eq_false, reduceIte, Nat.reduceAdd, Nat.reduceLeDiff, Nat.reduceEqDiff, decide_true, decide_false, and_self, and_true, true_and, drawB, oIx_ref hM', at0, at1, decide_eq_false h, gIx_eq, hM', ix31, oIx_ref hset, at2, oMul_l _ 2 _ i13 i14, oMul_l _ 7919 _ i1 i2, oMul_l _ s.seed _ (by have := hs.1; omega) (by have := hs.2; omega), oMod_int _ 2147483629 i5]
    have e1 : (s.seed * (48271 + 2 * (s.cnt + 1)) + 7919 * (s.cnt + 1) + 1) % 2147483629 = n1 := rfl
    simp -implicitDefEqProofs only [mSeq_eq, mIfS_eq, mSet_eq, mRet_eq, mRetN_eq, mExpr_eq, mPass_eq, mAsg_eq, mPar_eq, mAug_eq, bOf_eq, tOf_eq, tAndM_eq, tOrM_eq, tNotM_eq, tsYes_eq, mOp_eq, mUn_eq, mVar_eq, mC_eq, mCall_eq, mFun_eq, mFunKw_eq, mMeth_eq, mAnd_eq, mOr_eq, mNot_eq, mIf_eq, mChain_eq, mSl_eq, pNone_eq, pSome_eq, aCons_eq, aNil_eq, mTup_eq, mLst_eq, gN_eq, gT_eq, gsNil_eq, gsCons_eq, mkL_t, mkL_f, R.bind_ok, R.bind_no, R.nox_ok, List.getElem?_cons_zero, List.getElem?_cons_succ, List.set_cons_zero, List.set_cons_succ, List.length_cons, List.length_nil, List.append_nil, List.nil_append, List.cons_append, piApp_on, oLen_fz, oLen_lst, oLen_tup, oLt_int, oLe_int, oGt_int, oGe_int, oAdd_int, oSub_int, oIx_fz, oIx_lst, oIx_tup, oMax_int, oMin_int, oInt_bl, oInt_int, oIsi_bl, oNeg_int, oTuple_lst, oTuple_tup, iR1_eq, iR2_eq, iSq_eq, iStrM_eq, srcOf_tup, srcOf_lst, srcOf_fz, if_true, if_false, Bool.false_eq_true, Bool.true_eq_false, reduceIte, Nat.reduceAdd, Nat.reduceLeDiff, Nat.reduceEqDiff, decide_true, decide_false, and_self, and_true, true_and, e1, oMul_l _ n1 _ (by omega) (by omega), oMod_int _ 2147483587 i15]
    have e2 : n1 * n1 % 2147483587 = n2 := rfl
    simp -implicitDefEqProofs only [mSeq_eq, mIfS_eq, mSet_eq, mRet_eq, mRetN_eq, mExpr_eq, mPass_eq, mAsg_eq, mPar_eq, mAug_eq, bOf_eq, tOf_eq, tAndM_eq, tOrM_eq, tNotM_eq, tsYes_eq, mOp_eq, mUn_eq, mVar_eq, mC_eq, mCall_eq, mFun_eq, mFunKw_eq, mMeth_eq, mAnd_eq, mOr_eq, mNot_eq, mIf_eq, mChain_eq, mSl_eq, pNone_eq, pSome_eq, aCons_eq, aNil_eq, mTup_eq, mLst_eq, gN_eq, gT_eq, gsNil_eq, gsCons_eq, mkL_t, mkL_f, R.bind_ok, R.bind_no, R.nox_ok, List.getElem?_cons_zero, List.getElem?_cons_succ, List.set_cons_zero, List.set_cons_succ, List.length_cons, List.length_nil, List.append_nil, List.nil_append, List.cons_append, piApp_on, oLen_fz, oLen_lst, oLen_tup, oLt_int, oLe_int, oGt_int, oGe_int, oAdd_int, oSub_int, oIx_fz, oIx_lst, oIx_tup, oMax_int, oMin_int, oInt_bl, oInt_int, oIsi_bl, oNeg_int, oTuple_lst, oTuple_tup, iR1_eq, iR2_eq, iSq_eq, iStrM_eq, srcOf_tup, srcOf_lst, srcOf_fz, if_true, if_false, Bool.false_eq_true, Bool.true_eq_false, reduceIte, Nat.reduceAdd, Nat.reduceLeDiff, Nat.reduceEqDiff, decide_true, decide_false, and_self, and_true, true_and, e2, oMul_l _ (n2 + 5) _ (by omega) (by omega), oMod_int _ 2147483579 i16, oDiv_int _ 31 (div_ok i17 i18 _), oMod_int _ many h0]
    rfl
theorem forL_nil {g : FG} {body : FS} {env : Env} {M : Mem} : forL (fun _ => True) g body [] env M = .ok (.nx env) M := by
  unfold forL; rw [if_pos trivial]
theorem forL_cons {g : FG} {body : FS} {d : D} {r : List D} {env : Env} {M : Mem} : forL (fun _ => True) g body (d :: r) env M = (g d env M).bind fun env1 m1 => (body env1 m1).bind fun fl m => match fl with
      | .nx env' => forL (fun _ => True) g body r env' m
      | .ct env' => forL (fun _ => True) g body r env' m
      | .bk env' => .ok (.nx env') m
      | .rt d => .ok (.rt d) m := by
  conv => lhs; unfold forL
  rw [if_pos trivial]
  all_goals rfl
theorem forL_inv {g : FG} {body : FS} (P : Nat → Env → Mem → Prop) : ∀ (items : List D) (k0 : Nat) (env : Env) (M : Mem), P k0 env M →
    (∀ (k : Nat) d env M, items[k]? = some d → P (k0 + k) env M → ∃ env' m', ((g d env M).bind fun e1 m1 => body e1 m1) = .ok (.nx env') m' ∧ P (k0 + k + 1) env' m') →
    ∃ env' m', forL (fun _ => True) g body items env M = .ok (.nx env') m' ∧ P (k0 + items.length) env' m'
  | [], k0, env, M, h0, _ => ⟨env, M, forL_nil, h0⟩
  | d :: r, k0, env, M, h0, hs => by
    obtain ⟨env1, m1, e1, h1⟩ := hs 0 d env M rfl h0
    obtain ⟨env2, m2, e2, h2⟩ := forL_inv P r (k0 + 1) env1 m1 h1 fun k d' env' M' hk hp => by
      have := hs (k + 1) d' env' M' (by simpa using hk) (by rw [show k0 + (k + 1) = k0 + 1 + k by omega]; exact hp)
      rw [show k0 + (k + 1) + 1 = k0 + 1 + k + 1 by omega] at this
      exact this
    refine ⟨env2, m2, ?_, by rw [show k0 + (d :: r).length = k0 + 1 + r.length by simp; omega]; exact h2⟩
    rw [forL_cons]
    obtain ⟨ea, ma, ea1, ea2⟩ := R.bind_eq e1
    rw [ea1, R.bind_ok, ea2, R.bind_ok]
    exact e2
theorem compL_nil {g : FG} {t : FT} {f : FE} {env : Env} {M : Mem} : compL (fun _ => True) g t f env [] M = .ok [] M := by
  unfold compL; rw [if_pos trivial]
theorem compL_cons {g : FG} {t : FT} {f : FE} {env : Env} {d : D} {r : List D} {M : Mem} : compL (fun _ => True) g t f env (d :: r) M = (g d env M).bind fun env1 m1 => (t env1 m1).bind fun b m2 => if b = true then (f env1 m2).bind fun y m3 => (compL (fun _ => True) g t f env r m3).bind fun ys m4 => .ok (y :: ys) m4 else compL (fun _ => True) g t f env r m2 := by
  conv => lhs; unfold compL
  rw [if_pos trivial]
/-- a comprehension without tests, its elements each by the memory as it is -/
theorem compL_inv {g : FG} {f : FE} {env : Env} (P : Nat → Mem → Prop) (Y : Nat → D → D → Prop) : ∀ (items : List D) (k0 : Nat) (M : Mem), P k0 M →
    (∀ (k : Nat) d M, items[k]? = some d → P (k0 + k) M → ∃ y m', ((g d env M).bind fun e1 m1 => f e1 m1) = .ok y m' ∧ Y (k0 + k) d y ∧ P (k0 + k + 1) m') →
    ∃ ys m', compL (fun _ => True) g tsYes f env items M = .ok ys m' ∧ ys.length = items.length ∧ (∀ (k : Nat) d y, items[k]? = some d → ys[k]? = some y → Y (k0 + k) d y) ∧ P (k0 + items.length) m'
  | [], k0, M, h0, _ => ⟨[], M, compL_nil, rfl, fun k d y e => by simp at e, h0⟩
  | d :: r, k0, M, h0, hs => by
    obtain ⟨y, m1, e1, y1, h1⟩ := hs 0 d M rfl h0
    obtain ⟨ys, m2, e2, l2, y2, h2⟩ := compL_inv P Y r (k0 + 1) m1 h1 fun k d' M' hk hp => by
      have := hs (k + 1) d' M' (by simpa using hk) (by rw [show k0 + (k + 1) = k0 + 1 + k by omega]; exact hp)
      rw [show k0 + (k + 1) + 1 = k0 + 1 + k + 1 by omega, show k0 + (k + 1) = k0 + 1 + k by omega] at this
      exact this
    refine ⟨y :: ys, m2, ?_, by simp [l2], fun k d' y' hk hy => ?_, by rw [show k0 + (d :: r).length = k0 + 1 + r.length by simp; omega]; exact h2⟩
    · rw [compL_cons]
      obtain ⟨ea, ma, ea1, ea2⟩ := R.bind_eq e1
      rw [ea1, R.bind_ok, tsYes_eq, R.bind_ok, if_pos rfl, ea2, R.bind_ok, e2, R.bind_ok]
    · cases k with
      | zero => simp at hk hy; subst hk hy; exact y1
      | succ k => rw [show k0 + (k + 1) = k0 + 1 + k by omega]; exact y2 k d' y' (by simpa using hk) (by simpa using hy)
theorem mLc_eq (c : Bool) (vs : List Nat) (fi : FI) (g : FG) (t : FT) (f : FE) {env : Env} {M : Mem} : mLc c vs fi g t f env M = (fi env M).bind fun src m => if src.items.length < 16777216 then (compL src.still g t f (wipeE env vs) src.items m).nox.bind fun ys m' => mkL c ys m' else .no := rfl
theorem mFor_eq (f : FI) (g : FG) (body : FS) {env : Env} {M : Mem} : mFor f g body env M = (f env M).bind fun src m => forL src.still g body src.items env m := rfl
theorem runB_rt {B : FS} {N : Nat} {ds : List D} {M m : Mem} {d : D} (h : B (envStart N ds) M = .ok (.rt d) m) : runB B N ds M = .ok d m := by
  unfold runB; rw [h]
theorem runB_nx {B : FS} {N : Nat} {ds : List D} {M m : Mem} {env : Env} (h : B (envStart N ds) M = .ok (.nx env) m) : runB B N ds M = .ok .non m := by
  unfold runB; rw [h]
theorem set_twice {M : Mem} {i : Nat} {a b : Cell} : (M.set i a).set i b = M.set i b := List.set_set ..
/-- the memory bears a flow at i, else as M0 -/
structure FlAt (M0 : Mem) (i : Nat) (M : Mem) : Prop where
  at_ : ∃ s : Fl, s.ok ∧ M = M0.set i s.c
  lt : i < M0.length
theorem FlAt.get {M0 M : Mem} {i : Nat} (h : FlAt M0 i M) : ∃ s : Fl, s.ok ∧ M[i]? = some s.c ∧ ∀ s' : Fl, s'.ok → FlAt M0 i (M.set i s'.c) := by
  obtain ⟨s, h1, h2⟩ := h.at_
  refine ⟨s, h1, by rw [h2]; exact List.getElem?_set_self h.lt, fun s' hs => ⟨⟨s', hs, by rw [h2, set_twice]⟩, h.lt⟩⟩
theorem FlAt.start {M : Mem} {i : Nat} {s : Fl} (hs : s.ok) (h : M[i]? = some s.c) : FlAt M i M := by
  obtain ⟨h1, h2⟩ := List.getElem?_eq_some_iff.mp h
  exact ⟨⟨s, hs, by rw [← h2, List.set_getElem_self]⟩, h1⟩
theorem FlAt.len {M0 M : Mem} {i : Nat} (h : FlAt M0 i M) : M.length = M0.length := by
  obtain ⟨s, _, h2⟩ := h.at_
  rw [h2, List.length_set]
theorem FlAt.other {M0 M : Mem} {i j : Nat} (h : FlAt M0 i M) (hj : i ≠ j) : M[j]? = M0[j]? := by
  obtain ⟨s, _, e⟩ := h.at_
  rw [e, List.getElem?_set_ne hj]
theorem rngItems_get {lo : Int} {n k : Nat} {d : D} (h : (rngItems lo n)[k]? = some d) : d = .int (lo + (k : Int)) ∧ k < n := by
  unfold rngItems at h
  rw [List.getElem?_map] at h
  cases q : (List.range n)[k]? with
  | none => rw [q] at h; cases h
  | some j =>
    rw [q] at h; cases h
    obtain ⟨h1, h2⟩ := List.getElem?_eq_some_iff.mp q
    simp at h1 h2
    subst h2
    exact ⟨rfl, h1⟩
theorem rngItems_len {lo : Int} {n : Nat} : (rngItems lo n).length = n := by simp [rngItems]
theorem rngOk_of {i : Int} (h1 : 0 ≤ i) (h2 : i < 4611686018427387904) : rngOk i = true := by
  unfold rngOk
  have e : (2 : Int) ^ 62 = 4611686018427387904 := by decide +kernel
  rw [e]
  simp only [Bool.and_eq_true, decide_eq_true_eq]
  omega
theorem oSl_str {c : Bool} {x : List Nat} {lo hi : Option Int} {M : Mem} (h : x.length ≤ 16777216) : oSl c (.str x) lo hi M = .ok (.str (cutD x lo hi)) M := by
  simp only [oSl, h, if_true]
theorem oSl_tup {c : Bool} {x : List D} {lo hi : Option Int} {M : Mem} : oSl c (.tup x) lo hi M = .ok (.tup (cutD x lo hi)) M := rfl
theorem oSl_lst {x : List D} {lo hi : Option Int} {M : Mem} : oSl false (.lst x) lo hi M = .ok (.lst (cutD x lo hi)) M := rfl
theorem oSl_fz {x : List D} {lo hi : Option Int} {M : Mem} : oSl false (.fz x) lo hi M = .ok (.lst (cutD x lo hi)) M := rfl
theorem cutD_take {α : Type} (xs : List α) (k : Nat) : cutD xs none (some (k : Int)) = xs.take k := by
  unfold cutD
  rw [HT.sIx_none, HT.sIx_nat, List.drop_zero, Nat.sub_zero]
  by_cases h : k ≤ xs.length
  · rw [Nat.min_eq_left h]
  · rw [Nat.min_eq_right (by omega), List.take_of_length_le (Nat.le_refl _), List.take_of_length_le (by omega)]
theorem cutD_drop {α : Type} (xs : List α) (k : Nat) : cutD xs (some (k : Int)) none = xs.drop k := by
  unfold cutD
  rw [HT.sIx_none, HT.sIx_nat]
  by_cases h : k ≤ xs.length
  · rw [Nat.min_eq_left h, List.take_of_length_le]
    rw [List.length_drop]
    omega
  · rw [Nat.min_eq_right (by omega), List.drop_eq_nil_of_le (Nat.le_refl _), List.drop_eq_nil_of_le (by omega)]
    simp
theorem oIx_str {x : List Nat} {i : Int} {c : Nat} {M : Mem} (h : x.length ≤ 16777216) (e : atI x i = some c) : oIx (.str x) (.int i) M = .ok (.str [c]) M := by
  simp only [oIx, h, if_true, e]
theorem atI_some {α : Type} {xs : List α} {i : Int} (h0 : 0 ≤ i) (h1 : i < xs.length) : ∃ v, atI xs i = some v ∧ v ∈ xs := by
  obtain ⟨j, rfl⟩ : ∃ j : Nat, i = (j : Int) := ⟨i.toNat, by omega⟩
  have hj : j < xs.length := by omega
  exact ⟨xs[j], atI_nat (List.getElem?_eq_getElem hj), List.getElem_mem hj⟩
theorem oAdd_str {c : Bool} {a b : List Nat} {M : Mem} (h : a.length + b.length ≤ 16777216) : oAdd c (.str a) (.str b) M = .ok (.str (a ++ b)) M := by
  show oAddS (.str a) (.str b) M = _
  simp only [oAddS, h, if_true]
theorem oEq_bl (ne a b : Bool) {M : Mem} : oEq ne (.bl a) (.bl b) M = .ok (.bl (if ne = true then !(a == b) else (a == b))) M := by
  cases ne <;> rfl
theorem oEq_int (ne : Bool) (a b : Int) {M : Mem} : oEq ne (.int a) (.int b) M = .ok (.bl (if ne = true then !(a == b) else (a == b))) M := by
  cases ne <;> rfl
end Fn
set_option Elab.async false
set_option linter.all false
set_option maxRecDepth 100000
set_option maxHeartbeats 1000000
namespace Fn
open PySem PySem.Spec PyProof.Rows L2
section
variable {X : Cx} {G : Gx} {cl : Nat → Addr} {E : XK} {W : Wd} {H : Hp} {M : Mem} {a b c : Expr} {fa fb fc : FE} {pos : Pos}
def putD (f : Str) (v : D) : List (Str × D) → List (Str × D)
  | [] => [(f, v)]
  | (g, x) :: r => if g = f then (g, v) :: r else (g, x) :: putD f v r
theorem rpk_put {f : Str} {d : D} {u : V} (r : Rp G W H d u) : ∀ {fs : List (Str × D)} {vs : List (Str × V)}, RpK G W H id fs vs → RpK G W H id (putD f d fs) (putF f u vs)
  | _, _, .nil => .cons ⟨rfl, r⟩ .nil
  | (g, x) :: fs, (g', x') :: vs, .cons h t => by
    have e : g = g' := h.1
    subst e
    show RpK G W H id (if g = f then _ else _) (if g = f then _ else _)
    by_cases q : g = f
    · rw [if_pos q, if_pos q]
      exact .cons ⟨rfl, r⟩ t
    · rw [if_neg q, if_neg q]
      exact .cons h (rpk_put r t)
theorem rpk_get {f : Str} {d : D} : ∀ {fs : List (Str × D)} {vs : List (Str × V)}, RpK G W H id fs vs → fs.lookup f = some d → ∃ u, vs.lookup f = some u ∧ Rp G W H d u
  | _, _, .nil, e => by cases e
  | (g, x) :: fs, (g', x') :: vs, .cons h t, e => by
    have q : g = g' := h.1
    subst q
    simp only [List.lookup] at e ⊢
    cases k : f == g with
    | true => rw [k] at e; cases e; exact ⟨x', rfl, h.2⟩
    | false => rw [k] at e; exact rpk_get t e
theorem rpk_none {f : Str} : ∀ {fs : List (Str × D)} {vs : List (Str × V)}, RpK G W H id fs vs → fs.lookup f = none → vs.lookup f = none
  | _, _, .nil, e => rfl
  | (g, x) :: fs, (g', x') :: vs, .cons h t, e => by
    have q : g = g' := h.1
    subst q
    simp only [List.lookup] at e ⊢
    cases k : f == g with
    | true => rw [k] at e; cases e
    | false => rw [k] at e; exact rpk_none t e
theorem rpk_len {fs : List (Str × D)} {vs : List (Str × V)} (h : RpK G W H id fs vs) : vs.length = fs.length := by
  induction h with
  | nil => rfl
  | cons _ _ ih => simp [ih]
/-- the attributes of an instance of the class c0 -/
def insOf (c0 : Nat) (M : Mem) : D → Option (Nat × List (Str × D))
  | .ref i => match M[i]? with
    | some (.ins c fs) => if c = c0 then some (i, fs) else none
    | _ => none
  | _ => none
theorem insOf_ok {c0 : Nat} (m : MemOk G W H M) {d : D} {u : V} {i : Nat} {fs : List (Str × D)} (r : Rp G W H d u) (e : insOf c0 M d = some (i, fs)) : d = .ref i ∧ ∃ a dx vs, u = .ref a ∧ W.as[i]? = some a ∧ H a = some (.ins (G.cl c0) dx vs) ∧ RpK G W H id fs vs := by
  unfold insOf at e
  split at e
  · rename_i j
    split at e
    · rename_i c fs' hc
      split at e
      · rename_i hcc
        subst hcc
        cases e
        obtain ⟨a, e1, e2⟩ := r
        obtain ⟨dx, vs, h1, h2⟩ := m.cell _ _ a hc e1
        exact ⟨rfl, a, dx, vs, e2, e1, h1, h2⟩
      · cases e
    · cases e
  · cases e
/-- e.f -/
def mFld (c0 : Nat) (f : Str) (fa : FE) : FE := fun env M => (fa env M).bind fun d m => match insOf c0 m d with
  | some (_, fs) => match fs.lookup f with
    | some v => .ok v m
    | none => .no
  | none => .no
theorem sn_fld {f : Str} {c0 : Nat} (hc : Cls X.K (cl c0)) (hn : NoAttr X.K (cl c0) f) (ha : PE X a (tE ⟨X.K, cl, X.w⟩ E fa)) (hb : attributeBase a f X.env (eval a X.env) = eval a X.env := by rfl) : PE X (.Attribute a f pos) (tE ⟨X.K, cl, X.w⟩ E (mFld c0 f fa)) := pe_imp (pe_fld ha hb) fun σ H Q ⟨W, env, M, s, p⟩ => by
  refine tE.bind s p fun d m W1 H1 u f1 s1 r1 p1 => ?_
  split at p1
  · rename_i i fs e
    split at p1
    · rename_i v hv
      obtain ⟨_, a1, dx, vs, e2, e3, h1, h2⟩ := insOf_ok s1.mem r1 e
      obtain ⟨w, h3, h4⟩ := rpk_get h2 hv
      exact ⟨a1, _, dx, vs, w, e2, h1, hc, hn, h3, p1.here s1.mem _ h4⟩
    · exact p1.elim
  · exact p1.elim
/-- e.f = v -/
def mFldSet (c0 : Nat) (f : Str) (fa fv : FE) : FS := fun env M => (fv env M).bind fun v m => (fa env m).bind fun d m2 => match insOf c0 m2 d with
  | some (i, fs) => if fs.length < 1000 then .ok (.nx env) (m2.set i (.ins c0 (putD f v fs))) else .no
  | none => .no
theorem ss_fld {f : Str} {c0 : Nat} {pos' : Pos} (hc : Cls X.K (cl c0)) (hn : NoAttr X.K (cl c0) f) (ha : PE X a (tE ⟨X.K, cl, X.w⟩ E fa)) (hb : PE X b (tE ⟨X.K, cl, X.w⟩ E fb)) (hs : swapsWith b (some (.Attribute a f pos')) pos.line X.env = pure false := by rfl) : PS X (.Assign [.Attribute a f pos'] b pos) (tS ⟨X.K, cl, X.w⟩ E (mFldSet c0 f fa fb)) := ps_imp (ps_fld ha hb hs) fun D σ H ⟨W, env, M, s, p⟩ => by
  refine tE.bind s p fun v m W1 H1 u f1 s1 r1 p1 => ?_
  refine tE.bind s1 p1 fun d m2 W2 H2 u2 f2 s2 r2 p2 => ?_
  split at p2
  · rename_i i fs e
    split at p2
    · rename_i hl
      obtain ⟨_, a1, dx, vs, e2, e3, h1, h2⟩ := insOf_ok s2.mem r2 e
      refine ⟨a1, _, dx, vs, e2, h1, hc, hn, by rw [rpk_len h2]; exact hl, ?_⟩
      have f3 := Fut.wrote (W := W2) (H := H2) (o := .ins (cl c0) dx (putF f u vs)) e3 h1 trivial
      exact p2 W2 _ f3 (s2.mem.wrote e3 ⟨dx, _, upd_same, rpk_put (s2.mem.rp f3 (s1.mem.rp f2 r1)) (h2.fut s2.mem f3)⟩) _ (s2.env.fut s2.mem f3)
    · exact p2.elim
  · exact p2.elim
def ClosedK (K : PySem.W.Frag) (cl : Nat → Addr) (dd : List D) (dvs : List V) : Prop := ∀ (w : World) (W : Wd) (H : Hp), RpL ⟨K, cl, w⟩ W H dd dvs
theorem closedK_nil {K : PySem.W.Frag} : ClosedK K cl [] [] := fun _ _ _ => rfl
/-- o.x(..) -/
def mMth (c0 : Nat) (x : Str) (n : Nat) (g : FD) (dd : List D) (fo : FE) (ga : FA) : FE := fun env M => (fo env M).bind fun d m => match insOf c0 m d with
  | some (_, fs) => match fs.lookup x with
    | none => (ga env m).bind fun ds m2 => if (d :: (ds ++ dd)).length = n then g (d :: (ds ++ dd)) m2 else .no
    | some _ => .no
  | none => .no
/-- C(..) -/
def mMake (c0 : Nat) (n : Nat) (g : FD) (dd : List D) (ga : FA) : FE := fun env M => (ga env M).bind fun ds m => if (D.ref m.length :: (ds ++ dd)).length = n then (g (D.ref m.length :: (ds ++ dd)) (m ++ [.ins c0 []])).bind fun r m2 => match r with
    | .non => .ok (.ref m.length) m2
    | _ => .no
  else .no
section
variable {CX : CXT} {k n c0 : Nat} {f C : Addr} {fd : FuncData} {ps ks : List Str} {g : FD} {dvs : List V} {dd : List D} {ds : List Value} {x m : Str} {p apos : Pos} {e o : Expr} {es : List Expr} {ga : FA} {kws : List Keyword} {π : Perm2} {nk : Nat} {gk : FA}
theorem mth_reads {K : PySem.W.Frag} {w : World} (hc : ClosedK K cl dd dvs) (σ : L2.St) (H : Hp) (Q : VK) (h : tE ⟨K, cl, w⟩ E (mMth c0 x n g dd fa ga) σ H Q) : tMeth (cl c0) x (spOf ⟨K, cl, w⟩ n g) dvs E (tE ⟨K, cl, w⟩ E fa) (tA ⟨K, cl, w⟩ E ga) σ H Q := by
  obtain ⟨W, env, M, s, p⟩ := h
  refine tE.bind s p fun d m W1 H1 u f1 s1 r1 p1 => ?_
  split at p1
  · rename_i i fs e
    split at p1
    · rename_i hv
      obtain ⟨hd, a1, dx, vs, e2, e3, h1, h2⟩ := insOf_ok s1.mem r1 e
      refine ⟨a1, dx, vs, e2, h1, rpk_none h2 hv, ?_⟩
      refine tA.bind s1 p1 fun ds m2 W2 H2 us f2 s2 r2 p2 => ?_
      split at p2
      · rename_i hl
        exact ⟨W2, m2, d :: (ds ++ dd), s2.mem, ⟨u, _, rfl, s1.mem.rp f2 r1, r2.append (hc _ W2 H2)⟩, hl, p2⟩
      · exact p2.elim
    · exact p1.elim
  · exact p1.elim
theorem sn_mth {pl : Sem Bool} (ho : PE X o (tE ⟨X.K, cl, X.w⟩ E fa)) (c : Cls X.K (cl c0)) (hm : Meth X.K (cl c0) m f) (F : FnOk X.prog X.w X.K X.mg X.base CX k f fd ps (spOf ⟨X.K, cl, X.w⟩ n g)) (hr : Room k X.A) (hb : Binds X.K fd ps ds) (hd : Vals dvs ds) (hcl : ClosedK X.K cl dd dvs) (hx : Passes CX X E) (ha : PA X (e :: es) (tA ⟨X.K, cl, X.w⟩ E ga))
    (hst : starEach (e :: es) X.env = (false, eval e X.env) :: starEach es X.env := by rfl) (hpl : (backTo pos (starEach es X.env)).any (·.1) = false := by rfl)
    (ht : eval (.Call (.Attribute o m apos) (e :: es) [] pos) X.env = (do
      let ov ← eval o X.env
      standAt apos.atName
      let (f, first) ← holding [ov] (getMethod ov m pl)
      callWith pos f first (backTo pos (starEach (e :: es) X.env)) (backToKw pos (keywordEach [] X.env))) := by rfl) :
    PE X (.Call (.Attribute o m apos) (e :: es) [] pos) (tE ⟨X.K, cl, X.w⟩ E (mMth c0 m n g dd fa ga)) := pe_imp (pe_meth ho c hm F hr hb hd hx ha hst hpl ht) (mth_reads hcl)
theorem sn_mth0 {pl : Sem Bool} (ho : PE X o (tE ⟨X.K, cl, X.w⟩ E fa)) (c : Cls X.K (cl c0)) (hm : Meth X.K (cl c0) m f) (F : FnOk X.prog X.w X.K X.mg X.base CX k f fd ps (spOf ⟨X.K, cl, X.w⟩ n g)) (hr : Room k X.A) (hb : Binds X.K fd ps ds) (hd : Vals dvs ds) (hcl : ClosedK X.K cl dd dvs) (hx : Passes CX X E)
    (ht : eval (.Call (.Attribute o m apos) [] [] pos) X.env = (do
      let ov ← eval o X.env
      standAt apos.atName
      let (f, first) ← holding [ov] (getMethod ov m pl)
      callWith pos f first (backTo pos (starEach [] X.env)) (backToKw pos (keywordEach [] X.env))) := by rfl) :
    PE X (.Call (.Attribute o m apos) [] [] pos) (tE ⟨X.K, cl, X.w⟩ E (mMth c0 m n g dd fa aNil)) := pe_imp (pe_meth0 ho c hm F hr hb hd hx ht) fun σ H Q h => by
  obtain ⟨W, env, M, s, p⟩ := h
  refine tE.bind s p fun d m W1 H1 u f1 s1 r1 p1 => ?_
  split at p1
  · rename_i i fs e
    split at p1
    · rename_i hv
      obtain ⟨hd, a1, dx, vs, e2, e3, h1, h2⟩ := insOf_ok s1.mem r1 e
      refine ⟨a1, dx, vs, e2, h1, rpk_none h2 hv, ?_⟩
      have p2 : PR ⟨X.K, cl, X.w⟩ W1 H1 (PV ⟨X.K, cl, X.w⟩ Q) E (if (d :: ([] ++ dd)).length = n then g (d :: ([] ++ dd)) m else .no) := p1
      split at p2
      · rename_i hl
        exact ⟨W1, m, d :: ([] ++ dd), s1.mem, ⟨u, _, rfl, r1, hcl _ W1 H1⟩, hl, p2⟩
      · exact p2.elim
    · exact p1.elim
  · exact p1.elim
/-- a new instance stands -/
theorem made_ok (m : MemOk G W H M) {x dx : Addr} (hx : H x = none) (hdx : H dx = none) (hne : dx ≠ x) : Fut W H ⟨W.as ++ [x], W.hd⟩ (upd (upd H dx (.own x)) x (.ins (G.cl c0) dx [])) ∧ MemOk G ⟨W.as ++ [x], W.hd⟩ (upd (upd H dx (.own x)) x (.ins (G.cl c0) dx [])) (M ++ [.ins c0 []]) ∧ Rp G ⟨W.as ++ [x], W.hd⟩ (upd (upd H dx (.own x)) x (.ins (G.cl c0) dx [])) (.ref M.length) (.ref x) := by
  have m1 : MemOk G W (upd H dx (.own x)) M := m.laid hdx
  have hx1 : upd H dx (.own x) x = none := by rw [upd_ne (Ne.symm hne)]; exact hx
  refine ⟨(Fut.laid hdx).trans (Fut.added m1 hx1), m1.added hx1 ⟨dx, [], upd_same, .nil⟩, x, ?_, rfl⟩
  rw [← m.len]
  simp
theorem make_post {K : PySem.W.Frag} {w : World} {W1 : Wd} {H1 : Hp} {m1 : Mem} {Q : VK} {x dx : Addr} {as : List D} (mo : MemOk ⟨K, cl, w⟩ W1 H1 m1) (hx : H1 x = none) (hdx : H1 dx = none) (hne : dx ≠ x)
    (p : PR ⟨K, cl, w⟩ W1 H1 (PV ⟨K, cl, w⟩ Q) E ((g as (m1 ++ [.ins c0 []])).bind fun r m2 => match r with | .non => .ok (.ref m1.length) m2 | _ => .no)) :
    PR ⟨K, cl, w⟩ ⟨W1.as ++ [x], W1.hd⟩ (upd (upd H1 dx (.own x)) x (.ins (cl c0) dx [])) (PV ⟨K, cl, w⟩ fun v H2 => v = .non ∧ Q (.ref x) H2) E (g as (m1 ++ [.ins c0 []])) := by
  obtain ⟨f, m', r⟩ := made_ok (c0 := c0) mo hx hdx hne
  obtain ⟨b, hb, hb2⟩ := r
  cases hb2
  refine PR.bind (PR.fut f p) fun z m2 W2 H2 f2 k2 p2 => fun u hu => ?_
  cases z with
  | non =>
    cases hu
    exact ⟨rfl, p2.here k2 _ ⟨x, f2.get hb, rfl⟩⟩
  | _ => exact p2.elim
theorem sn_make0 (Mk0 : Mk X.K (cl c0) f) (F : FnOk X.prog X.w X.K X.mg X.base CX k f fd ps (spOf ⟨X.K, cl, X.w⟩ n g)) (hr : Room (k + 1) X.A) (hg : Gl X x) (hm : X.mg x = some (.ref (cl c0))) (hb : Binds X.K fd ps ds) (hd : Vals dvs ds) (hc : ClosedK X.K cl dd dvs) (hx : Passes CX X E)
    (hdb : (x == ("__debug__" : Str)) = false := by decide) : PE X (.Call (.Name x p) [] [] pos) (tE ⟨X.K, cl, X.w⟩ E (mMake c0 n g dd aNil)) := pe_imp (pe_make0 Mk0 F hr hg hm hb hd hx hdb) fun σ H Q ⟨W, env, M, s, p⟩ => by
  have p1 : PR ⟨X.K, cl, X.w⟩ W H (PV ⟨X.K, cl, X.w⟩ Q) E (if (D.ref M.length :: ([] ++ dd)).length = n then (g (D.ref M.length :: ([] ++ dd)) (M ++ [.ins c0 []])).bind fun r m2 => match r with | .non => .ok (.ref M.length) m2 | _ => .no else .no) := p
  split at p1
  · rename_i hl
    intro x dx hx hdx hne
    obtain ⟨f, m', r⟩ := made_ok (c0 := c0) s.mem hx hdx hne
    exact ⟨_, _, D.ref M.length :: ([] ++ dd), m', ⟨_, _, rfl, r, hc _ _ _⟩, hl, make_post s.mem hx hdx hne p1⟩
  · exact p1.elim
end
end
end Fn
set_option Elab.async false
set_option linter.all false
set_option maxRecDepth 100000
set_option maxHeartbeats 1000000
namespace Fn
open PySem PySem.Spec PyProof.Rows L2
section
variable {X : Cx} {G : Gx} {cl : Nat → Addr} {E : XK} {W : Wd} {H : Hp} {M : Mem} {a b c : Expr} {fa fb fc : FE} {pos : Pos}
def numb (l : List D) : List D := (List.range l.length).zipWith (fun i d => .tup [.int (i : Nat), d]) l
theorem numb_get {l : List D} {i : Nat} {d : D} (h : (numb l)[i]? = some d) : ∃ x, l[i]? = some x ∧ d = .tup [.int (i : Nat), x] := by
  unfold numb at h
  rw [List.getElem?_zipWith] at h
  cases q : l[i]? with
  | none => rw [q] at h; cases q2 : (List.range l.length)[i]? <;> rw [q2] at h <;> cases h
  | some x =>
    have hi : i < l.length := (List.getElem?_eq_some_iff.mp q).1
    rw [q, List.getElem?_range hi] at h
    cases h
    exact ⟨x, rfl, rfl⟩
theorem numb_len (l : List D) : (numb l).length = l.length := by simp [numb]
theorem src_enum {W0 : Wd} {H0 : Hp} {l : List D} {P : Mem → Prop} {a : Addr} (h : ∀ W H M, Kp W0 H0 W H → MemOk G W H M → P M → ∃ us, SqL G.K H a us ∧ RpL G W H l us) : SrcOk G W0 H0 ⟨numb l, P⟩ (Ite G.K a) where
  item := fun W H M f _ m st i d e => by
    obtain ⟨us, h1, h2⟩ := h W H M f m st
    obtain ⟨y, e1, rfl⟩ := numb_get e
    obtain ⟨u, e2, r2⟩ := h2.get e1
    refine ⟨⟨us, u, h1, e2⟩, fun x H' z => ?_⟩
    obtain ⟨T, x', rfl, hT, rfl, hx⟩ := z
    have := hx us h1
    rw [e2] at this; cases this
    exact ⟨Fut.laid hT, m.laid hT, T, _, rfl, .inl upd_same, _, _, rfl, rfl, _, _, rfl, m.rp (Fut.laid hT) r2, rfl⟩
  stop := fun W H M f _ m st => by
    obtain ⟨us, h1, h2⟩ := h W H M f m st
    exact ⟨us, h1, by rw [numb_len, h2.len]; exact Nat.le_refl _⟩
theorem aCons_bind {α : Type} {f : FE} {env : Fn.Env} {M : Mem} {k : List D → Mem → R α} : ((aCons f aNil) env M).bind k = (f env M).bind fun d m => k [d] m := by
  show ((f env M).bind fun d m => R.ok [d] m).bind k = _
  cases f env M <;> rfl
def oClear : D → List D → Mem → R D
  | .ref i, [], M => match M[i]? with
    | some (.lst _) => .ok .non (M.set i (.lst []))
    | _ => .no
  | _, _, _ => .no
theorem mt1_clear : Mt1 G E rClear oClear := fun W H M a u ds us Q m ra r p => by
  unfold oClear at p
  split at p
  · have : us = [] := r
    subst this
    split at p
    · rename_i l hc
      obtain ⟨a1, e1, rfl⟩ := ra
      obtain ⟨vs, h1, h2⟩ := m.cell _ _ a1 hc e1
      refine ⟨a1, vs, rfl, rfl, h1, ?_⟩
      have f := Fut.wrote (W := W) (H := H) (o := .lst []) e1 h1 trivial
      exact p W _ f (m.wrote e1 ⟨[], upd_same, rfl⟩) _ rfl
    · exact p.elim
  · exact p.elim
def intOf : D → Option Int
  | .int i => some i
  | _ => none
theorem intOf_eq {d : D} {i : Int} (h : intOf d = some i) : d = .int i := by
  cases d <;> first
    | (cases h; rfl)
    | cases h
def intsOf : List D → Option (List Int)
  | [] => some []
  | d :: r => match intOf d, intsOf r with
    | some i, some l => some (i :: l)
    | _, _ => none
theorem intsOf_map (ns : List Int) : intsOf (ns.map .int) = some ns := by
  induction ns with
  | nil => rfl
  | cons n r ih => rw [List.map_cons, intsOf, ih]; rfl
theorem intsOf_ok : ∀ {l : List D} {us : List V} {ns : List Int}, RpL G W H l us → intsOf l = some ns → us = ns.map V.int
  | [], us, ns, r, e => by have : us = [] := r; subst this; cases e; rfl
  | d :: l, us, ns, r, e => by
    obtain ⟨u, us', rfl, r1, r2⟩ := r
    simp only [intsOf] at e
    split at e
    · rename_i i ms h1 h2
      cases e
      rw [intOf_eq h1] at r1
      have : u = .int i := r1
      rw [this, intsOf_ok r2 h2]
      rfl
    · cases e
def least (a : Int) : List Int → Int
  | [] => a
  | b :: r => least (if b < a then b else a) r
theorem least_mem : ∀ (l : List Int) (a : Int), least a l ∈ a :: l
  | [], a => by simp [least]
  | b :: r, a => by
    have := least_mem r (if b < a then b else a)
    unfold least
    rcases List.mem_cons.mp this with h | h
    · by_cases hb : b < a
      · rw [if_pos hb] at h ⊢; rw [h]; simp
      · rw [if_neg hb] at h ⊢; rw [h]; simp
    · exact List.mem_cons_of_mem _ (List.mem_cons_of_mem _ h)
theorem least_le : ∀ (l : List Int) (a : Int), ∀ y ∈ a :: l, least a l ≤ y
  | [], a, y, h => by simp at h; subst h; exact Int.le_refl _
  | b :: r, a, y, h => by
    unfold least
    have ih := least_le r (if b < a then b else a)
    have h0 := ih (if b < a then b else a) (List.mem_cons_self ..)
    rcases List.mem_cons.mp h with h | h
    · subst h
      refine Int.le_trans h0 ?_
      split <;> omega
    · rcases List.mem_cons.mp h with h | h
      · subst h
        refine Int.le_trans h0 ?_
        split <;> omega
      · exact ih y (List.mem_cons_of_mem _ h)
def oMinL : List D → Mem → R D
  | [d], M => match (lstOf M d).bind intsOf with
    | some (x :: r) => .ok (.int (least x r)) M
    | _ => .no
  | _, _ => .no
theorem fn_minL : Fn1 G E (rMin G.K) oMinL := fun W H M ds us Q m r p => by
  unfold oMinL at p
  split at p
  · rename_i d
    obtain ⟨u, rfl, r1⟩ := rp_one r
    split at p
    · rename_i x rs e
      cases q : lstOf M d with
      | none => rw [q] at e; cases e
      | some l =>
        rw [q] at e
        have e' : intsOf l = some (x :: rs) := e
        obtain ⟨a1, vs, rfl, h2, h3⟩ := lstOf_ok m r1 q
        refine ⟨a1, x :: rs, rfl, by rw [← intsOf_ok h3 e']; exact h2, by simp, fun mm hm hall => ?_⟩
        have : mm = least x rs := Int.le_antisymm (hall _ (least_mem rs x)) (least_le rs x mm hm)
        subst this
        exact p.here m _ rfl
    · exact p.elim
  · exact p.elim
end
end Fn
set_option Elab.async false
set_option linter.all false
set_option maxRecDepth 100000
set_option maxHeartbeats 4000000
namespace Fn
open PySem PySem.Spec PyProof.Rows L2
section
variable {env : Env} {M : Mem}
theorem mFld_eq (c0 : Nat) (f : Str) (fa : FE) : mFld c0 f fa env M = (fa env M).bind fun d m => match insOf c0 m d with | some (_, fs) => (match fs.lookup f with | some v => .ok v m | none => .no) | none => .no := rfl
theorem mFldSet_eq (c0 : Nat) (f : Str) (fa fv : FE) : mFldSet c0 f fa fv env M = (fv env M).bind fun v m => (fa env m).bind fun d m2 => match insOf c0 m2 d with | some (i, fs) => if fs.length < 1000 then .ok (.nx env) (m2.set i (.ins c0 (putD f v fs))) else .no | none => .no := rfl
theorem mMth_eq (c0 : Nat) (x : Str) (n : Nat) (g : FD) (dd : List D) (fo : FE) (ga : FA) : mMth c0 x n g dd fo ga env M = (fo env M).bind fun d m => match insOf c0 m d with | some (_, fs) => (match fs.lookup x with | none => (ga env m).bind fun ds m2 => if (d :: (ds ++ dd)).length = n then g (d :: (ds ++ dd)) m2 else .no | some _ => .no) | none => .no := rfl
theorem mMake_eq (c0 n : Nat) (g : FD) (dd : List D) (ga : FA) : mMake c0 n g dd ga env M = (ga env M).bind fun ds m => if (D.ref m.length :: (ds ++ dd)).length = n then (g (D.ref m.length :: (ds ++ dd)) (m ++ [.ins c0 []])).bind fun r m2 => (match r with | .non => .ok (.ref m.length) m2 | _ => .no) else .no := rfl
theorem insOf_at {c0 i : Nat} {fs : List (Str × D)} (h : M[i]? = some (.ins c0 fs)) : insOf c0 M (.ref i) = some (i, fs) := by
  simp only [insOf, h, if_true]
theorem lstOf_at {i : Nat} {l : List D} (h : M[i]? = some (.lst l)) : lstOf M (.ref i) = some l := by simp only [lstOf, h]
theorem oLen_ref {i : Nat} {l : List D} (h : M[i]? = some (.lst l)) : oLen [.ref i] M = .ok (.int l.length) M := by
  simp only [oLen, seqOf, lstOf, h]
  all_goals rfl
theorem oAppend_at {i : Nat} {l : List D} {d : D} (h : M[i]? = some (.lst l)) (hl : l.length < 16777216) : oAppend (.ref i) [d] M = .ok .non (M.set i (.lst (l ++ [d]))) := by
  simp only [oAppend, h, if_pos hl]
theorem tyOk_at {i : Nat} {l : List D} (h : M[i]? = some (.lst l)) : tyOk "list" M (.ref i) = true := by
  simp only [tyOk, h]
  all_goals rfl
theorem whileM_succ (c : FT) (body : FS) (n : Nat) (env : Env) (M : Mem) : whileM c body (n + 1) env M = (c env M).bind fun b m => if b = true then (body env m).bind fun fl m' => (match fl with
      | .nx env' => whileM c body n env' m'
      | .ct env' => whileM c body n env' m'
      | .bk env' => .ok (.nx env') m'
      | .rt d => .ok (.rt d) m')
    else .ok (.nx env) m := rfl
theorem compL_nilP {P : Mem → Prop} {g : FG} {t : FT} {f : FE} (hP : P M) : compL P g t f env [] M = .ok [] M := by
  unfold compL; rw [if_pos hP]
theorem compL_consP {P : Mem → Prop} {g : FG} {t : FT} {f : FE} {d : D} {r : List D} (hP : P M) : compL P g t f env (d :: r) M = (g d env M).bind fun env1 m1 => (t env1 m1).bind fun b m2 => if b = true then (f env1 m2).bind fun y m3 => (compL P g t f env r m3).bind fun ys m4 => .ok (y :: ys) m4 else compL P g t f env r m2 := by
  conv => lhs; unfold compL
  rw [if_pos hP]
end
def Pl (n : Nat) (d : D) : Prop := ∃ p, pyD d = some p ∧ p.depth ≤ n
def PlL (n : Nat) (l : List D) : Prop := ∀ d ∈ l, Pl n d
theorem PlL.py {n : Nat} : ∀ {l : List D}, PlL n l → ∃ ps, pyL l = some ps ∧ PyData.depthAll ps ≤ n
  | [], _ => ⟨[], rfl, Nat.zero_le _⟩
  | d :: r, h => by
    obtain ⟨p, h1, h2⟩ := h d (List.mem_cons_self ..)
    obtain ⟨ps, h3, h4⟩ := PlL.py (l := r) fun x hx => h x (List.mem_cons_of_mem _ hx)
    refine ⟨p :: ps, by simp only [pyL, h1, h3], ?_⟩
    simp only [PyData.depthAll]
    omega
theorem Pl.str {n : Nat} (x : List Nat) : Pl n (.str x) := ⟨_, rfl, by simp only [PyData.depth]; omega⟩
theorem Pl.int {n : Nat} (x : Int) : Pl n (.int x) := ⟨_, rfl, by simp only [PyData.depth]; omega⟩
theorem Pl.non {n : Nat} : Pl n .non := ⟨_, rfl, by simp only [PyData.depth]; omega⟩
theorem Pl.bl {n : Nat} (x : Bool) : Pl n (.bl x) := ⟨_, rfl, by simp only [PyData.depth]; omega⟩
theorem Pl.tup {n : Nat} {l : List D} (h : PlL n l) : Pl (n + 1) (.tup l) := by
  obtain ⟨ps, h1, h2⟩ := h.py
  exact ⟨.tuple ps, by simp only [pyD, h1, Option.map_some], by simp only [PyData.depth]; omega⟩
theorem Pl.lst {n : Nat} {l : List D} (h : PlL n l) : Pl (n + 1) (.lst l) := by
  obtain ⟨ps, h1, h2⟩ := h.py
  exact ⟨.list ps, by simp only [pyD, h1, Option.map_some], by simp only [PyData.depth]; omega⟩
theorem Pl.mono {n m : Nat} {d : D} (h : Pl n d) (hm : n ≤ m) : Pl m d := by
  obtain ⟨p, h1, h2⟩ := h
  exact ⟨p, h1, by omega⟩
theorem PlL.nil {n : Nat} : PlL n [] := fun d h => by cases h
theorem PlL.cons {n : Nat} {d : D} {l : List D} (h : Pl n d) (t : PlL n l) : PlL n (d :: l) := fun x hx => by
  rcases List.mem_cons.mp hx with rfl | hx
  · exact h
  · exact t x hx
mutual
theorem pyD_bd {n : Nat} : ∀ {d : D} {p : PyData}, pyD d = some p → bdD n d = true
  | .non, _, _ => rfl
  | .bl _, _, _ => rfl
  | .int _, _, _ => rfl
  | .str _, _, _ => rfl
  | .tup l, p, e => by
    simp only [pyD] at e
    cases q : pyL l with
    | none => rw [q] at e; cases e
    | some ps => exact pyL_bd q
  | .ct l, p, e => by
    simp only [pyD] at e
    cases q : pyL l with
    | none => rw [q] at e; cases e
    | some ps => exact pyL_bd q
  | .lst l, p, e => by
    simp only [pyD] at e
    cases q : pyL l with
    | none => rw [q] at e; cases e
    | some ps => exact pyL_bd q
  | .fz l, p, e => by
    simp only [pyD] at e
    cases q : pyL l with
    | none => rw [q] at e; cases e
    | some ps => exact pyL_bd q
  | .ref i, p, e => by cases e
theorem pyL_bd {n : Nat} : ∀ {l : List D} {ps : List PyData}, pyL l = some ps → bdL n l = true
  | [], _, _ => rfl
  | d :: l, ps, e => by
    simp only [pyL] at e
    split at e
    · rename_i a b h1 h2
      simp only [bdL, pyD_bd h1, pyL_bd h2, Bool.and_self]
    · cases e
end
theorem PlL.bd {k n : Nat} {l : List D} (h : PlL k l) : bdL n l = true := by
  obtain ⟨ps, h1, _⟩ := h.py
  exact pyL_bd h1
mutual
theorem frzD_py (m : Mem) (n : Nat) : ∀ (d : D) (p : PyData), pyD d = some p → frzD m n d = d
  | .non, _, _ => rfl
  | .bl _, _, _ => rfl
  | .int _, _, _ => rfl
  | .str _, _, _ => rfl
  | .tup l, p, e => by
    simp only [pyD] at e
    cases q : pyL l with
    | none => rw [q] at e; cases e
    | some ps => simp only [frzD, frzL_py m n l ps q]
  | .ct l, p, e => by
    simp only [pyD] at e
    cases q : pyL l with
    | none => rw [q] at e; cases e
    | some ps => simp only [frzD, frzL_py m n l ps q]
  | .lst l, p, e => by
    simp only [pyD] at e
    cases q : pyL l with
    | none => rw [q] at e; cases e
    | some ps => simp only [frzD, frzL_py m n l ps q]
  | .fz l, p, e => by
    simp only [pyD] at e
    cases q : pyL l with
    | none => rw [q] at e; cases e
    | some ps => simp only [frzD, frzL_py m n l ps q]
  | .ref i, p, e => by cases e
theorem frzL_py (m : Mem) (n : Nat) : ∀ (l : List D) (ps : List PyData), pyL l = some ps → frzL m n l = l
  | [], _, _ => rfl
  | d :: l, ps, e => by
    simp only [pyL] at e
    split at e
    · rename_i a b h1 h2
      simp only [frzL, frzD_py m n d a h1, frzL_py m n l b h2]
    · cases e
end
theorem pyM_lst {M : Mem} {d : D} {l : List D} {ps : List PyData} (h1 : pyL l = some ps) (h : lstOf M d = some l) : pyM M d = some (.list ps) := by
  cases d with
  | lst l' => cases h; simp only [pyM, pyGo, pyGoL_of h1, Option.map_some]
  | fz l' => cases h; simp only [pyM, pyGo, pyGoL_of h1, Option.map_some]
  | ref i =>
    simp only [lstOf] at h
    split at h
    · rename_i l' hc
      cases h
      simp only [pyM, pyGo, kN, hc, pyGoL_of h1, Option.map_some]
    · cases h
  | _ => cases h
theorem pyL_len : ∀ {l : List D} {ps : List PyData}, pyL l = some ps → ps.length = l.length
  | [], ps, e => by cases e; rfl
  | d :: l, ps, e => by
    simp only [pyL] at e
    split at e
    · rename_i a b h1 h2
      cases e
      simp [pyL_len h2]
    · cases e
/-- beside the empty list -/
theorem oEq_nil {n : Nat} {ne : Bool} {a : D} {l : List D} {M : Mem} (hl : PlL n l) (ha : lstOf M a = some l) : oEq ne a (.lst []) M = .ok (.bl (ne != l.isEmpty)) M := by
  obtain ⟨ps, h1, h2⟩ := hl.py
  have k : pyM M a = some (.list ps) := pyM_lst h1 ha
  have k2 : pyM M (.lst []) = some (.list []) := rfl
  have hd : min (PyData.list ps).depth (PyData.list []).depth ≤ 60 := by simp only [PyData.depth, PyData.depthAll]; omega
  simp only [oEq, k, k2, if_pos hd]
  have hlen := pyL_len h1
  cases ps with
  | nil => cases l with
    | nil => cases ne <;> rfl
    | cons d r => cases hlen
  | cons p r => cases l with
    | nil => cases hlen
    | cons d r => cases ne <;> rfl
structure Fd where
  own : Int
  seed : Int
  cnt : Int
def Fd.c (s : Fd) : Cell := .lst [.int s.own, .int s.seed, .int s.cnt]
structure FdAt (M0 : Mem) (i : Nat) (M : Mem) : Prop where
  at_ : ∃ s : Fd, M = M0.set i s.c
  lt : i < M0.length
theorem FdAt.get {M0 M : Mem} {i : Nat} (h : FdAt M0 i M) : ∃ s : Fd, M[i]? = some s.c ∧ ∀ s' : Fd, FdAt M0 i (M.set i s'.c) := by
  obtain ⟨s, h2⟩ := h.at_
  exact ⟨s, by rw [h2]; exact List.getElem?_set_self h.lt, fun s' => ⟨⟨s', by rw [h2, set_twice]⟩, h.lt⟩⟩
theorem FdAt.start {M : Mem} {i : Nat} {s : Fd} (h : M[i]? = some s.c) : FdAt M i M := by
  obtain ⟨h1, h2⟩ := List.getElem?_eq_some_iff.mp h
  exact ⟨⟨s, by rw [← h2, List.set_getElem_self]⟩, h1⟩
theorem FdAt.len {M0 M : Mem} {i : Nat} (h : FdAt M0 i M) : M.length = M0.length := by
  obtain ⟨s, h2⟩ := h.at_
  rw [h2, List.length_set]
theorem FdAt.other {M0 M : Mem} {i j : Nat} (h : FdAt M0 i M) (hj : i ≠ j) : M[j]? = M0[j]? := by
  obtain ⟨s, e⟩ := h.at_
  rw [e, List.getElem?_set_ne hj]
theorem FdAt.trans {M0 M1 M2 : Mem} {i : Nat} (h : FdAt M0 i M1) (h' : FdAt M1 i M2) : FdAt M0 i M2 := by
  obtain ⟨s, e⟩ := h.at_
  obtain ⟨s', e'⟩ := h'.at_
  exact ⟨⟨s', by rw [e', e, set_twice]⟩, h.lt⟩
theorem FdAt.self {M0 M1 : Mem} {i : Nat} (h : FdAt M0 i M1) : FdAt M1 i M1 := by
  obtain ⟨s, h1, _⟩ := h.get
  exact .start h1
theorem j1 : -18446744073709551616 < (7643 : Int) := by omega
theorem j2 : (7643 : Int) < 18446744073709551616 := by omega
theorem j3 : -18446744073709551616 < (69623 : Int) := by omega
theorem j4 : (69623 : Int) < 18446744073709551616 := by omega
def DrawOk (g : FD) : Prop := ∀ (M0 M : Mem) (i : Nat) (many : Int), FdAt M0 i M → 0 < many → many < 1000000000000000000000000 → ∃ (v : Int) (M' : Mem), 0 ≤ v ∧ v < many ∧ FdAt M0 i M' ∧ g [.ref i, .int many] M = .ok (.int v) M'
theorem FdAt.app {A B M : Mem} {i : Nat} (h : FdAt (A ++ B) i M) (hi : i < A.length) : ∃ A', FdAt A i A' ∧ M = A' ++ B := by
  obtain ⟨s, e⟩ := h.at_
  exact ⟨A.set i s.c, ⟨⟨s, rfl⟩, hi⟩, by rw [e, List.set_append_left _ _ hi]⟩
theorem FdAt.mkApp {M0 A B : Mem} {i : Nat} (h : FdAt M0 i A) : FdAt (A ++ B) i (A ++ B) := by
  obtain ⟨s, h1, _⟩ := h.get
  exact .start (s := s) (by rw [List.getElem?_append_left (List.getElem?_eq_some_iff.mp h1).1]; exact h1)
/-- draws with other cells behind -/
theorem DrawOk.app {g : FD} (hg : DrawOk g) {M0 A B : Mem} {i : Nat} (h : FdAt M0 i A) {many : Int} (h0 : 0 < many) (h1 : many < 1000000000000000000000000) : ∃ (v : Int) (A' : Mem), 0 ≤ v ∧ v < many ∧ FdAt M0 i A' ∧ g [.ref i, .int many] (A ++ B) = .ok (.int v) (A' ++ B) := by
  obtain ⟨v, M', k0, k1, k2, k3⟩ := hg _ _ i many (h.mkApp (B := B)) h0 h1
  obtain ⟨A', h2, rfl⟩ := k2.app (by rw [h.len]; exact h.lt)
  exact ⟨v, A', k0, k1, h.trans h2, k3⟩
theorem app_get0 {A B : Mem} {c : Cell} {N : Nat} (h : A.length = N) : (A ++ c :: B)[N]? = some c := by
  rw [List.getElem?_append_right (by omega), h, Nat.sub_self]; rfl
theorem app_get1 {A B : Mem} {c c' : Cell} {N : Nat} (h : A.length = N) : (A ++ c :: c' :: B)[N + 1]? = some c' := by
  rw [List.getElem?_append_right (by omega), h, Nat.add_sub_cancel_left]; rfl
theorem app_set0 {A B : Mem} {c d : Cell} {N : Nat} (h : A.length = N) : (A ++ c :: B).set N d = A ++ d :: B := by
  rw [List.set_append_right _ _ (by omega), h, Nat.sub_self]; rfl
theorem app_set1 {A B : Mem} {c c' d : Cell} {N : Nat} (h : A.length = N) : (A ++ c :: c' :: B).set (N + 1) d = A ++ c :: d :: B := by
  rw [List.set_append_right _ _ (by omega), h, Nat.add_sub_cancel_left]; rfl
theorem ixN_nat {n k : Nat} (h : k < n) : ixN n (k : Int) = some k := by
  unfold ixN; simp; omega
theorem erase_perm : ∀ {l : List D} {k : Nat} {d : D}, l[k]? = some d → (d :: l.eraseIdx k).Perm l
  | [], k, d, h => by simp at h
  | x :: r, 0, d, h => by simp at h; subst h; exact List.Perm.refl _
  | x :: r, k + 1, d, h => by
    have ih := erase_perm (l := r) (k := k) (d := d) (by simpa using h)
    exact (List.Perm.swap x d _).trans (List.Perm.cons x ih)
end Fn
set_option Elab.async false
set_option linter.all false
set_option maxRecDepth 100000
set_option maxHeartbeats 1000000
namespace Fn
open PySem PySem.Spec PyProof.Rows L2
section
variable {prog : Program} {w : World} {A : Around} {E : Value → Shared → Prop} {s : Shared}
/-- a tuple's values, those amid in a new list -/
theorem star_of {l : Addr} {vs : Array Value} {n i : Nat} {Q : List Value → Shared → Prop} (pl : IsTup s.heap l vs) (nh : A.handled = none) (lt : i < n) (le : n ≤ vs.size + 1) (sz : vs.size ≤ 16384)
    (q : ∀ (h' : Heap) (tk : Nat), (∀ b o, s.heap.get? b = some o → h'.get? b = some o) →
      Q (vs.toList.take i ++ [.ref h'.objs.size] ++ (vs.toList.drop i).drop (vs.size + 1 - n)) { s with heap := h'.push { cls := .type "list", data := .seq ((vs.toList.drop i).take (vs.size + 1 - n)).toArray }, toks := tk }) :
    wpAny (model prog w) A (unpackItems (.ref l) n (some i)) Q E s := by
  have here : l < s.heap.objs.size := let ⟨_, e, _⟩ := pl; Heap.lt_size e
  have apart : l ≠ s.heap.objs.size := Nat.ne_of_lt here
  unfold unpackItems notIterableAtAll
  refine wpAny_bind (wpAny_bind (wpAny_specialOf pl.typeIs slot_tuple_iter.lookup (wpAny_pure ?_)))
  simp only [Bool.false_eq_true, if_false]
  refine wpAny_bind (wpAny_holding (iter_tuple pl (wpAny_bind (wpAny_holding (draw_tuple apart i 0 _ _ ⟨_, Heap.get?_push_size _ rfl, rfl, rfl⟩ (pl.push _) (by omega) fun g it same => ?_)))))
  have pl1 : IsTup g l vs := (pl.push _).extBut same.extBut apart
  have old1 : ∀ b o, s.heap.get? b = some o → g.get? b = some o := fun b o e => same.extBut b o (Nat.ne_of_lt (Heap.lt_size e)) (Heap.get?_push_of_some _ e)
  rw [Nat.zero_add] at it
  have itl : s.heap.objs.size < g.objs.size := let ⟨_, e, _⟩ := it; Heap.lt_size e
  have lg : l < g.objs.size := let ⟨_, e, _⟩ := pl1; Heap.lt_size e
  have fl : (vs.toList.take i).length = i := by simp; omega
  have dl : (vs.toList.drop i).length = vs.size - i := by simp
  simp only [List.drop_zero, fl, Nat.lt_irrefl, if_false]
  refine wpAny_bind (wpAny_holding (PySem.W.kun_collect (s := { s with heap := g }) (T := "tuple_iterator") (.inr (.inr (.inr rfl))) (Walks.tuple (A := A.in1) nh s.heap.objs.size l apart vs) (fun _ _ st => st.1.typeIs) (k := i) (by omega) ⟨it, pl1⟩ itl lg (fun g2 tk kp => ?_) (by rw [sizeLine_eq]; omega)))
  have cnt : vs.size - i - (n - 1 - i) = vs.size + 1 - n := by omega
  simp only [dl, show ¬ (vs.size - i < n - 1 - i) by omega, if_false, cnt]
  refine wpAny_bind (wpAny_newList (wpAny_pure (q g2 tk (fun b o e => kp b o (Nat.ne_of_lt (Heap.lt_size e)) (old1 b o e)))) (by rw [List.length_take, dl, sizeLine_eq]; omega))
end
section
variable {X : Cx} {G : Gx} {cl : Nat → Addr} {E : XK} {W : Wd} {H : Hp} {M : Mem} {pos : Pos}
/-- a, *b, c = a tuple -/
def gStar (K : PySem.W.Frag) (n i : Nat) (t : TGs) : TG := fun v σ H Q => ∃ a xs, v = .ref a ∧ SqT K H a xs ∧ n ≤ xs.length + 1 ∧ xs.length ≤ 16384 ∧ ∀ p, H p = none → t (xs.take i ++ [.ref p] ++ (xs.drop i).drop (xs.length + 1 - n)) σ (upd H p (.lst ((xs.drop i).take (xs.length + 1 - n)))) Q
theorem pg_star {es : List Expr} {k : Nat} {t : TGs} {n i : Nat} (hc : X.calm = true) (h : PGs X es t) (lt : i < n)
    (hn : (assignEach es X.env).length = n := by rfl) (hst : (assignEach es X.env).findIdx? (·.1) = some i := by rfl) : PG X (.Tuple es k pos) (gStar X.K n i t) := by
  refine ⟨fun pins s σ H v u Q I r hw => ?_⟩
  obtain ⟨a, xs, rfl, hq, le, sz, hw⟩ := hw
  cases r
  obtain ⟨its, rv, ht, hz⟩ := I.tuple hq
  have el : its.length = xs.length := rv.length.symm
  have ez : its.toArray.size = xs.length := by rw [List.size_toArray, el]
  rw [PyProof.Rows.assign_Tuple]
  refine wpAny_bind (wpAny_standAt ?_)
  unfold unpack
  rw [hn, hst]
  refine wpAny_bind (wpAny_holding (star_of ht (I.ok.hd hc) lt (by omega) (by omega) fun g tk kp => ?_))
  have I1 : Inv X pins σ H { s with heap := g, toks := tk } := I.kept kp
  have fr : H g.objs.size = none := I1.hok.fresh (Nat.le_refl _)
  have rm : Vals ((xs.drop i).take (xs.length + 1 - n)) ((its.drop i).take (xs.length + 1 - n)) := (rv.drop i).take _
  have I2 : Inv X pins σ (upd H g.objs.size (.lst ((xs.drop i).take (xs.length + 1 - n)))) { s with heap := g.push { cls := .type "list", data := .seq ((its.drop i).take (xs.length + 1 - n)).toArray }, toks := tk } :=
    I1.laid (t' := tk) (fun b o e => Heap.get?_push_of_some _ e) (Nat.le_refl _) ⟨by rw [List.length_take, List.length_drop, sizeLine_eq]; omega, _, 0, rm, Heap.get?_push_size _ rfl⟩
  rw [ez]
  exact h.run pins _ σ _ _ _ Q I2 (((rv.take i).append (.cons (show RelV (.ref g.objs.size) (.ref g.objs.size) from rfl) .nil)).append ((rv.drop i).drop _)) (hw _ fr)
def gS (n i : Nat) (g : FGs) : FG := fun d env M => match d with
  | .tup l => if n ≤ l.length + 1 ∧ l.length ≤ 16384 then g (l.take i ++ [.lst ((l.drop i).take (l.length + 1 - n))] ++ (l.drop i).drop (l.length + 1 - n)) env M else .no
  | .ct l => if n ≤ l.length + 1 ∧ l.length ≤ 16384 then g (l.take i ++ [.lst ((l.drop i).take (l.length + 1 - n))] ++ (l.drop i).drop (l.length + 1 - n)) env M else .no
  | _ => .no
theorem pgs_star {e : Expr} {p : Pos} {es : List Expr} {t : TG} {u : TGs} (h1 : PG X e t) (h2 : PGs X es u)
    (hs : (assignEach (.Starred e p :: es) X.env).map (·.2) = assign e X.env :: (assignEach es X.env).map (·.2) := by rfl) : PGs X (.Starred e p :: es) (gCons t u) := by
  refine ⟨fun pins s σ H xs us Q I rx k => ?_⟩
  obtain ⟨x, xr, rfl, k⟩ := k
  rw [hs]
  cases rx with
  | cons ra rb => exact assignInOrder_cons (thn (h1.run pins s σ H _ _ _ I ra k) fun _ s2 ⟨σ2, H2, I2, k2⟩ => h2.run pins s2 σ2 H2 _ _ Q I2 rb k2)
theorem sgs_star {e : Expr} {p : Pos} {es : List Expr} {f : FG} {g : FGs} {sl : List Nat} (h1 : PG X e (tGt G E sl f)) (h2 : PGs X es (tGts G E sl g))
    (hs : (assignEach (.Starred e p :: es) X.env).map (·.2) = assign e X.env :: (assignEach es X.env).map (·.2) := by rfl) : PGs X (.Starred e p :: es) (tGts G E sl (gsCons f g)) := pgs_imp (pgs_star h1 h2 hs) fun v σ H Q ⟨W, env, M, ds, s, r, p⟩ => by
  cases ds with
  | nil => exact p.elim
  | cons d r' =>
    obtain ⟨u, us, e1, r1, r2⟩ := r
    exact ⟨u, us, e1, W, env, M, d, s, r1, PR.bind p fun env1 m W1 H1 f1 k1 p1 => fun σ1 en ew => ⟨W1, env1, m, r', ⟨k1, en⟩, s.mem.rpL f1 r2, PR.mono p1 fun env2 m2 W2 H2 f2 k2 q σ2 en2 ew2 => q σ2 en2 (ew2.trans ew)⟩⟩
theorem sg_star {es : List Expr} {k : Nat} {g : FGs} {n i : Nat} {sl : List Nat} (hc : X.calm = true) (h : PGs X es (tGts ⟨X.K, cl, X.w⟩ E sl g)) (lt : i < n)
    (hn : (assignEach es X.env).length = n := by rfl) (hst : (assignEach es X.env).findIdx? (·.1) = some i := by rfl) : PG X (.Tuple es k pos) (tGt ⟨X.K, cl, X.w⟩ E sl (gS n i g)) := pg_imp (pg_star hc h lt hn hst) fun v σ H Q ⟨W, env, M, d, s, r, p⟩ => by
  unfold gS at p
  split at p
  · rename_i l
    obtain ⟨a1, us, e1, s1, r1⟩ := r
    split at p
    · rename_i hl
      refine ⟨a1, us, e1, s1.sq, by rw [r1.len]; exact hl.1, by rw [r1.len]; exact hl.2, fun q hq => ?_⟩
      have f : Fut W H W (upd H q (.lst ((us.drop i).take (us.length + 1 - n)))) := Fut.laid hq
      have m1 := s.mem.laid (o := .lst ((us.drop i).take (us.length + 1 - n))) hq
      have nw : q ∉ W.as ∧ q ∉ W.hd := s.mem.fresh hq
      rw [← r1.len] at p
      have rr := s.mem.rpL f r1
      have rl : Rp ⟨X.K, cl, X.w⟩ W (upd H q (.lst ((us.drop i).take (us.length + 1 - n)))) (.lst ((l.drop i).take (us.length + 1 - n))) (.ref q) := ⟨q, _, rfl, ⟨upd_same, nw.1, nw.2⟩, RpL.take _ (RpL.drop i rr)⟩
      exact ⟨W, env, M, _, ⟨m1, s.env.fut s.mem f⟩, ((RpL.take i rr).append (show RpL ⟨X.K, cl, X.w⟩ W (upd H q (.lst ((us.drop i).take (us.length + 1 - n)))) [.lst ((l.drop i).take (us.length + 1 - n))] [.ref q] from ⟨_, _, rfl, rl, rfl⟩)).append (RpL.drop _ (RpL.drop i rr)), PR.fut f p⟩
    · exact p.elim
  · rename_i l
    obtain ⟨a1, us, e1, s1, r1⟩ := r
    split at p
    · rename_i hl
      refine ⟨a1, us, e1, s1.sq, by rw [r1.len]; exact hl.1, by rw [r1.len]; exact hl.2, fun q hq => ?_⟩
      have f : Fut W H W (upd H q (.lst ((us.drop i).take (us.length + 1 - n)))) := Fut.laid hq
      have m1 := s.mem.laid (o := .lst ((us.drop i).take (us.length + 1 - n))) hq
      have nw : q ∉ W.as ∧ q ∉ W.hd := s.mem.fresh hq
      rw [← r1.len] at p
      have rr := s.mem.rpL f r1
      have rl : Rp ⟨X.K, cl, X.w⟩ W (upd H q (.lst ((us.drop i).take (us.length + 1 - n)))) (.lst ((l.drop i).take (us.length + 1 - n))) (.ref q) := ⟨q, _, rfl, ⟨upd_same, nw.1, nw.2⟩, RpL.take _ (RpL.drop i rr)⟩
      exact ⟨W, env, M, _, ⟨m1, s.env.fut s.mem f⟩, ((RpL.take i rr).append (show RpL ⟨X.K, cl, X.w⟩ W (upd H q (.lst ((us.drop i).take (us.length + 1 - n)))) [.lst ((l.drop i).take (us.length + 1 - n))] [.ref q] from ⟨_, _, rfl, rl, rfl⟩)).append (RpL.drop _ (RpL.drop i rr)), PR.fut f p⟩
    · exact p.elim
  · exact p.elim
theorem gS_eq (n i : Nat) (g : FGs) (l : List D) {env : Fn.Env} : gS n i g (.tup l) env M = if n ≤ l.length + 1 ∧ l.length ≤ 16384 then g (l.take i ++ [.lst ((l.drop i).take (l.length + 1 - n))] ++ (l.drop i).drop (l.length + 1 - n)) env M else .no := rfl
end
end Fn
set_option Elab.async false
set_option linter.all false
set_option maxRecDepth 100000
set_option maxHeartbeats 4000000
namespace Fn
open PySem PySem.Spec PyProof.Rows L2
section
variable {M : Mem}
theorem oLen_refM (i : Nat) : oLen [.ref i] M = match M[i]? with | some (.lst l) => .ok (.int l.length) M | _ => .no := by
  simp only [oLen, seqOf, lstOf]
  cases M[i]? with
  | none => rfl
  | some c => cases c <;> rfl
theorem oIx_refM (i : Nat) (k : Int) : oIx (.ref i) (.int k) M = match M[i]? with | some (.lst l) => (match atI l k with | some d => .ok d M | none => .no) | _ => .no := by
  simp only [oIx, seqOf, lstOf]
  cases M[i]? with
  | none => rfl
  | some c => cases c <;> rfl
theorem oAppM (i : Nat) (d : D) : oAppend (.ref i) [d] M = match M[i]? with | some (.lst l) => (if l.length < 16777216 then .ok .non (M.set i (.lst (l ++ [d]))) else .no) | _ => .no := by
  simp only [oAppend]
  all_goals rfl
theorem oExtM (i : Nat) (d : D) : oExtend (.ref i) [d] M = match M[i]?, ownOf M d with | some (.lst l), some l' => (if l.length + l'.length ≤ 16777216 then .ok .non (M.set i (.lst (l ++ l'))) else .no) | _, _ => .no := by
  simp only [oExtend]
  all_goals rfl
theorem oTuple_ref (i : Nat) : oTuple [.ref i] M = match M[i]? with | some (.lst l) => .ok (.tup l) M | _ => .no := by
  simp only [oTuple, lstOf]
  cases M[i]? with
  | none => rfl
  | some c => cases c <;> rfl
theorem oList_ref {c : Bool} (i : Nat) : oList c [.ref i] M = match M[i]? with | some (.lst l) => mkL c l M | _ => .no := by
  simp only [oList, seqOf, lstOf]
  cases M[i]? with
  | none => rfl
  | some c => cases c <;> rfl
theorem srcOf_refM (i : Nat) : srcOf M (.ref i) = match M[i]? with | some (.lst l) => some ⟨l, fun M' => M'[i]? = some (.lst l)⟩ | _ => none := by
  simp only [srcOf]
  all_goals rfl
end
theorem ifLt24 {α : Sort _} {n : Nat} {a b : α} (h : n < 16777216) : (if n < 16777216 then a else b) = a := if_pos h
theorem ifLe24 {α : Sort _} {n : Nat} {a b : α} (h : n ≤ 16777216) : (if n ≤ 16777216 then a else b) = a := if_pos h
theorem forL_consP {P : Mem → Prop} {g : FG} {body : FS} {d : D} {r : List D} {env : Fn.Env} {M : Mem} (hP : P M) : forL P g body (d :: r) env M = (g d env M).bind fun env1 m1 => (body env1 m1).bind fun fl m => match fl with
      | .nx env' => forL P g body r env' m
      | .ct env' => forL P g body r env' m
      | .bk env' => .ok (.nx env') m
      | .rt d => .ok (.rt d) m := by
  conv => lhs; unfold forL
  rw [if_pos hP]
  all_goals rfl
theorem compL_fm {P : Mem → Prop} {M : Mem} (hP : P M) {g : FG} {t : FT} {f : FE} {env : Fn.Env} {α : Type} (mk : α → D) (T : α → Bool) (F : α → D) : ∀ (xs : List α), (∀ x ∈ xs, ∃ env1, g (mk x) env M = .ok env1 M ∧ t env1 M = .ok (T x) M ∧ (T x = true → f env1 M = .ok (F x) M)) →
    compL P g t f env (xs.map mk) M = .ok ((xs.filter T).map F) M
  | [], _ => compL_nilP hP
  | d :: r, h => by
    obtain ⟨env1, h1, h2, h3⟩ := h d (List.mem_cons_self ..)
    have ih := compL_fm hP mk T F r fun d' hd => h d' (List.mem_cons_of_mem _ hd)
    rw [List.map_cons, compL_consP hP, h1, R.bind_ok, h2, R.bind_ok]
    cases ht : T d with
    | true => rw [if_pos rfl, h3 ht, R.bind_ok, ih, R.bind_ok, List.filter_cons_of_pos ht, List.map_cons]
    | false => rw [if_neg Bool.false_ne_true, ih, List.filter_cons_of_neg (by simp [ht])]
theorem compL_m {P : Mem → Prop} {M : Mem} (hP : P M) {g : FG} {f : FE} {env : Fn.Env} {α : Type} (mk : α → D) (F : α → D) (xs : List α) (h : ∀ x ∈ xs, ∃ env1, g (mk x) env M = .ok env1 M ∧ f env1 M = .ok (F x) M) :
    compL P g tsYes f env (xs.map mk) M = .ok (xs.map F) M := by
  have := compL_fm hP (t := tsYes) mk (fun _ => true) F xs fun x hx => by
    obtain ⟨env1, h1, h2⟩ := h x hx
    exact ⟨env1, h1, rfl, fun _ => h2⟩
  rw [this, List.filter_eq_self.mpr (fun _ _ => rfl)]
theorem allY {items ys : List D} {Y : D → Prop} (hl : ys.length = items.length) (h : ∀ (k : Nat) (d y : D), items[k]? = some d → ys[k]? = some y → Y y) {y : D} (hy : y ∈ ys) : Y y := by
  obtain ⟨k, hk⟩ := List.getElem?_of_mem hy
  have hk' : k < items.length := by rw [← hl]; exact (List.getElem?_eq_some_iff.mp hk).1
  exact h k _ y (List.getElem?_eq_getElem hk') hk
theorem snoc_of {α : Type} : ∀ {l : List α}, l ≠ [] → ∃ l0 z, l = l0 ++ [z]
  | [], h => absurd rfl h
  | [x], _ => ⟨[], x, rfl⟩
  | x :: y :: r, _ => by
    obtain ⟨l0, z, e⟩ := snoc_of (l := y :: r) (by intro h; cases h)
    exact ⟨x :: l0, z, by rw [e]; rfl⟩
theorem atLast {α : Type} (l : List α) (d : α) : L2.atI (l ++ [d]) (-1) = some d := by
  have e : L2.ixN (l ++ [d]).length (-1) = some l.length := by
    unfold L2.ixN
    rw [if_neg (by omega)]
    simp
    try omega
  unfold L2.atI
  rw [e]
  simp
theorem strsOf_of : ∀ {l : List D}, (∀ d ∈ l, ∃ c : Nat, d = .str [c]) → ∃ w : List Nat, strsOf l = some (w.map fun c => [c]) ∧ w.length = l.length ∧ l = w.map fun c => .str [c]
  | [], _ => ⟨[], rfl, rfl, rfl⟩
  | d :: r, h => by
    obtain ⟨c, rfl⟩ := h d (List.mem_cons_self ..)
    obtain ⟨w, h1, h2, h3⟩ := strsOf_of (l := r) fun d hd => h d (List.mem_cons_of_mem _ hd)
    exact ⟨c :: w, by simp [strsOf, h1], by simp [h2], by rw [h3]; rfl⟩
theorem join_signs : ∀ w : List Nat, joinL [] (w.map fun c => [c]) = w
  | [] => rfl
  | [c] => rfl
  | c :: d :: r => by
    show [c] ++ [] ++ joinL [] ((d :: r).map fun c => [c]) = _
    rw [join_signs (d :: r)]
    rfl
theorem sum_ones : ∀ w : List Nat, ((w.map fun c => [c]).map (·.length)).sum = w.length
  | [] => rfl
  | c :: r => by
    simp only [List.map_cons, List.sum_cons, sum_ones r, List.length_cons, List.length_nil]
    omega
theorem sortD_str (ws : List (List Nat)) : sortD (ws.map .str) = (ws.mergeSort fun a b => decide (a ≤ b)).map .str := by
  unfold sortD
  symm
  apply List.map_mergeSort
  intro a _ b _
  have h := PySem.W.dataLe_str (β := List Nat) l2s
  show decide (a ≤ b) = PySem.W.dataLe false encD (.str a) (.str b)
  have h2 : PySem.W.dataLe false (fun b : List Nat => PyData.str (l2s b)) a b = decide (a ≤ b) := by
    rw [h]
    simp [l2s]
    all_goals rfl
  rw [← h2]
  rfl
theorem sortOk_strs (ws : List (List Nat)) : sortOk (ws.map .str) := by
  refine ⟨fun d hd => ?_, fun d hd d' hd' => ?_, .inr fun d hd => ?_⟩
  · obtain ⟨w, _, rfl⟩ := List.mem_map.mp hd; exact ⟨rfl, by show PyData.depth (.str _) ≤ 60; simp [PyData.depth]⟩
  · obtain ⟨w, _, rfl⟩ := List.mem_map.mp hd
    obtain ⟨w', _, rfl⟩ := List.mem_map.mp hd'
    rfl
  · obtain ⟨w, _, rfl⟩ := List.mem_map.mp hd; rfl
theorem oSorted_strs {c : Bool} {d : D} {ws : List (List Nat)} {M : Mem} (h : lstOf M d = some (ws.map .str)) : oSorted c [d] M = mkL c ((ws.mergeSort fun a b => decide (a ≤ b)).map .str) M := by
  simp only [oSorted, h, if_pos (sortOk_strs ws), sortD_str]
theorem mPar3_eq (i j l : Nat) (g : FA) {env : Fn.Env} {M : Mem} : mPar3 i j l g env M = (g env M).bind fun ds m => match ds with
  | [d, d', d''] => .ok (.nx (((env.set i (some d)).set j (some d')).set l (some d''))) m
  | _ => .no := rfl
theorem gc_ref {B : FS} {N : Nat} {ds : List D} {M junk : Mem} {i : Nat} {c : Cell} {l : List D} {ps : List PyData} (hB : runB B N ds M = .ok (.ref M.length) (M.set i c ++ .lst l :: junk)) (hc : bdC M.length c = true) (hl : pyL l = some ps) : gcB B N ds M = .ok (.lst l) (M.set i c) := by
  have hf : frzD (M.set i c ++ .lst l :: junk) M.length (.ref M.length) = .lst l := by
    simp only [frzD, Nat.lt_irrefl, if_false, app_get0 (show (M.set i c).length = M.length from List.length_set ..)]
  unfold gcB gcR
  simp only [hB]
  rw [if_pos (by rw [hf]; exact cut_set (d := .lst l) (by simp only [bdD]; exact pyL_bd hl) hc), hf, List.take_append_of_le_length (by simp), List.take_of_length_le (by simp)]
theorem gc_val {B : FS} {N : Nat} {ds : List D} {M junk : Mem} {i : Nat} {c : Cell} {d : D} {p : PyData} (hB : runB B N ds M = .ok d (M.set i c ++ junk)) (hc : bdC M.length c = true) (hl : pyD d = some p) : gcB B N ds M = .ok d (M.set i c) := by
  have hf : frzD (M.set i c ++ junk) M.length d = d := frzD_py _ _ _ _ hl
  unfold gcB gcR
  simp only [hB]
  rw [if_pos (by rw [hf]; exact cut_set (d := d) (pyD_bd hl) hc), hf, List.take_append_of_le_length (by simp), List.take_of_length_le (by simp)]
theorem gc_flow {B : FS} {N : Nat} {ds : List D} {M A junk : Mem} {i : Nat} {l : List D} {n : Nat} (hA : FlAt M i A) (hB : runB B N ds M = .ok (.ref M.length) (A ++ .lst l :: junk)) (hl : PlL n l) : gcB B N ds M = .ok (.lst l) A := by
  obtain ⟨s, _, rfl⟩ := hA.at_
  obtain ⟨ps, hps, _⟩ := hl.py
  exact gc_ref hB rfl hps
theorem gc_flowV {B : FS} {N : Nat} {ds : List D} {M A junk : Mem} {i : Nat} {d : D} {n : Nat} (hA : FlAt M i A) (hB : runB B N ds M = .ok d (A ++ junk)) (hl : Pl n d) : gcB B N ds M = .ok d A := by
  obtain ⟨s, _, rfl⟩ := hA.at_
  obtain ⟨p, hp, _⟩ := hl
  exact gc_val hB rfl hp
theorem FlAt.trans {M0 M1 M2 : Mem} {i : Nat} (h : FlAt M0 i M1) (h' : FlAt M1 i M2) : FlAt M0 i M2 := by
  obtain ⟨s, _, e⟩ := h.at_
  obtain ⟨s', k, e'⟩ := h'.at_
  exact ⟨⟨s', k, by rw [e', e, set_twice]⟩, h.lt⟩
theorem FlAt.self {M0 M1 : Mem} {i : Nat} (h : FlAt M0 i M1) : FlAt M1 i M1 := by
  obtain ⟨s, k, h1, _⟩ := h.get
  exact .start k h1
theorem plL_str {n : Nat} (F : List (List Nat)) : PlL n (F.map .str) := fun d hd => by obtain ⟨w, _, rfl⟩ := List.mem_map.mp hd; exact Pl.str _
end Fn
set_option Elab.async false
set_option linter.all false
set_option maxRecDepth 100000
namespace Fn
open PySem PySem.Spec PyProof.Rows L2
end Fn
set_option Elab.async false
set_option linter.all false
set_option maxRecDepth 100000
set_option maxHeartbeats 1000000
namespace Fn
open PySem PySem.Spec PyProof.Rows L2
end Fn
set_option Elab.async false
set_option linter.all false
set_option maxRecDepth 100000
set_option maxHeartbeats 1000000
namespace Fn
open PySem PySem.Spec PyProof.Rows L2
mutual
def exD : D → Bool
  | .non | .int _ | .str _ => true
  | .tup l => exL l
  | .ct _ => false
  | .lst l => exL l
  | _ => false
def exL : List D → Bool
  | [] => true
  | d :: r => exD d && exL r
end
theorem exL_iff : ∀ {l : List D}, exL l = true ↔ ∀ d ∈ l, exD d = true
  | [] => by simp [exL]
  | d :: r => by simp only [exL, Bool.and_eq_true, exL_iff, List.mem_cons, forall_eq_or_imp]
mutual
theorem eqv_ex : ∀ (a b : D) (p q : PyData), exD a = true → exD b = true → pyD a = some p → pyD b = some q → (PyData.eqv p q = true ↔ a = b)
  | .non, b, p, q, h1, h2, e1, e2 => by
    cases e1
    cases b <;> simp only [exD, Bool.false_eq_true] at h2 <;> simp only [pyD, Option.some.injEq, Option.map_eq_some_iff] at e2
    case non => subst e2; simp [PyData.eqv]
    case int => subst e2; simp [PyData.eqv]
    case str => subst e2; simp [PyData.eqv]
    case tup => obtain ⟨x, _, rfl⟩ := e2; simp [PyData.eqv]
    case lst => obtain ⟨x, _, rfl⟩ := e2; simp [PyData.eqv]
  | .int i, b, p, q, h1, h2, e1, e2 => by
    cases e1
    cases b <;> simp only [exD, Bool.false_eq_true] at h2 <;> simp only [pyD, Option.some.injEq, Option.map_eq_some_iff] at e2
    case non => subst e2; simp [PyData.eqv]
    case int => subst e2; simp [PyData.eqv]
    case str => subst e2; simp [PyData.eqv]
    case tup => obtain ⟨x, _, rfl⟩ := e2; simp [PyData.eqv]
    case lst => obtain ⟨x, _, rfl⟩ := e2; simp [PyData.eqv]
  | .str s, b, p, q, h1, h2, e1, e2 => by
    cases e1
    cases b <;> simp only [exD, Bool.false_eq_true] at h2 <;> simp only [pyD, Option.some.injEq, Option.map_eq_some_iff] at e2
    case non => subst e2; simp [PyData.eqv]
    case int => subst e2; simp [PyData.eqv]
    case str y =>
      subst e2
      simp only [PyData.eqv, beq_iff_eq, D.str.injEq]
      exact ⟨fun h => l2s_inj h, fun h => by rw [h]⟩
    case tup => obtain ⟨x, _, rfl⟩ := e2; simp [PyData.eqv]
    case lst => obtain ⟨x, _, rfl⟩ := e2; simp [PyData.eqv]
  | .tup l, b, p, q, h1, h2, e1, e2 => by
    simp only [pyD, Option.map_eq_some_iff] at e1
    obtain ⟨ps, k1, rfl⟩ := e1
    cases b <;> simp only [exD, Bool.false_eq_true] at h2 <;> simp only [pyD, Option.some.injEq, Option.map_eq_some_iff] at e2
    case non => subst e2; simp [PyData.eqv]
    case int => subst e2; simp [PyData.eqv]
    case str => subst e2; simp [PyData.eqv]
    case tup m =>
      obtain ⟨qs, k2, rfl⟩ := e2
      simp only [PyData.eqv, D.tup.injEq]
      exact eqv_exL l m ps qs (by simpa only [exD] using h1) h2 k1 k2
    case lst => obtain ⟨x, _, rfl⟩ := e2; simp [PyData.eqv]
  | .ct _, b, p, q, h1, h2, e1, e2 => by simp only [exD, Bool.false_eq_true] at h1
  | .lst l, b, p, q, h1, h2, e1, e2 => by
    simp only [pyD, Option.map_eq_some_iff] at e1
    obtain ⟨ps, k1, rfl⟩ := e1
    cases b <;> simp only [exD, Bool.false_eq_true] at h2 <;> simp only [pyD, Option.some.injEq, Option.map_eq_some_iff] at e2
    case non => subst e2; simp [PyData.eqv]
    case int => subst e2; simp [PyData.eqv]
    case str => subst e2; simp [PyData.eqv]
    case tup => obtain ⟨x, _, rfl⟩ := e2; simp [PyData.eqv]
    case lst m =>
      obtain ⟨qs, k2, rfl⟩ := e2
      simp only [PyData.eqv, D.lst.injEq]
      exact eqv_exL l m ps qs (by simpa only [exD] using h1) h2 k1 k2
  | .bl _, b, p, q, h1, h2, e1, e2 => by simp only [exD, Bool.false_eq_true] at h1
  | .fz _, b, p, q, h1, h2, e1, e2 => by simp only [exD, Bool.false_eq_true] at h1
  | .ref _, b, p, q, h1, h2, e1, e2 => by simp only [exD, Bool.false_eq_true] at h1
theorem eqv_exL : ∀ (l m : List D) (ps qs : List PyData), exL l = true → exL m = true → pyL l = some ps → pyL m = some qs → (PyData.eqvAll ps qs = true ↔ l = m)
  | [], m, ps, qs, h1, h2, e1, e2 => by
    cases e1
    cases m with
    | nil => cases e2; simp [PyData.eqvAll]
    | cons b m =>
      simp only [pyL] at e2
      split at e2
      · cases e2; simp [PyData.eqvAll]
      · cases e2
  | a :: l, m, ps, qs, h1, h2, e1, e2 => by
    simp only [pyL] at e1
    split at e1
    · rename_i p ps' k1 k2
      cases e1
      cases m with
      | nil => cases e2; simp [PyData.eqvAll]
      | cons b m =>
        simp only [pyL] at e2
        split at e2
        · rename_i q qs' k3 k4
          cases e2
          simp only [exL, Bool.and_eq_true] at h1 h2
          simp only [PyData.eqvAll, Bool.and_eq_true, eqv_ex a b p q h1.1 h2.1 k1 k3, eqv_exL l m ps' qs' h1.2 h2.2 k2 k4, List.cons.injEq]
        · cases e2
    · cases e1
end
mutual
def dpD : D → Nat
  | .tup l => dpL l + 1
  | .ct l => dpL l + 1
  | .lst l => dpL l + 1
  | _ => 0
def dpL : List D → Nat
  | [] => 0
  | d :: r => max (dpD d) (dpL r)
end
mutual
theorem ex_py : ∀ (a : D), exD a = true → ∃ p, pyD a = some p ∧ p.depth ≤ dpD a
  | .non, _ => ⟨_, rfl, by simp [PyData.depth]⟩
  | .int _, _ => ⟨_, rfl, by simp [PyData.depth]⟩
  | .str _, _ => ⟨_, rfl, by simp [PyData.depth]⟩
  | .tup l, h => by
    obtain ⟨ps, h1, h2⟩ := ex_pyL l (by simpa only [exD] using h)
    exact ⟨.tuple ps, by simp only [pyD, h1, Option.map_some], by simp only [PyData.depth, dpD]; omega⟩
  | .ct _, h => by simp only [exD, Bool.false_eq_true] at h
  | .lst l, h => by
    obtain ⟨ps, h1, h2⟩ := ex_pyL l (by simpa only [exD] using h)
    exact ⟨.list ps, by simp only [pyD, h1, Option.map_some], by simp only [PyData.depth, dpD]; omega⟩
  | .bl _, h => by simp only [exD, Bool.false_eq_true] at h
  | .fz _, h => by simp only [exD, Bool.false_eq_true] at h
  | .ref _, h => by simp only [exD, Bool.false_eq_true] at h
theorem ex_pyL : ∀ (l : List D), exL l = true → ∃ ps, pyL l = some ps ∧ PyData.depthAll ps ≤ dpL l
  | [], _ => ⟨[], rfl, by simp [PyData.depthAll]⟩
  | d :: r, h => by
    simp only [exL, Bool.and_eq_true] at h
    obtain ⟨p, h1, h2⟩ := ex_py d h.1
    obtain ⟨ps, h3, h4⟩ := ex_pyL r h.2
    exact ⟨p :: ps, by simp only [pyL, h1, h3], by simp only [PyData.depthAll, dpL]; omega⟩
end
theorem ex_pl {a : D} (h : exD a = true) : Pl (dpD a) a := ex_py a h
theorem oEq_ex {ne : Bool} {a b : D} {M : Mem} (ha : exD a = true) (hb : exD b = true) (hd : dpD a ≤ 60) : oEq ne a b M = .ok (.bl (ne != (@decide (a = b) (Classical.propDecidable _)))) M := by
  obtain ⟨p, p1, p2⟩ := ex_py a ha
  obtain ⟨q, q1, q2⟩ := ex_py b hb
  have k1 : pyM M a = some p := pyGo_of p1
  have k2 : pyM M b = some q := pyGo_of q1
  have hm : min p.depth q.depth ≤ 60 := by omega
  have he : PyData.eqv p q = @decide (a = b) (Classical.propDecidable _) := by
    rw [Bool.eq_iff_iff, @decide_eq_true_iff _ (Classical.propDecidable _)]
    exact eqv_ex a b p q ha hb p1 q1
  simp only [oEq, k1, k2, if_pos hm, he]
  cases ne <;> simp
theorem oEq_exT {ne : Bool} {a : D} {M : Mem} (ha : exD a = true) (hd : dpD a ≤ 60) : oEq ne a a M = .ok (.bl (!ne)) M := by
  rw [oEq_ex ha ha hd]
  simp
theorem oEq_exF {ne : Bool} {a b : D} {M : Mem} (ha : exD a = true) (hb : exD b = true) (hd : dpD a ≤ 60) (h : a ≠ b) : oEq ne a b M = .ok (.bl ne) M := by
  rw [oEq_ex ha hb hd]
  simp [h]
end Fn
set_option Elab.async false
set_option linter.all false
set_option maxRecDepth 100000
set_option maxHeartbeats 1000000
namespace Fn
open PySem PySem.Spec PyProof.Rows L2
end Fn
set_option Elab.async false
set_option linter.all false
set_option maxRecDepth 100000
set_option maxHeartbeats 1000000
namespace Fn
open PySem PySem.Spec PyProof.Rows L2
mutual
theorem nk_depth : ∀ k : NK, (nk k).depth = nkDep k
  | .int _ => rfl
  | .str _ => rfl
  | .non => rfl
  | .tup l => by simp only [nk, NestedKey.depth, nkDep, nkL_depth l]
theorem nkL_depth : ∀ l : List NK, NestedKey.depthAll (nkL l) = nkDepL l
  | [] => rfl
  | k :: r => by simp only [nkL, NestedKey.depthAll, nkDepL, nk_depth k, nkL_depth r]
end
section
variable {P : Program} {w : World} {H : Hp} {h : Heap}
mutual
theorem nkAt_is (ok : HOk P w H h) : ∀ (k : NK) (v : V) (u : Value), NkAt H k v → RelV v u → NestedIs h (nk k) u
  | .int i, v, u, a, r => by
    obtain rfl : v = V.int i := a
    obtain ⟨t, rfl⟩ := r
    exact .int i t
  | .str x, v, u, a, r => by
    obtain rfl : v = V.str (l2s x) := a
    obtain ⟨t, rfl⟩ := r
    exact .text _ t
  | .non, v, u, a, r => by
    obtain rfl : v = V.non := a
    obtain rfl : u = Value.none := r
    exact .none
  | .tup l, v, u, a, r => by
    obtain ⟨b, us, rfl, hb, ks⟩ := a
    obtain rfl : u = Value.ref b := r
    obtain ⟨_, its, rv, o, h1, h2, n, h3⟩ := ok b _ hb
    exact .tup h1 h2 h3 (nkAtL_is ok l us its ks rv)
theorem nkAtL_is (ok : HOk P w H h) : ∀ (l : List NK) (vs : List V) (us : List Value), NkAtL H l vs → Vals vs us → NestedAll h (nkL l) us
  | [], vs, us, a, r => by
    obtain rfl : vs = [] := a
    cases r
    exact .nil
  | k :: l, vs, us, a, r => by
    obtain ⟨v, vs', rfl, h1, h2⟩ := a
    cases r with
    | cons r1 r2 => exact .cons (nkAt_is ok k v _ h1 r1) (nkAtL_is ok l vs' _ h2 r2)
end
def EsOk (H : Hp) (es : List (NestedKey × Addr × V)) : Prop := ∀ e ∈ es, ∃ k, nk k = e.1 ∧ nkDep k ≤ 8 ∧ NkAt H k (.ref e.2.1)
abbrev NP : List (NestedKey × Addr × V) → List (NestedKey × Addr × Value) → Prop := Paired fun p q => p.1 = q.1 ∧ p.2.1 = q.2.1 ∧ RelV p.2.2 q.2.2
theorem nd_keys (ok : HOk P w H h) {es : List (NestedKey × Addr × V)} {xs : List (NestedKey × Addr × Value)} (pr : NP es xs) : EsOk H es → ∀ x ∈ xs, (nestedKind P w).is h x.1 x.2.1 := by
  induction pr with
  | nil => exact fun _ x hx => by cases hx
  | @cons p q ps qs r t ih =>
    intro ke x hx
    rcases List.mem_cons.mp hx with rfl | hx
    · obtain ⟨k, k1, k2, k3⟩ := ke p (List.mem_cons_self ..)
      obtain ⟨r1, r2, r3⟩ := r
      refine ⟨?_, ?_⟩
      · rw [← r1, ← r2, ← k1]
        exact nkAt_is ok k _ _ k3 rfl
      · rw [← r1, ← k1, nk_depth]; exact k2
    · exact ih (fun e he => ke e (List.mem_cons_of_mem _ he)) x hx
/-- what the heap holds there -/
theorem nd_rd {a : Addr} {es : List (NestedKey × Addr × V)} (ok : HOk P w H h) (e : Rd H a (NdO w a es)) (ke : EsOk H es) : es.length ≤ sizeLine ∧ (a == sysModules) = false ∧ ∃ xs, NP es xs ∧ h.DictOfH (nestedKind P w) a xs := by
  obtain ⟨⟨z, hd, xs, pr, o, arr, ep, h1, h2, h3, h4, h5⟩, _, _⟩ := (show ObjOk P w H h a (NdO w a es) from e.ok ok)
  exact ⟨z, hd, xs, pr, o, arr, ep, h1, h2, h3, h4, nd_keys ok pr ke, h5⟩
theorem nd_ok {a : Addr} {es : List (NestedKey × Addr × V)} {xs : List (NestedKey × Addr × Value)} {H' : Hp} (z : es.length ≤ sizeLine) (hd : (a == sysModules) = false) (pr : NP es xs) (dd : h.DictOfH (nestedKind P w) a xs) : ObjOk P w H' h a (NdO w a es) := by
  obtain ⟨o, arr, ep, h1, h2, h3, h4, _, h5⟩ := dd
  exact ⟨⟨z, hd, xs, pr, o, arr, ep, h1, h2, h3, h4, h5⟩, ⟨o, h1⟩, fun g1 g2 ⟨z, hd, xs, pr, o, arr, ep, q1, q2⟩ k => ⟨z, hd, xs, pr, o, arr, ep, k _ q1, q2⟩⟩
end
def valN (es : List (NestedKey × Addr × V)) (k : NestedKey) : Option V := (es.find? fun e => decide (e.1 = k)).map (·.2.2)
def putN (es : List (NestedKey × Addr × V)) (k : NestedKey) (b : Addr) (v : V) : List (NestedKey × Addr × V) := if (valN es k).isSome then es.map (fun e => if e.1 = k then (e.1, e.2.1, v) else e) else es ++ [(k, b, v)]
def dropN (es : List (NestedKey × Addr × V)) (k : NestedKey) : List (NestedKey × Addr × V) := es.filter fun e => decide (e.1 ≠ k)
theorem NP.val {es : List (NestedKey × Addr × V)} {xs : List (NestedKey × Addr × Value)} (r : NP es xs) (k : NestedKey) : RelO (valN es k) ((atKey xs k).map (·.2)) := by
  induction r with
  | nil => exact True.intro
  | @cons p q ps qs h t ih =>
    unfold valN atKey at ih ⊢
    obtain ⟨h1, h2, h3⟩ := h
    by_cases e : p.1 = k
    · have e' : q.1 = k := h1 ▸ e
      simp only [List.find?_cons, e, e', decide_true, Option.map_some]
      exact h3
    · have e' : ¬ q.1 = k := fun z => e (h1.trans z)
      simp only [List.find?_cons, e, e', decide_false]
      exact ih
theorem NP.put {es : List (NestedKey × Addr × V)} {xs : List (NestedKey × Addr × Value)} (r : NP es xs) (k : NestedKey) {b : Addr} {v : V} {u : Value} (rv : RelV v u) : NP (putN es k b v) (storedH xs k b u) := by
  have hv := (r.val k).isSome_eq
  rw [Option.isSome_map] at hv
  unfold putN storedH
  rw [hv]
  split
  · rename_i hc
    clear hv hc
    induction r with
    | nil => exact .nil
    | @cons p q ps qs h t ih =>
      refine .cons ?_ ih
      obtain ⟨h1, h2, h3⟩ := h
      unfold putAt
      dsimp only
      by_cases e : p.1 = k
      · rw [if_pos e, if_pos (h1 ▸ e)]; exact ⟨h1, h2, rv⟩
      · rw [if_neg e, if_neg (fun z => e (h1.trans z))]; exact ⟨h1, h2, h3⟩
  · rename_i hc
    clear hv hc
    induction r with
    | nil => exact .cons ⟨rfl, rfl, rv⟩ .nil
    | cons h t ih => exact .cons h ih
theorem NP.drop {es : List (NestedKey × Addr × V)} {xs : List (NestedKey × Addr × Value)} (r : NP es xs) (k : NestedKey) : NP (dropN es k) (withoutH xs k) := by
  unfold dropN withoutH
  induction r with
  | nil => exact .nil
  | @cons p q ps qs h t ih =>
    obtain ⟨h1, h2, h3⟩ := h
    by_cases e : p.1 = k
    · rw [List.filter_cons_of_neg (by simpa using e), List.filter_cons_of_neg (by simp [← h1, e])]; exact ih
    · rw [List.filter_cons_of_pos (by simpa using e), List.filter_cons_of_pos (by
        have : ¬ q.1 = k := fun z => e (h1.trans z)
        simpa using this)]
      exact .cons ⟨h1, h2, h3⟩ ih
theorem putN_len (es : List (NestedKey × Addr × V)) (k : NestedKey) (b : Addr) (v : V) : (putN es k b v).length ≤ es.length + 1 := by
  unfold putN
  split <;> simp
/-- the key stands at y -/
structure KeyAt (H : Hp) (k : NK) (y : V) (b : Addr) : Prop where
  y : y = .ref b
  dep : nkDep k ≤ 8
  at_ : NkAt H k (.ref b)
def NGet (w : World) (H : Hp) (a : Addr) (y : V) (r : Option V) : Prop := ∃ es k b, Rd H a (NdO w a es) ∧ EsOk H es ∧ KeyAt H k y b ∧ r = valN es (nk k)
def NPut (w : World) (H : Hp) (a : Addr) (y v : V) (H' : Hp) : Prop := ∃ es k b, H a = some (NdO w a es) ∧ EsOk H es ∧ KeyAt H k y b ∧ es.length < sizeLine ∧ H' = upd H a (NdO w a (putN es (nk k) b v))
section
variable {X : Cx} {pins : List (Addr × Obj)} {σ : L2.St} {H : Hp} {s : Shared} {a : Addr} {y v d : V} {u r : Value} {o : Option V} {A : Around} {E : Value → Shared → Prop}
theorem nd_key (I : Inv X pins σ H s) {k : NK} {b : Addr} (ka : KeyAt H k y b) : (nestedKind X.prog X.w).is s.heap (nk k) b := ⟨nkAt_is I.hok k _ _ ka.at_ rfl, by rw [nk_depth]; exact ka.dep⟩
theorem nroom (hu : A.units + 64 < cLine) : (nestedKind X.prog X.w).room A.in1 := by
  show A.in1.units + 8 < cLine
  have : A.in1.units = A.units + 1 := rfl
  omega
theorem n_getItem {Q : Value → Shared → Prop} (hu : A.units + 64 < cLine) (I : Inv X pins σ H s) (g : NGet X.w H a y (some v)) (ry : RelV y u) (h : ∀ w' s', Inv X pins σ H s' → RelV v w' → Q w' s') : wpAny (model X.prog X.w) A (getItem (.ref a) u) Q E s := by
  obtain ⟨es, k, b, e, ke, ka, l⟩ := g
  obtain rfl := ka.y
  cases (show u = Value.ref b from ry)
  obtain ⟨z, hd, xs, rel, dd⟩ := nd_rd I.hok e ke
  obtain ⟨w', hw, rw'⟩ := RelO.some_of (v := v) (o := (atKey xs (nk k)).map (·.2)) (by rw [l]; exact rel.val (nk k))
  obtain ⟨p, hp, hp2⟩ := Option.map_eq_some_iff.mp hw
  refine wpAny_getItem_heap (nroom hu) (nd_key I ka) dd hp ?_
  rw [hp2]
  exact h w' _ (I.tok _) rw'
theorem n_in {Q : Value → Shared → Prop} (hu : A.units + 64 < cLine) (I : Inv X pins σ H s) (g : NGet X.w H a y o) (ry : RelV y u) (h : ∀ s', Inv X pins σ H s' → Q (.bool o.isSome) s') : wpAny (model X.prog X.w) A (compareOp .In u (.ref a)) Q E s := by
  obtain ⟨es, k, b, e, ke, ka, l⟩ := g
  obtain rfl := ka.y
  cases (show u = Value.ref b from ry)
  obtain ⟨z, hd, xs, rel, dd⟩ := nd_rd I.hok e ke
  refine wpAny_in_heap (nroom hu) (nd_key I ka) hd dd ?_
  have q := (rel.val (nk k)).isSome_eq
  rw [Option.isSome_map] at q
  rw [← q, ← l]
  exact h _ (I.tok _)
theorem n_notIn {Q : Value → Shared → Prop} (hu : A.units + 64 < cLine) (I : Inv X pins σ H s) (g : NGet X.w H a y o) (ry : RelV y u) (h : ∀ s', Inv X pins σ H s' → Q (.bool (!o.isSome)) s') : wpAny (model X.prog X.w) A (compareOp .NotIn u (.ref a)) Q E s := by
  obtain ⟨es, k, b, e, ke, ka, l⟩ := g
  obtain rfl := ka.y
  cases (show u = Value.ref b from ry)
  obtain ⟨z, hd, xs, rel, dd⟩ := nd_rd I.hok e ke
  refine wpAny_notIn_heap (nroom hu) (nd_key I ka) hd dd ?_
  have q := (rel.val (nk k)).isSome_eq
  rw [Option.isSome_map] at q
  rw [← q, ← l]
  exact h _ (I.tok _)
theorem n_setItem {H' : Hp} {Q : Unit → Shared → Prop} (hu : A.units + 64 < cLine) (I : Inv X pins σ H s) (g : NPut X.w H a y v H') (ry : RelV y u) (rv : RelV v r) (h : ∀ s', Inv X pins σ H' s' → Q () s') : wpAny (model X.prog X.w) A (setItem (.ref a) u r) Q E s := by
  obtain ⟨es, k, b, e, ke, ka, l, eH⟩ := g
  obtain rfl := ka.y
  subst eH
  cases (show u = Value.ref b from ry)
  obtain ⟨z, hd, xs, rel, dd⟩ := nd_rd I.hok (.inl e) ke
  have hz : xs.length ≤ sizeLine := by rw [← Paired.length rel]; exact z
  have hl : (putN es (nk k) b v).length ≤ sizeLine := by have := putN_len es (nk k) b v; omega
  refine wpAny_setItem_heap (hsz := hz) (nroom hu) (nd_key I ka) dd fun h' dd' hs => h _ ?_
  have he : ∃ q, h'.get? a = some q := let ⟨q, _, _, hq, _⟩ := dd'; ⟨q, hq⟩
  exact d_write I (by rw [e]; exact True.intro) hs he (nd_ok hl hd (rel.put (nk k) rv) dd')
theorem n_get1 {Q : Value → Shared → Prop} (hu : A.units + 64 < cLine) (I : Inv X pins σ H s) (g : NGet X.w H a y o) (ry : RelV y u) (h : ∀ w' s', Inv X pins σ H s' → RelV (o.getD .non) w' → Q w' s') : wpAny (model X.prog X.w) A (call (.builtin "dict.get") [.ref a, u]) Q E s := by
  obtain ⟨es, k, b, e, ke, ka, l⟩ := g
  obtain rfl := ka.y
  cases (show u = Value.ref b from ry)
  obtain ⟨z, hd, xs, rel, dd⟩ := nd_rd I.hok e ke
  refine call_meetsIn PySem.F.slot_dict_get dd.typeIs PySem.F.entry_dict_get (PySem.F.args_dict_get_2 _ _) (meetsH_dict_get (nestedKind X.prog X.w) a b hd) ⟨nroom hu, nk k, xs, nd_key I ka, dd, h _ _ (I.tok _) ?_⟩
  rw [l]
  exact (rel.val (nk k)).getD rfl
theorem n_get2 {Q : Value → Shared → Prop} (hu : A.units + 64 < cLine) (I : Inv X pins σ H s) (g : NGet X.w H a y o) (ry : RelV y u) (rd : RelV d r) (h : ∀ w' s', Inv X pins σ H s' → RelV (o.getD d) w' → Q w' s') : wpAny (model X.prog X.w) A (call (.builtin "dict.get") [.ref a, u, r]) Q E s := by
  obtain ⟨es, k, b, e, ke, ka, l⟩ := g
  obtain rfl := ka.y
  cases (show u = Value.ref b from ry)
  obtain ⟨z, hd, xs, rel, dd⟩ := nd_rd I.hok e ke
  refine call_meetsIn PySem.F.slot_dict_get dd.typeIs PySem.F.entry_dict_get (PySem.F.args_dict_get_3 _ _ _) (meetsH_dict_get_default (nestedKind X.prog X.w) a b hd r) ⟨nroom hu, nk k, xs, nd_key I ka, dd, h _ _ (I.tok _) ?_⟩
  rw [l]
  exact (rel.val (nk k)).getD rd
/-- d.pop(k), d.pop(k, x): the key there -/
theorem n_pop {more : List Value} {Q : Value → Shared → Prop} {es : List (NestedKey × Addr × V)} {k : NK} {b : Addr} (hu : A.units + 64 < cLine) (I : Inv X pins σ H s) (e : H a = some (NdO X.w a es)) (ke : EsOk H es) (ka : KeyAt H k y b) (ry : RelV y u) (l : valN es (nk k) = some v) (hm : more = [] ∨ ∃ x, more = [x])
    (h : ∀ w' s', Inv X pins σ (upd H a (NdO X.w a (dropN es (nk k)))) s' → RelV v w' → Q w' s') : wpAny (model X.prog X.w) A (call (.builtin "dict.pop") (.ref a :: u :: more)) Q E s := by
  obtain rfl := ka.y
  cases (show u = Value.ref b from ry)
  obtain ⟨z, hd, xs, rel, dd⟩ := nd_rd I.hok (.inl e) ke
  have hz : xs.length ≤ sizeLine := by rw [← Paired.length rel]; exact z
  obtain ⟨w', hw, rw'⟩ := RelO.some_of (v := v) (o := (atKey xs (nk k)).map (·.2)) (by rw [← l]; exact rel.val (nk k))
  obtain ⟨p, hp, hp2⟩ := Option.map_eq_some_iff.mp hw
  have ha : argsOk "dict.pop" ⟨.ref a :: .ref b :: more, []⟩ := by
    rcases hm with rfl | ⟨x, rfl⟩
    · exact PySem.F.args_dict_pop_2 _ _
    · exact PySem.F.args_dict_pop_3 _ _ _
  refine call_pop_heap (hsz := hz) hm ha (nroom hu) (nd_key I ka) hd dd hp fun h' dd' hs => ?_
  rw [hp2]
  have he : ∃ q, h'.get? a = some q := let ⟨q, _, _, hq, _⟩ := dd'; ⟨q, hq⟩
  refine h _ _ (d_write I (by rw [e]; exact True.intro) hs he (nd_ok (Nat.le_trans (List.length_filter_le _ _) z) hd (rel.drop (nk k)) dd')) rw'
theorem n_popD {Q : Value → Shared → Prop} {es : List (NestedKey × Addr × V)} {k : NK} {b : Addr} (hu : A.units + 64 < cLine) (I : Inv X pins σ H s) (e : H a = some (NdO X.w a es)) (ke : EsOk H es) (ka : KeyAt H k y b) (ry : RelV y u) (l : valN es (nk k) = none) 
    (h : ∀ s', Inv X pins σ H s' → Q r s') : wpAny (model X.prog X.w) A (call (.builtin "dict.pop") [.ref a, u, r]) Q E s := by
  obtain rfl := ka.y
  cases (show u = Value.ref b from ry)
  obtain ⟨z, hd, xs, rel, dd⟩ := nd_rd I.hok (.inl e) ke
  have hz : xs.length ≤ sizeLine := by rw [← Paired.length rel]; exact z
  have hn : atKey xs (nk k) = none := by
    have q := (rel.val (nk k)).isSome_eq
    rw [l, Option.isSome_map] at q
    cases e : atKey xs (nk k) with
    | none => rfl
    | some p => rw [e] at q; cases q
  exact call_pop_default_heap (hsz := hz) (nroom hu) (nd_key I ka) hd dd hn fun tk => h _ (I.tok _)
theorem nd_empty {P : Program} {w : World} {H : Hp} (h : Heap) (hb : sysModules < h.objs.size) : ObjOk P w H (h.push { cls := .type "dict", data := .dict #[] }) h.objs.size (NdO w h.objs.size []) :=
  nd_ok (Nat.zero_le _) (beq_eq_false_iff_ne.mpr (Ne.symm (Nat.ne_of_lt hb))) .nil (Heap.DictOfH.new h)
end
end Fn
set_option Elab.async false
set_option linter.all false
set_option maxRecDepth 100000
set_option maxHeartbeats 1000000
namespace Fn
open PySem PySem.Spec PyProof.Rows L2
section
variable {κ : Type} [DecidableEq κ]
def gA (kvs : List (κ × D)) (k : κ) : Option D := (kvs.find? fun kv => decide (kv.1 = k)).map (·.2)
def pA (kvs : List (κ × D)) (k : κ) (v : D) : List (κ × D) := if (kvs.any fun kv => decide (kv.1 = k)) = true then kvs.map (fun kv => if kv.1 = k then (kv.1, v) else kv) else kvs ++ [(k, v)]
def dA (kvs : List (κ × D)) (k : κ) : List (κ × D) := kvs.filter fun kv => decide (kv.1 ≠ k)
end
section
variable {κ κ' : Type} [DecidableEq κ] [DecidableEq κ'] {f : κ → κ'} {G : Gx} {W W' : Wd} {H H' : Hp}
theorem rpA_len : ∀ {kvs : List (κ × D)} {vs : List (κ' × V)}, RpK G W H f kvs vs → vs.length = kvs.length
  | _, _, .nil => rfl
  | _, _, .cons _ t => by simp only [List.length_cons, rpA_len t]
theorem rpA_get (hf : ∀ a b, f a = f b → a = b) (k : κ) : ∀ {kvs : List (κ × D)} {vs : List (κ' × V)}, RpK G W H f kvs vs → (∀ d, gA kvs k = some d → ∃ v, valV vs (f k) = some v ∧ Rp G W H d v) ∧ (gA kvs k = none → valV vs (f k) = none)
  | _, _, .nil => ⟨fun _ e => (by cases e), fun _ => rfl⟩
  | (a, d) :: r, (a', v) :: r', .cons h t => by
    obtain ⟨h1, h2⟩ := h
    have h1 : f a = a' := h1
    subst h1
    obtain ⟨i1, i2⟩ := rpA_get hf k t
    unfold gA valV at i1 i2 ⊢
    by_cases e : a = k
    · subst e
      simp only [List.find?_cons, decide_true, Option.map_some, Option.some.injEq]
      exact ⟨fun d' e => ⟨v, rfl, by subst e; exact h2⟩, fun e => by cases e⟩
    · have e' : ¬ f a = f k := fun z => e (hf _ _ z)
      simp only [List.find?_cons, e, e', decide_false]
      exact ⟨i1, i2⟩
theorem rpA_any (hf : ∀ a b, f a = f b → a = b) (k : κ) : ∀ {kvs : List (κ × D)} {vs : List (κ' × V)}, RpK G W H f kvs vs → (vs.any fun kv => decide (kv.1 = f k)) = kvs.any fun kv => decide (kv.1 = k)
  | _, _, .nil => rfl
  | (a, d) :: r, (a', v) :: r', .cons h t => by
    have h1 : f a = a' := h.1
    subst h1
    simp only [List.any_cons, rpA_any hf k t]
    congr 1
    rw [decide_eq_decide]
    exact ⟨fun z => hf _ _ z, fun z => by rw [z]⟩
theorem rpA_snoc {kvs : List (κ × D)} {vs : List (κ' × V)} {k : κ} {d : D} {v : V} (rv : Rp G W H d v) : RpK G W H f kvs vs → RpK G W H f (kvs ++ [(k, d)]) (vs ++ [(f k, v)]) := fun h => by
  unfold RpK at h ⊢
  induction h with
  | nil => exact .cons ⟨rfl, rv⟩ .nil
  | cons h t ih => exact .cons h ih
theorem rpA_put (hf : ∀ a b, f a = f b → a = b) {k : κ} {d : D} {v : V} (rv : Rp G W H d v) {kvs : List (κ × D)} {vs : List (κ' × V)} (h : RpK G W H f kvs vs) : RpK G W H f (pA kvs k d) (putK vs (f k) v) := by
  unfold pA putK
  rw [rpA_any hf k h]
  split
  · rename_i hc
    clear hc
    unfold RpK at h ⊢
    induction h with
    | nil => exact .nil
    | @cons p q ps qs h t ih =>
      refine .cons ?_ ih
      have h1 : f p.1 = q.1 := h.1
      dsimp only
      by_cases e : p.1 = k
      · rw [if_pos e, if_pos (by rw [← h1, e])]; exact ⟨h1, rv⟩
      · rw [if_neg e, if_neg (fun z => e (hf _ _ (h1.trans z)))]; exact h
  · exact rpA_snoc rv h
theorem rpA_drop (hf : ∀ a b, f a = f b → a = b) {k : κ} {kvs : List (κ × D)} {vs : List (κ' × V)} (h : RpK G W H f kvs vs) : RpK G W H f (dA kvs k) (dropK vs (f k)) := by
  unfold dA dropK
  unfold RpK at h ⊢
  induction h with
  | nil => exact .nil
  | @cons p q ps qs h t ih =>
    have h1 : f p.1 = q.1 := h.1
    by_cases e : p.1 = k
    · rw [List.filter_cons_of_neg (by simpa using e), List.filter_cons_of_neg (by simp [← h1, e])]; exact ih
    · rw [List.filter_cons_of_pos (by simpa using e), List.filter_cons_of_pos (by
        have : ¬ q.1 = f k := fun z => e (hf _ _ (h1.trans z))
        simpa using this)]
      exact .cons h ih
end
theorem kkL_inj : ∀ {a b : List KK}, a.map kk = b.map kk → a = b
  | [], [], _ => rfl
  | [], _ :: _, h => by cases h
  | _ :: _, [], h => by cases h
  | x :: a, y :: b, h => by
    simp only [List.map_cons, List.cons.injEq] at h
    rw [kk_inj h.1, kkL_inj h.2]
def keyK : D → Option KK
  | .int i => some (.inl i)
  | .str x => some (.inr x)
  | _ => none
def keysL : List D → Option (List KK)
  | [] => some []
  | d :: r => match keyK d, keysL r with
    | some a, some b => some (a :: b)
    | _, _ => none
def keyT : D → Option (List KK)
  | .tup (d :: r) => keysL (d :: r)
  | _ => none
mutual
def keyN : D → Option NK
  | .int i => some (.int i)
  | .str x => some (.str x)
  | .non => some .non
  | .tup l => if l.isEmpty = true then none else (keyNL l).map .tup
  | _ => none
def keyNL : List D → Option (List NK)
  | [] => some []
  | d :: r => match keyN d, keyNL r with
    | some a, some b => some (a :: b)
    | _, _ => none
end
/-- a key of a dict whose keys are nested tuples -/
def keyNT : D → Option NK
  | .tup l => match keyN (.tup l) with
    | some k => if nkDep k ≤ 8 then some k else none
    | none => none
  | _ => none
section
variable {G : Gx} {W : Wd} {H : Hp} {M : Mem}
mutual
theorem keyN_ok : ∀ (d : D) (k : NK) (u : V), keyN d = some k → Rp G W H d u → NkAt H k u
  | .int i, k, u, e, r => by cases e; exact r
  | .str x, k, u, e, r => by cases e; exact r
  | .non, k, u, e, r => by cases e; exact r
  | .tup l, k, u, e, r => by
    simp only [keyN] at e
    split at e
    · cases e
    · rename_i hl
      obtain ⟨ks, hk, rfl⟩ := Option.map_eq_some_iff.mp e
      obtain ⟨a, us, e1, s, r1⟩ := r
      rcases s with s | ⟨h, _⟩
      · exact ⟨a, us, e1, s, keyNL_ok l ks us hk r1⟩
      · rw [h] at hl; exact absurd rfl hl
  | .bl _, k, u, e, r => by simp only [keyN, reduceCtorEq] at e
  | .lst _, k, u, e, r => by simp only [keyN, reduceCtorEq] at e
  | .fz _, k, u, e, r => by simp only [keyN, reduceCtorEq] at e
  | .ref _, k, u, e, r => by simp only [keyN, reduceCtorEq] at e
  | .ct _, k, u, e, r => by simp only [keyN, reduceCtorEq] at e
theorem keyNL_ok : ∀ (l : List D) (ks : List NK) (us : List V), keyNL l = some ks → RpL G W H l us → NkAtL H ks us
  | [], ks, us, e, r => by simp only [keyNL, Option.some.injEq] at e; subst e; exact r
  | d :: l, ks, us, e, r => by
    simp only [keyNL] at e
    split at e
    · rename_i a b h1 h2
      cases e
      obtain ⟨u, us', e1, r1, r2⟩ := r
      exact ⟨u, us', e1, keyN_ok d a u h1 r1, keyNL_ok l b us' h2 r2⟩
    · cases e
end
theorem keyNT_ok {d : D} {k : NK} {u : V} (e : keyNT d = some k) (r : Rp G W H d u) : ∃ b, KeyAt H k u b := by
  cases d with
  | tup l =>
    simp only [keyNT] at e
    split at e
    · rename_i k' hk
      split at e
      · rename_i hd
        cases e
        have h := keyN_ok _ _ _ hk r
        obtain ⟨b, us, e1, _⟩ := r
        subst e1
        exact ⟨b, rfl, hd, h⟩
      · cases e
    · cases e
  | _ => cases e
theorem rpN_es : ∀ {kvs : List (NK × D)} {es : List (NestedKey × Addr × V)}, RpN G W H kvs es → EsOk H es
  | _, _, .nil => fun e h => by cases h
  | (k, d) :: r, e' :: t, .cons h q => fun e he => by
    rcases List.mem_cons.mp he with rfl | he
    · exact ⟨k, h.1, h.2.1, h.2.2.1⟩
    · exact rpN_es q e he
theorem rpN_len : ∀ {kvs : List (NK × D)} {vs : List (NestedKey × Addr × V)}, RpN G W H kvs vs → vs.length = kvs.length
  | _, _, .nil => rfl
  | _, _, .cons _ t => by simp only [List.length_cons, rpN_len t]
theorem rpN_get (k : NK) : ∀ {kvs : List (NK × D)} {vs : List (NestedKey × Addr × V)}, RpN G W H kvs vs → (∀ d, gA kvs k = some d → ∃ v, valN vs (nk k) = some v ∧ Rp G W H d v) ∧ (gA kvs k = none → valN vs (nk k) = none)
  | _, _, .nil => ⟨fun _ e => (by cases e), fun _ => rfl⟩
  | (a, d) :: r, (a', b, v) :: r', .cons h t => by
    obtain ⟨h1, _, _, h2⟩ := h
    have h1 : nk a = a' := h1
    subst h1
    obtain ⟨i1, i2⟩ := rpN_get k t
    unfold gA valN at i1 i2 ⊢
    by_cases e : a = k
    · subst e
      simp only [List.find?_cons, decide_true, Option.map_some, Option.some.injEq]
      exact ⟨fun d' e => ⟨v, rfl, by subst e; exact h2⟩, fun e => by cases e⟩
    · have e' : ¬ nk a = nk k := fun z => e (nk_inj _ _ z)
      simp only [List.find?_cons, e, e', decide_false]
      exact ⟨i1, i2⟩
theorem rpN_any {kvs : List (NK × D)} {vs : List (NestedKey × Addr × V)} (h : RpN G W H kvs vs) (k : NK) : (valN vs (nk k)).isSome = kvs.any fun kv => decide (kv.1 = k) := by
  obtain ⟨g1, g2⟩ := rpN_get k h
  have e : (gA kvs k).isSome = kvs.any fun kv => decide (kv.1 = k) := by
    unfold gA
    rw [Option.isSome_map, Bool.eq_iff_iff, List.find?_isSome, List.any_eq_true]
  rw [← e]
  cases q : gA kvs k with
  | none => rw [g2 q]; rfl
  | some d => obtain ⟨v, hv, _⟩ := g1 d q; rw [hv]; rfl
theorem rpN_put {k : NK} {b : Addr} {d : D} {v : V} (hd : nkDep k ≤ 8) (ka : NkAt H k (.ref b)) (rv : Rp G W H d v) {kvs : List (NK × D)} {vs : List (NestedKey × Addr × V)} (h : RpN G W H kvs vs) : RpN G W H (pA kvs k d) (putN vs (nk k) b v) := by
  unfold pA putN
  rw [rpN_any h k]
  split
  · rename_i hc
    clear hc
    unfold RpN at h ⊢
    induction h with
    | nil => exact .nil
    | @cons p q ps qs h t ih =>
      refine .cons ?_ ih
      obtain ⟨h1, h2, h3, h4⟩ := h
      dsimp only
      by_cases e : p.1 = k
      · rw [if_pos e, if_pos (by rw [← h1, e])]; exact ⟨h1, h2, h3, rv⟩
      · rw [if_neg e, if_neg (fun z => e (nk_inj _ _ (h1.trans z)))]; exact ⟨h1, h2, h3, h4⟩
  · rename_i hc
    clear hc
    unfold RpN at h ⊢
    induction h with
    | nil => exact .cons ⟨rfl, hd, ka, rv⟩ .nil
    | cons h t ih => exact .cons h ih
theorem rpN_drop {k : NK} {kvs : List (NK × D)} {vs : List (NestedKey × Addr × V)} (h : RpN G W H kvs vs) : RpN G W H (dA kvs k) (dropN vs (nk k)) := by
  unfold dA dropN
  unfold RpN at h ⊢
  induction h with
  | nil => exact .nil
  | @cons p q ps qs h t ih =>
    have h1 : nk p.1 = q.1 := h.1
    by_cases e : p.1 = k
    · rw [List.filter_cons_of_neg (by simpa using e), List.filter_cons_of_neg (by simp [← h1, e])]; exact ih
    · rw [List.filter_cons_of_pos (by simpa using e), List.filter_cons_of_pos (by
        have : ¬ q.1 = nk k := fun z => e (nk_inj _ _ (h1.trans z))
        simpa using this)]
      exact .cons h ih
theorem RpN.fut (m : MemOk G W H M) {W' : Wd} {H' : Hp} (f : Fut W H W' H') {kvs : List (NK × D)} {es : List (NestedKey × Addr × V)} (h : RpN G W H kvs es) : RpN G W' H' kvs es := h.kp (f.kp m)
theorem dn_at {i : Nat} {a : Addr} {lk : Bool} {kvs : List (NK × D)} (h : CellOk G W H a (.dn lk kvs)) : ∃ es, Rd H a (NdO G.w a es) ∧ RpN G W H kvs es := by
  obtain ⟨vs, h1, h2⟩ := h
  refine ⟨vs, ?_, h2⟩
  cases lk
  · exact .inl h1
  · exact .inr h1
/-- a dict of any kind is read -/
def GetD (w : World) (H : Hp) (a : Addr) (y : V) (r : Option V) : Prop := DGet H a y r ∨ NGet w H a y r
def PutD (w : World) (H : Hp) (a : Addr) (y v : V) (H' : Hp) : Prop := DPut H a y v H' ∨ NPut w H a y v H'
theorem keyK_ok {d : D} {k : KK} {u : V} (e : keyK d = some k) (r : Rp G W H d u) : u = kV (kk k) := by
  cases d <;> cases e <;> exact r
theorem keysL_ok : ∀ {l : List D} {ks : List KK} {us : List V}, keysL l = some ks → RpL G W H l us → us = (ks.map kk).map kV
  | [], ks, us, e, r => by cases e; exact r
  | d :: l, ks, us, e, r => by
    simp only [keysL] at e
    split at e
    · rename_i a b h1 h2
      cases e
      obtain ⟨u, us', e1, r1, r2⟩ := r
      rw [e1, keyK_ok h1 r1, keysL_ok h2 r2]
      rfl
    · cases e
theorem keyT_ok {d : D} {ks : List KK} {u : V} (e : keyT d = some ks) (r : Rp G W H d u) : ∃ b, u = .ref b ∧ H b = some (.tup ((ks.map kk).map kV)) := by
  cases d with
  | tup l =>
    cases l with
    | nil => cases e
    | cons d l =>
      obtain ⟨a, us, e1, s, r1⟩ := r
      have := keysL_ok (show keysL (d :: l) = some ks from e) r1
      subst this
      rcases s with s | ⟨h, _⟩
      · exact ⟨a, e1, s⟩
      · cases h
  | _ => cases e
/-- what the dict holds there; none outside: no dict, no key -/
def dFind (M : Mem) (d k : D) : Option (Option D) := match d with
  | .ref i => match M[i]? with
    | some (.dk _ kvs) => (keyK k).map (gA kvs)
    | some (.dt _ kvs) => (keyT k).map (gA kvs)
    | some (.dn _ kvs) => (keyNT k).map (gA kvs)
    | _ => none
  | _ => none
theorem dk_at {i : Nat} {a : Addr} {lk : Bool} {kvs : List (KK × D)} (h : CellOk G W H a (.dk lk kvs)) : ∃ vs, Rd H a (.dK vs) ∧ RpK G W H kk kvs vs := by
  obtain ⟨vs, h1, h2⟩ := h
  refine ⟨vs, ?_, h2⟩
  cases lk
  · exact .inl h1
  · exact .inr h1
theorem dt_at {i : Nat} {a : Addr} {lk : Bool} {kvs : List (List KK × D)} (h : CellOk G W H a (.dt lk kvs)) : ∃ vs, Rd H a (.dT vs) ∧ RpK G W H (List.map kk) kvs vs := by
  obtain ⟨vs, h1, h2⟩ := h
  refine ⟨vs, ?_, h2⟩
  cases lk
  · exact .inl h1
  · exact .inr h1
theorem dFind_ok (m : MemOk G W H M) {d k : D} {x y : V} (rd : Rp G W H d x) (rk : Rp G W H k y) {o : Option D} (e : dFind M d k = some o) :
    ∃ a ov, x = .ref a ∧ GetD G.w H a y ov ∧ ov.isSome = o.isSome ∧ ∀ v, o = some v → ∃ w, ov = some w ∧ Rp G W H v w := by
  cases d with
  | ref i =>
    obtain ⟨a, ha, hx⟩ := rd
    simp only [dFind] at e
    split at e
    · rename_i lk kvs hc
      obtain ⟨k', hk, rfl⟩ := Option.map_eq_some_iff.mp e
      obtain ⟨vs, h1, h2⟩ := dk_at (i := i) (m.cell _ _ a hc ha)
      have hy := keyK_ok hk rk
      obtain ⟨g1, g2⟩ := rpA_get (fun _ _ => kk_inj) k' h2
      refine ⟨a, valV vs (kk k'), hx, .inl (.inl ⟨vs, kk k', h1, hy, rfl⟩), ?_, fun v hv => g1 v hv⟩
      cases hq : gA kvs k' with
      | none => rw [g2 hq]; rfl
      | some d => obtain ⟨w, hw, _⟩ := g1 d hq; rw [hw]; rfl
    · rename_i lk kvs hc
      obtain ⟨k', hk, rfl⟩ := Option.map_eq_some_iff.mp e
      obtain ⟨vs, h1, h2⟩ := dt_at (i := i) (m.cell _ _ a hc ha)
      obtain ⟨b, hy, hb⟩ := keyT_ok hk rk
      obtain ⟨g1, g2⟩ := rpA_get (fun _ _ => kkL_inj) k' h2
      refine ⟨a, valV vs (k'.map kk), hx, .inl (.inr ⟨vs, k'.map kk, b, h1, hy, hb, rfl⟩), ?_, fun v hv => g1 v hv⟩
      cases hq : gA kvs k' with
      | none => rw [g2 hq]; rfl
      | some d => obtain ⟨w, hw, _⟩ := g1 d hq; rw [hw]; rfl
    · rename_i lk kvs hc
      obtain ⟨k', hk, rfl⟩ := Option.map_eq_some_iff.mp e
      obtain ⟨vs, h1, h2⟩ := dn_at (i := i) (m.cell _ _ a hc ha)
      obtain ⟨b, ka⟩ := keyNT_ok hk rk
      obtain ⟨g1, g2⟩ := rpN_get k' h2
      refine ⟨a, valN vs (nk k'), hx, .inr ⟨vs, k', b, h1, rpN_es h2, ka, rfl⟩, ?_, fun v hv => g1 v hv⟩
      cases hq : gA kvs k' with
      | none => rw [g2 hq]; rfl
      | some d => obtain ⟨w, hw, _⟩ := g1 d hq; rw [hw]; rfl
    · cases e
  | _ => cases e
/-- the memory behind d[k] = v -/
def dPut (M : Mem) (d k v : D) : Option Mem := match d with
  | .ref i => match M[i]? with
    | some (.dk false kvs) => match keyK k with
      | some k' => if kvs.length < 16777216 then some (M.set i (.dk false (pA kvs k' v))) else none
      | none => none
    | some (.dt false kvs) => match keyT k with
      | some k' => if kvs.length < 16777216 then some (M.set i (.dt false (pA kvs k' v))) else none
      | none => none
    | some (.dn false kvs) => match keyNT k with
      | some k' => if kvs.length < 16777216 then some (M.set i (.dn false (pA kvs k' v))) else none
      | none => none
    | _ => none
  | _ => none
theorem dPut_ok (m : MemOk G W H M) {d k v : D} {x y u : V} (rd : Rp G W H d x) (rk : Rp G W H k y) (rv : Rp G W H v u) {M' : Mem} (e : dPut M d k v = some M') :
    ∃ a H', x = .ref a ∧ PutD G.w H a y u H' ∧ Fut W H W H' ∧ MemOk G W H' M' := by
  cases d with
  | ref i =>
    obtain ⟨a, ha, hx⟩ := rd
    simp only [dPut] at e
    split at e
    · rename_i kvs hc
      split at e
      · rename_i k' hk
        split at e
        · rename_i hl
          cases e
          obtain ⟨vs, h1, h2⟩ := m.cell _ _ a hc ha
          have h1 : H a = some (.dK vs) := h1
          have f := Fut.wrote (W := W) (H := H) (o := .dK (putK vs (kk k') u)) ha h1 trivial
          refine ⟨a, _, hx, .inl (.inl ⟨vs, kk k', h1, keyK_ok hk rk, by rw [rpA_len h2, line_eq]; exact hl, rfl⟩), f, m.wrote ha ⟨_, upd_same, rpA_put (fun _ _ => kk_inj) (m.rp f rv) (h2.fut m f)⟩⟩
        · cases e
      · cases e
    · rename_i kvs hc
      split at e
      · rename_i k' hk
        split at e
        · rename_i hl
          cases e
          obtain ⟨vs, h1, h2⟩ := m.cell _ _ a hc ha
          have h1 : H a = some (.dT vs) := h1
          obtain ⟨b, hy, hb⟩ := keyT_ok hk rk
          have f := Fut.wrote (W := W) (H := H) (o := .dT (putK vs (k'.map kk) u)) ha h1 trivial
          refine ⟨a, _, hx, .inl (.inr ⟨vs, k'.map kk, b, h1, hy, hb, by rw [rpA_len h2, line_eq]; exact hl, rfl⟩), f, m.wrote ha ⟨_, upd_same, rpA_put (fun _ _ => kkL_inj) (m.rp f rv) (h2.fut m f)⟩⟩
        · cases e
      · cases e
    · rename_i kvs hc
      split at e
      · rename_i k' hk
        split at e
        · rename_i hl
          cases e
          obtain ⟨vs, h1, h2⟩ := m.cell _ _ a hc ha
          have h1 : H a = some (NdO G.w a vs) := h1
          obtain ⟨b, ka⟩ := keyNT_ok hk rk
          have f := Fut.wrote (W := W) (H := H) (o := NdO G.w a (putN vs (nk k') b u)) ha h1 trivial
          refine ⟨a, _, hx, .inr ⟨vs, k', b, h1, rpN_es h2, ka, by rw [rpN_len h2, line_eq]; exact hl, rfl⟩, f, m.wrote ha ⟨_, upd_same, ?_⟩⟩
          have q := h2.fut m f
          exact rpN_put ka.dep (NkAt.kp (f.kp m) _ _ ka.at_) (m.rp f rv) q
        · cases e
      · cases e
    · cases e
  | _ => cases e
end
end Fn
set_option Elab.async false
set_option linter.all false
set_option maxRecDepth 100000
set_option maxHeartbeats 1000000
namespace Fn
open PySem PySem.Spec PyProof.Rows L2
section
variable {X : Cx} {G : Gx} {cl : Nat → Addr} {E : XK} {W : Wd} {H : Hp} {M : Mem} {a b c : Expr} {fa fb fc : FE} {pos : Pos}
def rGetD (w : World) : R2 := fun x y H Q => ∃ a v, x = .ref a ∧ GetD w H a y (some v) ∧ Q v H
theorem nd_typeIs {pins : List (Addr × Obj)} {σ : L2.St} {H : Hp} {s : Shared} {a : Addr} {es : List (NestedKey × Addr × V)} (I : Inv X pins σ H s) (g : Rd H a (NdO X.w a es)) : s.TypeIs (.ref a) "dict" := by
  obtain ⟨⟨z, hd, xs, pr, o, arr, ep, h1, h2, _⟩, _, _⟩ := (show ObjOk X.prog X.w H s.heap a (NdO X.w a es) from g.ok I.hok)
  exact ⟨o, h1, h2.1⟩
theorem getD_typeIs {pins : List (Addr × Obj)} {σ : L2.St} {H : Hp} {s : Shared} {a : Addr} {y : V} {o : Option V} (I : Inv X pins σ H s) (g : GetD X.w H a y o) : s.TypeIs (.ref a) "dict" := by
  rcases g with g | ⟨es, k, b, g, _⟩
  · exact dict_typeIs I g
  · exact nd_typeIs I g
theorem ix_dict (hu : X.A.units + 64 < cLine) : IxR X (rGetD X.w) := by
  intro value slice pins s σ H x y v u Q I rx ry h hs
  obtain ⟨a, w, ex, g, q⟩ := h
  subst ex
  obtain rfl : v = Value.ref a := rx
  refine tail_any (getD_typeIs I g) PySem.F.slot_dict_getitem.lookup ?_ hs
  rcases g with g | g
  · exact d_getItem (by omega) I g ry fun w' s3 I3 rw' => ⟨w, H, I3, rw', q⟩
  · exact n_getItem (by omega) I g ry fun w' s3 I3 rw' => ⟨w, H, I3, rw', q⟩
def oIxA (a b : D) (M : Mem) : R D := match dFind M a b with
  | some (some v) => .ok v M
  | some none => .no
  | none => oIx a b M
theorem op2_ixA : Op2 G E (fun x y H Q => rIx G.K x y H Q ∨ rGetD G.w x y H Q) oIxA := fun W H M a b u v Q m ra rb p => by
  unfold oIxA at p
  split at p
  · rename_i w e
    obtain ⟨a1, ov, ex, g, _, k⟩ := dFind_ok m ra rb e
    obtain ⟨z, hz, rz⟩ := k w rfl
    subst hz
    exact .inr ⟨a1, z, ex, g, p.here m _ rz⟩
  · exact p.elim
  · exact .inl (op2_ix W H M a b u v Q m ra rb p)
theorem sn_ixA (hu : X.A.units + 64 < cLine) (ha : PE X a (tE ⟨X.K, cl, X.w⟩ E fa)) (hb : PE X b (tE ⟨X.K, cl, X.w⟩ E fb)) (hs : PlainIx b := by intro _ _; rfl) : PE X (.Subscript a b pos) (tE ⟨X.K, cl, X.w⟩ E (mOp oIxA fa fb)) :=
  pe_imp (pe_ix (ix_seq.or (ix_dict hu)) ha hb hs) (tE_op op2_ixA)
def rInK (w : World) (neg : Bool) : R2 := fun y x H Q => ∃ a o, x = .ref a ∧ GetD w H a y o ∧ Q (.bl (neg != o.isSome)) H
theorem op_inK (hu : X.A.units + 64 < cLine) : OpR X (compareOp .In) (rInK X.w false) := by
  intro pins s σ H y x u v Q I ry rx h
  obtain ⟨a, o, ex, g, q⟩ := h
  subst ex
  obtain rfl : v = Value.ref a := rx
  rcases g with g | g
  · exact d_in (by omega) I g ry fun s' I' => ⟨.bl o.isSome, H, I', rfl, by simpa using q⟩
  · exact n_in (by omega) I g ry fun s' I' => ⟨.bl o.isSome, H, I', rfl, by simpa using q⟩
theorem op_notInK (hu : X.A.units + 64 < cLine) : OpR X (compareOp .NotIn) (rInK X.w true) := by
  intro pins s σ H y x u v Q I ry rx h
  obtain ⟨a, o, ex, g, q⟩ := h
  subst ex
  obtain rfl : v = Value.ref a := rx
  rcases g with g | g
  · exact d_notIn (by omega) I g ry fun s' I' => ⟨.bl (!o.isSome), H, I', rfl, by simpa using q⟩
  · exact n_notIn (by omega) I g ry fun s' I' => ⟨.bl (!o.isSome), H, I', rfl, by simpa using q⟩
def oInA (neg : Bool) (k d : D) (M : Mem) : R D := match dFind M d k with
  | some o => .ok (.bl (neg != o.isSome)) M
  | none => match d with
    | .str _ => oInS neg k d M
    | _ => oInD neg k d M
theorem op2_inA0 {neg : Bool} {r : R2} (hs : Op2 G E r (oInS neg)) : Op2 G E (fun x y H Q => (r x y H Q ∨ rInP G.K neg x y H Q) ∨ rInK G.w neg x y H Q) (oInA neg) := fun W H M a b u v Q m ra rb p => by
  unfold oInA at p
  split at p
  · rename_i o e
    obtain ⟨a1, ov, ex, g, hi, _⟩ := dFind_ok m rb ra e
    exact .inr ⟨a1, ov, ex, g, by rw [hi]; exact p.here m _ rfl⟩
  · split at p
    · exact .inl (.inl (hs W H M _ _ u v Q m ra rb p))
    · exact .inl (.inr (op2_inD W H M a b u v Q m ra rb p))
theorem op_inA (hu : X.A.units + 64 < cLine) : OpR X (compareOp .In) (fun x y H Q => ((∃ (c : Nat) (z : Str), x = .str ⟨#[c]⟩ ∧ y = .str z ∧ Q (.bl (decide (c ∈ z.cps.toList))) H) ∨ rInP X.K false x y H Q) ∨ rInK X.w false x y H Q) := (op_in_sign.or (op_inP hu)).or (op_inK hu)
theorem op_notInA (hu : X.A.units + 64 < cLine) : OpR X (compareOp .NotIn) (fun x y H Q => ((∃ (c : Nat) (z : Str), x = .str ⟨#[c]⟩ ∧ y = .str z ∧ Q (.bl (!decide (c ∈ z.cps.toList))) H) ∨ rInP X.K true x y H Q) ∨ rInK X.w true x y H Q) := (op_notIn_sign.or (op_notInP hu)).or (op_notInK hu)
theorem op2_inA : Op2 G E (fun x y H Q => ((∃ (c : Nat) (z : Str), x = .str ⟨#[c]⟩ ∧ y = .str z ∧ Q (.bl (decide (c ∈ z.cps.toList))) H) ∨ rInP G.K false x y H Q) ∨ rInK G.w false x y H Q) (oInA false) := op2_inA0 op2_inS
theorem op2_notInA : Op2 G E (fun x y H Q => ((∃ (c : Nat) (z : Str), x = .str ⟨#[c]⟩ ∧ y = .str z ∧ Q (.bl (!decide (c ∈ z.cps.toList))) H) ∨ rInP G.K true x y H Q) ∨ rInK G.w true x y H Q) (oInA true) := op2_inA0 op2_notInS
def rSetD (w : World) : V → V → V → Hp → (Hp → Prop) → Prop := fun o i v H Q => ∃ a H', o = .ref a ∧ PutD w H a i v H' ∧ Q H'
theorem set_dict (hu : X.A.units + 64 < cLine) : PSet X (rSetD X.w) := fun pins s σ H o i v ov iv u Q I ro ri rv h => by
  obtain ⟨a, H', eo, g, q⟩ := h
  subst eo
  obtain rfl : ov = Value.ref a := ro
  rcases g with g | g
  · exact d_setItem (by omega) I g ri rv fun s' I' => ⟨H', I', q⟩
  · exact n_setItem (by omega) I g ri rv fun s' I' => ⟨H', I', q⟩
theorem set_any (hu : X.A.units + 64 < cLine) : PSet X (fun o i v H Q => rSetL o i v H Q ∨ rSetD X.w o i v H Q) := fun pins s σ H o i v ov iv u Q I ro ri rv h => by
  rcases h with h | h
  · exact set_list pins s σ H o i v ov iv u Q I ro ri rv h
  · exact set_dict hu pins s σ H o i v ov iv u Q I ro ri rv h
/-- the memory behind x[i] = v of a list -/
def lPut (M : Mem) (o i d : D) : Option Mem := match o, i with
  | .ref j, .int k => match M[j]? with
    | some (.lst l) => match ixN l.length k with
      | some n => some (M.set j (.lst (l.set n d)))
      | none => none
    | _ => none
  | _, _ => none
def sPut (M : Mem) (o i d : D) : Option Mem := match dPut M o i d with
  | some m => some m
  | none => lPut M o i d
theorem sPut_ok (m : MemOk G W H M) {d k v : D} {x y u : V} (rd : Rp G W H d x) (rk : Rp G W H k y) (rv : Rp G W H v u) {M' : Mem} (e : sPut M d k v = some M') :
    ∃ H', Fut W H W H' ∧ MemOk G W H' M' ∧ ∀ Q : Hp → Prop, Q H' → rSetL x y u H Q ∨ rSetD G.w x y u H Q := by
  unfold sPut at e
  split at e
  · rename_i m' e'
    cases e
    obtain ⟨a, H', e1, e2, f, k⟩ := dPut_ok m rd rk rv e'
    exact ⟨H', f, k, fun Q q => .inr ⟨a, H', e1, e2, q⟩⟩
  · unfold lPut at e
    split at e
    · rename_i j n
      split at e
      · rename_i l hc
        split at e
        · rename_i p hn
          cases e
          obtain ⟨a1, e1, e2⟩ := rd
          subst e2; cases rk
          obtain ⟨us, h1, h2⟩ := m.cell _ _ a1 hc e1
          have f := Fut.wrote (W := W) (H := H) (o := .lst (us.set p u)) e1 h1 trivial
          exact ⟨_, f, m.wrote e1 ⟨_, upd_same, m.rpL f (h2.set p rv)⟩, fun Q q => .inl ⟨a1, us, _, p, rfl, rfl, h1, by rw [h2.len]; exact hn, q⟩⟩
        · cases e
      · cases e
    · cases e
def gIxA (fo fi : FE) : FG := fun d env M => (fo env M).bind fun o m => (fi env m).bind fun i m' => match sPut m' o i d with
  | some m2 => .ok env m2
  | none => .no
theorem sg_ixA {sl : List Nat} (hu : X.A.units + 64 < cLine) (ha : PE X a (tE ⟨X.K, cl, X.w⟩ E fa)) (hb : PE X b (tE ⟨X.K, cl, X.w⟩ E fb)) (hs : ∀ v, assign (.Subscript a b pos) X.env v = (do
      let ov ← holding [v] (eval a X.env)
      let iv ← holding [v, ov] (eval b X.env)
      standAt pos
      holding [v, ov, iv] (setItem ov iv v)
      release [v, ov, iv] []) := by intro _; rfl) : PG X (.Subscript a b pos) (tGt ⟨X.K, cl, X.w⟩ E sl (gIxA fa fb)) := pg_imp (pg_sub ha hb (set_any hu) hs) fun v σ H Q ⟨W, env, M, d, s, r, p⟩ => by
  refine tE.bind s p fun o m W1 H1 u1 f1 s1 r1 p1 => ?_
  refine tE.bind s1 p1 fun i m2 W2 H2 u2 f2 s2 r2 p2 => ?_
  split at p2
  · rename_i m3 e
    obtain ⟨H', f, k, q⟩ := sPut_ok s2.mem (s1.mem.rp f2 r1) r2 (s1.mem.rp f2 (s.mem.rp f1 r)) e
    exact q _ (p2 W2 H' f k _ (s2.env.fut s2.mem f) rfl)
  · exact p2.elim
def rGetL (K : PySem.W.Frag) : R2 := fun x y H Q => ∃ p xs i v, x = .ref p ∧ y = .int i ∧ SqL K H p xs ∧ L2.atI xs i = some v ∧ Q v H
theorem get_any (hu : X.A.units + 64 < cLine) : PGet X (fun x y H Q => rGetL X.K x y H Q ∨ rGetD X.w x y H Q) := fun pins s σ H x y v u Q I rx ry h => by
  rcases h with h | h
  · obtain ⟨p, xs, i, z, rfl, rfl, hq, he, q⟩ := h
    cases rx
    obtain ⟨t, rfl⟩ := ry
    obtain ⟨its, r, pl, hz⟩ := I.list hq
    obtain ⟨j, h1, h2, h3, h4, h5⟩ := atI_get he
    obtain ⟨w, ew, rw'⟩ := r.get h2
    have hl := r.length
    have hn := line63
    by_cases h0 : 0 ≤ i
    · have hj : i.toNat = j := by
        rw [seqIndex_of h0 h5] at h1
        exact Option.some.inj h1
      exact wpAny_getItem_list pl.isList h0 (by omega) (by rw [hj]; simpa using ew) ⟨z, H, I, rw', q⟩
    · have hj : (i + (its.toArray.size : Int)).toNat = j := by
        rw [seqIndex_neg (by omega) h4] at h1
        rw [List.size_toArray, ← hl]
        exact Option.some.inj h1
      exact wpAny_getItem_list_neg pl.isList (by omega) (by rw [List.size_toArray] <;> omega) (by omega) (by rw [hj]; simpa using ew) ⟨z, H, I, rw', q⟩
  · obtain ⟨a, w, ex, g, q⟩ := h
    subst ex
    obtain rfl : v = Value.ref a := rx
    rcases g with g | g
    · exact d_getItem (by omega) I g ry fun w' s3 I3 rw' => ⟨w, H, I3, rw', q⟩
    · exact n_getItem (by omega) I g ry fun w' s3 I3 rw' => ⟨w, H, I3, rw', q⟩
def lGet (M : Mem) (o i : D) : Option D := match dFind M o i with
  | some (some v) => some v
  | some none => none
  | none => match o, i with
    | .ref j, .int k => match M[j]? with
      | some (.lst l) => L2.atI l k
      | _ => none
    | _, _ => none
theorem lGet_ok (m : MemOk G W H M) {d k : D} {x y : V} (rd : Rp G W H d x) (rk : Rp G W H k y) {v : D} (e : lGet M d k = some v) : ∃ w, Rp G W H v w ∧ ∀ Q : VK, Q w H → rGetL G.K x y H Q ∨ rGetD G.w x y H Q := by
  unfold lGet at e
  split at e
  · rename_i w e'
    cases e
    obtain ⟨a1, ov, ex, g, _, k⟩ := dFind_ok m rd rk e'
    obtain ⟨z, hz, rz⟩ := k v rfl
    subst hz
    exact ⟨z, rz, fun Q q => .inr ⟨a1, z, ex, g, q⟩⟩
  · cases e
  · split at e
    · rename_i j n
      split at e
      · rename_i l hc
        obtain ⟨a1, e1, e2⟩ := rd
        subst e2; cases rk
        obtain ⟨us, h1, h2⟩ := m.cell _ _ a1 hc e1
        obtain ⟨w, h4, h5⟩ := h2.atI e
        exact ⟨w, h5, fun Q q => .inl ⟨a1, us, _, w, rfl, rfl, .inl (.inl h1), h4, q⟩⟩
      · cases e
    · cases e
def mAugIx (o : D → D → Mem → R D) (fo fi fe : FE) : FS := fun env M => (fo env M).bind fun a m => (fi env m).bind fun i m1 => match lGet m1 a i with
  | some x => (fe env m1).bind fun y m2 => (o x y m2).bind fun z m3 => match sPut m3 a i z with
    | some m4 => .ok (.nx env) m4
    | none => .no
  | none => .no
theorem ss_augIx {op : Operator} {ti : TIp} {o : D → D → Mem → R D} {tpos : Pos} (hi2 : Ip2 ⟨X.K, cl, X.w⟩ E ti o) (hop : PIp X op ti) (hu : X.A.units + 64 < cLine) (ha : PE X a (tE ⟨X.K, cl, X.w⟩ E fa)) (hb : PE X b (tE ⟨X.K, cl, X.w⟩ E fb)) (he : PE X c (tE ⟨X.K, cl, X.w⟩ E fc))
    (hst : ∀ ov iv new, augStore b ov iv new = (do holding [new, ov, iv] (setItem ov iv new); release [new, ov, iv] []; pure .next) := by intros; rfl) : PS X (.AugAssign (.Subscript a b tpos) op c pos) (tS ⟨X.K, cl, X.w⟩ E (mAugIx o fa fb fc)) :=
  ps_imp (ps_augS ha hb (get_any hu) he hop (set_any hu) hst) fun D σ H ⟨W, env, M, s, p⟩ => by
  refine tE.bind s p fun d m W1 H1 u1 f1 s1 r1 p1 => ?_
  refine tE.bind s1 p1 fun i m2 W2 H2 u2 f2 s2 r2 p2 => ?_
  split at p2
  · rename_i x e
    have r1' := s1.mem.rp f2 r1
    obtain ⟨w, rw_, k⟩ := lGet_ok s2.mem r1' r2 e
    refine k _ ?_
    refine tE.bind s2 p2 fun y m3 W3 H3 u3 f3 s3 r3 p3 => ?_
    refine hi2 W3 H3 m3 x y w u3 _ s3.mem (s2.mem.rp f3 rw_) r3 (PR.bind p3 fun z m4 W4 H4 f4 k4 p4 => fun v rv => ?_)
    split at p4
    · rename_i m5 e5
      obtain ⟨H', f, k5, q⟩ := sPut_ok k4 (s3.mem.rp f4 (s2.mem.rp f3 r1')) (s3.mem.rp f4 (s2.mem.rp f3 r2)) rv e5
      exact q _ (p4 W4 H' f k5 _ (( s3.env.fut s3.mem f4).fut k4 f))
    · exact p4.elim
  · exact p2.elim
end
end Fn
set_option Elab.async false
set_option linter.all false
set_option maxRecDepth 100000
set_option maxHeartbeats 1000000
namespace Fn
open PySem PySem.Spec PyProof.Rows L2 L2.DX
section
variable {X : Cx} {G : Gx} {cl : Nat → Addr} {E : XK} {W : Wd} {H : Hp} {M : Mem} {a b c : Expr} {fa fb fc : FE} {pos : Pos}
def mDNewK : FE := fun _ M => .ok (.ref M.length) (M ++ [.dk false []])
def mDNewT : FE := fun _ M => .ok (.ref M.length) (M ++ [.dt false []])
def mDNewN : FE := fun _ M => .ok (.ref M.length) (M ++ [.dn false []])
theorem sn_dnewK : PE X (.Dict [] [] pos) (tE G E mDNewK) := pe_imp pe_dnewK fun σ H Q ⟨W, env, M, s, p⟩ q hq =>
  p ⟨W.as ++ [q], W.hd⟩ _ (Fut.added s.mem hq) (s.mem.added hq ⟨[], upd_same, .nil⟩) _ ⟨q, by rw [← s.mem.len]; simp, rfl⟩
theorem sn_dnewT : PE X (.Dict [] [] pos) (tE G E mDNewT) := pe_imp pe_dnewT fun σ H Q ⟨W, env, M, s, p⟩ q hq =>
  p ⟨W.as ++ [q], W.hd⟩ _ (Fut.added s.mem hq) (s.mem.added hq ⟨[], upd_same, .nil⟩) _ ⟨q, by rw [← s.mem.len]; simp, rfl⟩
theorem pe_dnewN : PE X (.Dict [] [] pos) (fun _ H Q => ∀ p, H p = none → Q (.ref p) (upd H p (NdO X.w p []))) := ⟨fun pins s σ H Q I h =>
  wpAny_Dict_empty ⟨.ref s.heap.objs.size, _, I.laid (t' := s.toks) (fun b o q => Heap.get?_push_of_some _ q) (Nat.le_refl _) (nd_empty s.heap I.big), rfl, h _ (I.hok.fresh (Nat.le_refl _))⟩⟩
theorem sn_dnewN : PE X (.Dict [] [] pos) (tE ⟨X.K, cl, X.w⟩ E mDNewN) := pe_imp pe_dnewN fun σ H Q ⟨W, env, M, s, p⟩ q hq =>
  p ⟨W.as ++ [q], W.hd⟩ _ (Fut.added s.mem hq) (s.mem.added hq ⟨[], upd_same, .nil⟩) _ ⟨q, by rw [← s.mem.len]; simp, rfl⟩
def dLen (M : Mem) : D → Option Nat
  | .ref i => match M[i]? with
    | some (.dk false kvs) => some kvs.length
    | some (.dt false kvs) => some kvs.length
    | some (.dn false kvs) => some kvs.length
    | _ => none
  | _ => none
def rLenN (w : World) : List V → Hp → VK → Prop := fun xs H Q => ∃ a es, xs = [V.ref a] ∧ H a = some (NdO w a es) ∧ EsOk H es ∧ Q (.int es.length) H
theorem call_lenN : CallR X (.builtin "len") (rLenN X.w) := by
  intro pins s σ H vs us Q I r h
  obtain ⟨a, es, rfl, e, ke, q⟩ := h
  obtain ⟨u, rfl, rx⟩ := vals1 r
  obtain rfl : u = .ref a := rx
  obtain ⟨z, hd, xs, pr, dd⟩ := nd_rd I.hok (.inl e) ke
  have hl : es.length = xs.length := Paired.length pr
  refine call_len_dictH hd dd (by rw [← hl]; rw [sizeLine_eq] at z; omega) ?_
  rw [← hl]
  exact ⟨.int ((es.length : Nat) : Int), H, I.tok _, ⟨_, rfl⟩, q⟩
def rLenD (w : World) : List V → Hp → VK → Prop := fun xs H Q => ((∃ a kvs, xs = [V.ref a] ∧ H a = some (.dK kvs) ∧ Q (.int kvs.length) H) ∨ rLenT xs H Q) ∨ rLenN w xs H Q
theorem call_lenDD : CallR X (.builtin "len") (rLenD X.w) := (call_lenD.or call_len_dT).or call_lenN
theorem dLen_ok (m : MemOk G W H M) {d : D} {x : V} (rd : Rp G W H d x) {n : Nat} (e : dLen M d = some n) (Q : VK) (q : Q (.int n) H) : rLenD G.w [x] H Q := by
  cases d with
  | ref i =>
    obtain ⟨a, ha, hx⟩ := rd
    subst hx
    simp only [dLen] at e
    split at e
    · rename_i kvs hc
      cases e
      obtain ⟨vs, h1, h2⟩ := m.cell _ _ a hc ha
      exact .inl (.inl ⟨a, vs, rfl, h1, by rw [rpA_len h2]; exact q⟩)
    · rename_i kvs hc
      cases e
      obtain ⟨vs, h1, h2⟩ := m.cell _ _ a hc ha
      exact .inl (.inr ⟨a, vs, rfl, h1, by rw [rpA_len h2]; exact q⟩)
    · rename_i kvs hc
      cases e
      obtain ⟨vs, h1, h2⟩ := m.cell _ _ a hc ha
      exact .inr ⟨a, vs, rfl, h1, rpN_es h2, by rw [rpN_len h2]; exact q⟩
    · cases e
  | _ => cases e
def oLenA (ds : List D) (M : Mem) : R D := match ds with
  | [d] => match dLen M d with
    | some n => .ok (.int n) M
    | none => oLen [d] M
  | _ => .no
theorem fn_lenA : Fn1 G E (fun xs H Q => ((∃ p ys, xs = [.ref p] ∧ (SqL G.K H p ys ∨ SqT G.K H p ys) ∧ Q (.int ys.length) H) ∨ ∃ z : Str, xs = [.str z] ∧ z.length ≤ sizeLine ∧ Q (.int z.length) H) ∨ rLenD G.w xs H Q) oLenA := fun W H M ds us Q m r p => by
  match ds, r, p with
  | [d], r, p =>
    simp only [oLenA] at p
    split at p
    · rename_i n e
      obtain ⟨u, us', e1, r1, r2⟩ := r
      have : us' = [] := r2
      subst this e1
      exact .inr (dLen_ok m r1 e Q (p.here m _ rfl))
    · exact .inl (fn_len W H M [d] us Q m r p)
  | [], r, p => exact p.elim
  | _ :: _ :: _, r, p => exact p.elim
theorem call_lenAA : CallR X (.builtin "len") (fun xs H Q => ((∃ p ys, xs = [.ref p] ∧ (SqL X.K H p ys ∨ SqT X.K H p ys) ∧ Q (.int ys.length) H) ∨ ∃ z : Str, xs = [.str z] ∧ z.length ≤ sizeLine ∧ Q (.int z.length) H) ∨ rLenD X.w xs H Q) := call_lenA.or call_lenDD
def rGetM (w : World) : V → List V → Hp → VK → Prop := fun x vs H Q => (∃ a y o, x = .ref a ∧ vs = [y] ∧ GetD w H a y o ∧ Q (o.getD .non) H) ∨ ∃ a y d o, x = .ref a ∧ vs = [y, d] ∧ GetD w H a y o ∧ Q (o.getD d) H
theorem mt_dget (hu : X.A.units + 64 < cLine) : MtR X "dict.get" (rGetM X.w) := by
  intro pins s σ H x xs v us Q I rx rxs h
  rcases h with ⟨a, y, o, rfl, rfl, g, q⟩ | ⟨a, y, d, o, rfl, rfl, g, q⟩
  · obtain ⟨u, rfl, ru⟩ := vals1 rxs
    obtain rfl : v = Value.ref a := rx
    rcases g with g | g
    · exact d_get1 (by omega) I g ru fun w' s' I' rw' => ⟨_, H, I', rw', q⟩
    · exact n_get1 (by omega) I g ru fun w' s' I' rw' => ⟨_, H, I', rw', q⟩
  · obtain ⟨u1, u2, rfl, r1, r2⟩ := vals2 rxs
    obtain rfl : v = Value.ref a := rx
    rcases g with g | g
    · exact d_get2 (by omega) I g r1 r2 fun w' s' I' rw' => ⟨_, H, I', rw', q⟩
    · exact n_get2 (by omega) I g r1 r2 fun w' s' I' rw' => ⟨_, H, I', rw', q⟩
def oGetM (d : D) (ks : List D) (M : Mem) : R D := match ks with
  | [k] => match dFind M d k with
    | some (some v) => .ok v M
    | some none => .ok .non M
    | none => .no
  | [k, z] => match dFind M d k with
    | some (some v) => .ok v M
    | some none => .ok z M
    | none => .no
  | _ => .no
theorem mt1_dget : Mt1 G E (rGetM G.w) oGetM := fun W H M a u ds us Q m ra r p => by
  unfold oGetM at p
  split at p
  · rename_i k
    obtain ⟨v, us', e1, r1, r2⟩ := r
    have : us' = [] := r2
    subst this e1
    split at p
    · rename_i w e
      obtain ⟨a1, ov, ex, g, _, kk⟩ := dFind_ok m ra r1 e
      obtain ⟨z, hz, rz⟩ := kk w rfl
      subst hz
      exact .inl ⟨a1, v, _, ex, rfl, g, p.here m _ rz⟩
    · rename_i e
      obtain ⟨a1, ov, ex, g, hi, _⟩ := dFind_ok m ra r1 e
      cases ov with
      | none => exact .inl ⟨a1, v, _, ex, rfl, g, p.here m _ rfl⟩
      | some z => cases hi
    · exact p.elim
  · rename_i k z
    obtain ⟨v, us', e1, r1, v2, us2, e2, r2, r3⟩ := r
    have : us2 = [] := r3
    subst this e2 e1
    split at p
    · rename_i w e
      obtain ⟨a1, ov, ex, g, _, kk⟩ := dFind_ok m ra r1 e
      obtain ⟨z, hz, rz⟩ := kk w rfl
      subst hz
      exact .inr ⟨a1, v, v2, _, ex, rfl, g, p.here m _ rz⟩
    · rename_i e
      obtain ⟨a1, ov, ex, g, hi, _⟩ := dFind_ok m ra r1 e
      cases ov with
      | none => exact .inr ⟨a1, v, v2, _, ex, rfl, g, p.here m _ r2⟩
      | some z => cases hi
    · exact p.elim
  · exact p.elim
def rPopK : V → List V → Hp → VK → Prop := fun x vs H Q => ∃ a kvs k more, x = .ref a ∧ vs = kV k :: more ∧ H a = some (.dK kvs) ∧ ((∃ v, (more = [] ∨ ∃ z, more = [z]) ∧ valV kvs k = some v ∧ Q v (upd H a (.dK (dropK kvs k)))) ∨ ∃ z, more = [z] ∧ valV kvs k = none ∧ Q z H)
theorem mt_popK : MtR X "dict.pop" rPopK := by
  intro pins s σ H x xs v us Q I rx rxs h
  obtain ⟨a, kvs, k, more, rfl, rfl, ha, h⟩ := h
  obtain rfl : v = Value.ref a := rx
  cases rxs with
  | cons ru rm =>
    rcases h with ⟨w, hm, hv, q⟩ | ⟨z, rfl, hv, q⟩
    · refine d_pop I ha ru hv ?_ fun w' s' I' rw' => ⟨w, _, I', rw', q⟩
      rcases hm with rfl | ⟨z, rfl⟩
      · cases rm; exact .inl rfl
      · obtain ⟨u2, rfl, _⟩ := vals1 rm; exact .inr ⟨u2, rfl⟩
    · obtain ⟨u2, rfl, r2⟩ := vals1 rm
      exact d_popD I ha ru hv fun s' I' => ⟨z, H, I', r2, q⟩
theorem mt_popD (hu : X.A.units + 64 < cLine) : MtR X "dict.pop" (fun x xs H Q => rPopK x xs H Q ∨ rPopT x xs H Q) := mt_popK.or (mt_popT (by omega))
def oPopD (d : D) (ks : List D) (M : Mem) : R D := match d, ks with
  | .ref i, k :: more => match M[i]? with
    | some (.dk false kvs) => match keyK k with
      | some k' => match gA kvs k', more with
        | some v, [] => .ok v (M.set i (.dk false (dA kvs k')))
        | some v, [_] => .ok v (M.set i (.dk false (dA kvs k')))
        | none, [z] => .ok z M
        | _, _ => .no
      | none => .no
    | some (.dt false kvs) => match keyT k, more with
      | some k', [z] => match gA kvs k' with
        | some v => .ok v (M.set i (.dt false (dA kvs k')))
        | none => .ok z M
      | _, _ => .no
    | _ => .no
  | _, _ => .no
theorem mt1_popD : Mt1 G E (fun x xs H Q => rPopK x xs H Q ∨ rPopT x xs H Q) oPopD := fun W H M a u ds us Q m ra r p => by
  unfold oPopD at p
  split at p
  · rename_i i k more
    obtain ⟨a1, ha, hx⟩ := ra
    subst hx
    obtain ⟨v, us', e1, r1, r2⟩ := r
    subst e1
    split at p
    · rename_i kvs hc
      obtain ⟨vs, h1, h2⟩ := m.cell _ _ a1 hc ha
      have h1 : H a1 = some (.dK vs) := h1
      split at p
      · rename_i k' hk
        obtain ⟨g1, g2⟩ := rpA_get (fun _ _ => kk_inj) k' h2
        have hv := keyK_ok hk r1
        subst hv
        have f := Fut.wrote (W := W) (H := H) (o := .dK (dropK vs (kk k'))) ha h1 trivial
        have mk := m.wrote ha (o := .dK (dropK vs (kk k'))) (c := .dk false (dA kvs k')) ⟨_, upd_same, rpA_drop (fun _ _ => kk_inj) (h2.fut m f)⟩
        split at p
        · rename_i w hw
          obtain ⟨z, hz, rz⟩ := g1 w hw
          have : us' = [] := r2
          subst this
          exact .inl ⟨a1, vs, kk k', [], rfl, rfl, h1, .inl ⟨z, .inl rfl, hz, p W _ f mk _ (m.rp f rz)⟩⟩
        · rename_i w y hw
          obtain ⟨z, hz, rz⟩ := g1 w hw
          obtain ⟨v2, us2, e2, r3, r4⟩ := r2
          have : us2 = [] := r4
          subst this e2
          exact .inl ⟨a1, vs, kk k', [v2], rfl, rfl, h1, .inl ⟨z, .inr ⟨v2, rfl⟩, hz, p W _ f mk _ (m.rp f rz)⟩⟩
        · rename_i y hw
          obtain ⟨v2, us2, e2, r3, r4⟩ := r2
          have : us2 = [] := r4
          subst this e2
          exact .inl ⟨a1, vs, kk k', [v2], rfl, rfl, h1, .inr ⟨v2, rfl, g2 hw, p.here m _ r3⟩⟩
        · exact p.elim
      · exact p.elim
    · rename_i kvs hc
      obtain ⟨vs, h1, h2⟩ := m.cell _ _ a1 hc ha
      have h1 : H a1 = some (.dT vs) := h1
      split at p
      · rename_i k' y hk
        obtain ⟨g1, g2⟩ := rpA_get (fun _ _ => kkL_inj) k' h2
        obtain ⟨b, hv, hb⟩ := keyT_ok hk r1
        subst hv
        obtain ⟨v2, us2, e2, r3, r4⟩ := r2
        have : us2 = [] := r4
        subst this e2
        have f := Fut.wrote (W := W) (H := H) (o := .dT (dropK vs (k'.map kk))) ha h1 trivial
        have mk := m.wrote ha (o := .dT (dropK vs (k'.map kk))) (c := .dt false (dA kvs k')) ⟨_, upd_same, rpA_drop (fun _ _ => kkL_inj) (h2.fut m f)⟩
        refine .inr ⟨a1, vs, k'.map kk, b, v2, rfl, rfl, h1, hb, fun w hw => ?_, fun hw => ?_⟩
        · split at p
          · rename_i w' hw'
            obtain ⟨z, hz, rz⟩ := g1 w' hw'
            rw [hz] at hw; cases hw
            exact p W _ f mk _ (m.rp f rz)
          · rename_i hn
            rw [g2 hn] at hw; cases hw
        · split at p
          · rename_i w' hw'
            obtain ⟨z, hz, rz⟩ := g1 w' hw'
            rw [hz] at hw; cases hw
          · exact p.here m _ r3
      · exact p.elim
    · exact p.elim
  · exact p.elim
end
end Fn
set_option Elab.async false
set_option linter.all false
set_option maxRecDepth 100000
set_option maxHeartbeats 1000000
namespace Fn
open PySem PySem.Spec PyProof.Rows L2
section
variable {X : Cx} {G : Gx} {cl : Nat → Addr} {E : XK} {W : Wd} {H : Hp} {M : Mem} {a b c : Expr} {fa fb fc : FE} {pos : Pos}
def unlk {α : Type} (i : Nat) (r : R α) : R α := match r with
  | .ok x m => match m[i]? with
    | some (.dk true kvs) => .ok x (m.set i (.dk false kvs))
    | some (.dt true kvs) => .ok x (m.set i (.dt false kvs))
    | some (.dn true kvs) => .ok x (m.set i (.dn false kvs))
    | _ => .no
  | _ => .no
def lockIn {α : Type} (fd : FE) (f : Env → Mem → R α) : Env → Mem → R α := fun env M => match fd env M with
  | .ok (.ref i) _ => match M[i]? with
    | some (.dk false kvs) => unlk i (f env (M.set i (.dk true kvs)))
    | some (.dt false kvs) => unlk i (f env (M.set i (.dt true kvs)))
    | some (.dn false kvs) => unlk i (f env (M.set i (.dn true kvs)))
    | _ => f env M
  | _ => f env M
def mLockE (fd : FE) (f : FE) : FE := lockIn fd f
theorem rpK_kp {W' : Wd} {H' : Hp} (k : Kp W H W' H') {κ κ' : Type} {f : κ → κ'} {kvs : List (κ × D)} {vs : List (κ' × V)} (r : RpK G W H f kvs vs) : RpK G W' H' f kvs vs := Paired.mapP r fun _ _ z => ⟨z.1, Rp.kp k _ _ z.2⟩
theorem unlk_run {α : Type} {K K' : α → Mem → Wd → Hp → Prop} {i : Nat} {a1 : Addr} {u : HO} {od : Obj} {c1 : Cell} {r : R α} (m : MemOk G W H M) (ha : W.as[i]? = some a1) (h1 : H a1 = some u) (hn : Nf u)
    (hK : ∀ x m' W' H', Kp W' H' W' (upd H' a1 u) → H' a1 = some (.frz od u) → K x m' W' (upd H' a1 u) → ∀ m0, K' x m0 W' H')
    (hc : (∃ vs, u = .dK vs) ∨ (∃ vs, u = .dT vs) ∨ ∃ vs, u = NdO G.w a1 vs) (p : PR G W H K E (unlk i r)) : PR G W (upd H a1 (.frz od u)) K' E r := by
  cases r with
  | ex c fs m' => exact p.elim
  | no => exact p.elim
  | ok x m' =>
    intro W' H' f2 k
    have hl : H' a1 = some (.frz od u) := f2.lk a1 od u upd_same
    have ha' : W'.as[i]? = some a1 := f2.get ha
    have f1 : Fut W H W (upd H a1 (.frz od u)) := Fut.wrote ha h1 hn
    have ff := f1.trans f2
    have hk : Kp W' H' W' (upd H' a1 u) := Kp.wrote k ha'
    have fut : Fut W H W' (upd H' a1 u) := ⟨ff.ext, ff.hd, fun b o e hb => by rw [upd_ne (fun z => hb (by rw [z]; exact List.mem_of_getElem? ha))]; exact ff.keep b o e hb, fun b o w e => by
      rw [upd_ne (fun z => by rw [z, h1] at e; cases e; exact hn)]; exact ff.lk b o w e⟩
    simp only [unlk] at p
    split at p
    · rename_i kvs' hc'
      obtain ⟨vs', ⟨o', q1⟩, q2⟩ := k.cell _ _ a1 hc' ha'
      rw [hl] at q1
      cases q1
      exact hK x _ W' H' hk hl (p W' _ fut (k.wrote ha' ⟨vs', upd_same, rpK_kp hk q2⟩)) m'
    · rename_i kvs' hc'
      obtain ⟨vs', ⟨o', q1⟩, q2⟩ := k.cell _ _ a1 hc' ha'
      rw [hl] at q1
      cases q1
      exact hK x _ W' H' hk hl (p W' _ fut (k.wrote ha' ⟨vs', upd_same, rpK_kp hk q2⟩)) m'
    · rename_i kvs' hc'
      obtain ⟨vs', ⟨o', q1⟩, q2⟩ := k.cell _ _ a1 hc' ha'
      rw [hl] at q1
      cases q1
      exact hK x _ W' H' hk hl (p W' _ fut (k.wrote ha' ⟨vs', upd_same, q2.kp hk⟩)) m'
    · exact p.elim
theorem sn_lock {e : Expr} {f : FE} (fd : FE) (h : PE X e (tE G E f)) : PE X e (tE G E (mLockE fd f)) := by
  have h2 : PE X e (fun σ H Q => tE G E f σ H Q ∨ tLockE (tE G E f) σ H Q) := ⟨fun pins s' σ H D I q => q.elim (h.run pins s' σ H D I) ((pe_lock h).run pins s' σ H D I)⟩
  refine pe_imp h2 fun σ H Q ⟨W, env, M, s1, p⟩ => ?_
  unfold mLockE lockIn at p
  have hi : ∀ {i : Nat} {c : Cell}, M[i]? = some c → ∃ a1, W.as[i]? = some a1 := fun {i c} hc => by
    have : i < W.as.length := by rw [s1.mem.len]; exact (List.getElem?_eq_some_iff.mp hc).1
    exact ⟨_, List.getElem?_eq_getElem this⟩
  have hK : ∀ {a1 : Addr} {u : HO} {od : Obj} (x : D) (m' : Mem) (W' : Wd) (H' : Hp), Kp W' H' W' (upd H' a1 u) → H' a1 = some (.frz od u) → PV G Q x m' W' (upd H' a1 u) → ∀ m0, PV G (fun v H' => H' a1 = some (.frz od u) ∧ Q v (upd H' a1 u)) x m0 W' H' :=
    fun x m' W' H' hk hl q m0 => fun v rv => ⟨hl, q v (Rp.kp hk _ _ rv)⟩
  split at p
  · rename_i i m0 hfd
    split at p
    · rename_i kvs hc
      obtain ⟨a1, ha⟩ := hi hc
      obtain ⟨vs, q1, q2⟩ := s1.mem.cell _ _ a1 hc ha
      have q1 : H a1 = some (.dK vs) := q1
      refine .inr ⟨a1, .dK vs, q1, True.intro, fun od => ?_⟩
      have f1 : Fut W H W (upd H a1 (.frz od (.dK vs))) := Fut.wrote ha q1 trivial
      exact ⟨W, env, M.set i (.dk true kvs), s1.fut f1 (s1.mem.wrote ha ⟨vs, ⟨od, upd_same⟩, q2.fut s1.mem f1⟩), unlk_run (c1 := .dk true kvs) s1.mem ha q1 trivial hK (.inl ⟨vs, rfl⟩) p⟩
    · rename_i kvs hc
      obtain ⟨a1, ha⟩ := hi hc
      obtain ⟨vs, q1, q2⟩ := s1.mem.cell _ _ a1 hc ha
      have q1 : H a1 = some (.dT vs) := q1
      refine .inr ⟨a1, .dT vs, q1, True.intro, fun od => ?_⟩
      have f1 : Fut W H W (upd H a1 (.frz od (.dT vs))) := Fut.wrote ha q1 trivial
      exact ⟨W, env, M.set i (.dt true kvs), s1.fut f1 (s1.mem.wrote ha ⟨vs, ⟨od, upd_same⟩, q2.fut s1.mem f1⟩), unlk_run (c1 := .dt true kvs) s1.mem ha q1 trivial hK (.inr (.inl ⟨vs, rfl⟩)) p⟩
    · rename_i kvs hc
      obtain ⟨a1, ha⟩ := hi hc
      obtain ⟨vs, q1, q2⟩ := s1.mem.cell _ _ a1 hc ha
      have q1 : H a1 = some (NdO G.w a1 vs) := q1
      refine .inr ⟨a1, NdO G.w a1 vs, q1, True.intro, fun od => ?_⟩
      have f1 : Fut W H W (upd H a1 (.frz od (NdO G.w a1 vs))) := Fut.wrote ha q1 trivial
      exact ⟨W, env, M.set i (.dn true kvs), s1.fut f1 (s1.mem.wrote ha ⟨vs, ⟨od, upd_same⟩, q2.fut s1.mem f1⟩), unlk_run (c1 := .dn true kvs) s1.mem ha q1 trivial hK (.inr (.inr ⟨vs, rfl⟩)) p⟩
    · exact .inl ⟨W, env, M, s1, p⟩
  · exact .inl ⟨W, env, M, s1, p⟩
def keyD : KK → D
  | .inl i => .int i
  | .inr x => .str x
theorem keyD_rp (k : KK) : Rp G W H (keyD k) (kV (kk k)) := by cases k <;> rfl
theorem keysD_rp : ∀ (ks : List KK), RpL G W H (ks.map keyD) ((ks.map kk).map kV)
  | [] => rfl
  | k :: r => ⟨_, _, rfl, keyD_rp k, keysD_rp r⟩
theorem rpA_at {κ κ' : Type} {f : κ → κ'} : ∀ {kvs : List (κ × D)} {vs : List (κ' × V)} {i : Nat} {k : κ} {d : D}, RpK G W H f kvs vs → kvs[i]? = some (k, d) → ∃ v, vs[i]? = some (f k, v) ∧ Rp G W H d v
  | _, _, i, k, d, .nil, e => by simp at e
  | _, _, 0, k, d, .cons (a := p) (b := q) h t, e => by
    simp only [List.getElem?_cons_zero, Option.some.injEq] at e
    subst e
    refine ⟨q.2, ?_, h.2⟩
    have h1 : f k = q.1 := h.1
    simp [h1]
  | _, _, i + 1, k, d, .cons h t, e => by
    simp only [List.getElem?_cons_succ] at e ⊢
    exact rpA_at t e
theorem map_at {α : Type} {F : α → D} {l : List α} {i : Nat} {d : D} (e : (l.map F)[i]? = some d) : ∃ x, l[i]? = some x ∧ d = F x := by
  rw [List.getElem?_map] at e
  cases q : l[i]? with
  | none => rw [q] at e; cases e
  | some x => rw [q] at e; cases e; exact ⟨x, rfl, rfl⟩
theorem src_items {a1 : Addr} {o : Obj} {kvs : List (KK × D)} {vs : List (Key × V)} (h : H a1 = some (.frz o (.dK vs))) (r : RpK G W H kk kvs vs) : SrcOk G W H ⟨kvs.map fun kv => .tup [keyD kv.1, kv.2], fun _ => True⟩ (Iti a1 o vs) where
  item := fun W2 H2 M2 f lk m _ i d e => by
    obtain ⟨kv, hk, rfl⟩ := map_at e
    obtain ⟨v, hv, rv⟩ := rpA_at r hk
    refine ⟨⟨lk _ _ _ h, (List.getElem?_eq_some_iff.mp hv).1⟩, fun x H' y => ?_⟩
    obtain ⟨T, k', v', e1, rfl, hT, rfl⟩ := y
    rw [hv] at e1; cases e1
    have ft : Fut W2 H2 W2 (upd H2 T (.tup [kV (kk kv.1), v])) := Fut.laid hT
    exact ⟨ft, m.laid hT, T, _, rfl, .inl upd_same, _, _, rfl, keyD_rp _, _, _, rfl, m.rp ft (Rp.kp f _ _ rv), rfl⟩
  stop := fun W2 H2 M2 f lk m _ => ⟨lk _ _ _ h, by rw [List.length_map, rpA_len r]; exact Nat.le_refl _⟩
end
end Fn
set_option Elab.async false
set_option linter.all false
set_option maxRecDepth 100000
set_option maxHeartbeats 1000000
namespace Fn
open PySem PySem.Spec PyProof.Rows L2
end Fn
set_option Elab.async false
set_option linter.all false
set_option maxRecDepth 100000
set_option maxHeartbeats 1000000
namespace Fn
open PySem PySem.Spec PyProof.Rows L2
end Fn
set_option Elab.async false
set_option linter.all false
set_option maxRecDepth 100000
set_option maxHeartbeats 1000000
namespace Fn
open PySem PySem.Spec PyProof.Rows L2 L2.DX
section
variable {X : Cx} {G : Gx} {cl : Nat → Addr} {E : XK} {W : Wd} {H : Hp} {M : Mem} {a b c : Expr} {fa fb fc : FE} {pos : Pos}
theorem pop1_meets {prog : Program} {w : World} {κ : Type} [DecidableEq κ] {knd : HeapKind prog w κ} {d b : Addr} {k : κ} (hd : (d == sysModules) = false) :
    MeetsIn prog w (Builtin.«dict.pop» ⟨[.ref d, .ref b], []⟩) (fun A R s => ∃ xs p, knd.room A.in1 ∧ knd.is s.heap k b ∧ s.heap.DictOfH knd d xs ∧ xs.length ≤ sizeLine ∧ atKey xs k = some p ∧
      ∀ h' tk, h'.DictOfH knd d (DT.dropH xs k) → Heap.SameBut d s.heap h' → R (.ok (.ret p.2)) { s with heap := h', toks := tk }) :=
  .of_wp fun A R s ⟨xs, p, hu, hkey, hm, hsz, hat, hsome⟩ => by
    obtain ⟨o, es, ep, ho, hc, hdat, he, his, hn⟩ := id hm
    have hes : es.size = xs.length := size_of_entries he
    have hp0 : (keyPart (Value.ref b)).isSome = false := rfl
    unfold Builtin.«dict.pop»; refine wpAny_bind ?_; unfold Builtin.Dict.keyAndDefault
    refine wpAny_bind (wpAny_notOrdered_dict hm.typeIs ?_); show wpAny _ _ (pure (d, Value.ref b, none)) _ _ s
    refine wpAny_pure ?_; simp only [hp0, Bool.false_eq_true, if_false]
    refine wpAny_bind (wpAny_dictEntries ho hdat (wpAny_bind (wpAny_pure ?_)))
    cases hem : es.isEmpty with
    | true =>
      have z : es.size = 0 := by simpa using hem
      have h0 : xs = [] := List.length_eq_zero_iff.mp (by omega)
      rw [h0] at hat; cases hat
    | false =>
      simp only [Bool.false_eq_true, if_false]
      refine wpAny_bind (DT.takeH hu hkey hm hsz (fun hno => ?_) fun p' e hp hev h' hm' hs' => ?_)
      · rw [hno] at hat; cases hat
      · rw [hp] at hat; cases hat
        simp only [Option.isNone_some, Bool.false_eq_true, if_false]; exact wpAny_bind (wpAny_letGo (wpAny_pure ⟨e.val, rfl, by rw [hev]; exact hsome h' _ hm' hs'⟩))
def rPopT1 : V → List V → Hp → VK → Prop := fun x xs H Q => ∃ (a : Addr) (kvs : List (List L2.Key × V)) (k : List L2.Key) (b : Addr) (v : V), x = .ref a ∧ xs = [.ref b] ∧ H a = some (.dT kvs) ∧ H b = some (.tup (k.map kV)) ∧ valV kvs k = some v ∧ Q v (upd H a (.dT (dropK kvs k)))
theorem mt_popT1 (hu : X.A.units + 64 < cLine) : MtR X "dict.pop" rPopT1 := by
  intro pins s σ H x xs v us Q I rx rxs h
  obtain ⟨a, kvs, k, b, v0, rfl, rfl, ha, hb, hv, q1⟩ := h
  cases rx
  obtain ⟨u1, rfl, r1⟩ := vals1 rxs
  cases r1
  obtain ⟨z, hd, xs', rel, dd⟩ := dt_of I.hok ha
  have r := rel.val k
  rw [hv] at r
  obtain ⟨p, hp⟩ : ∃ p, atKey xs' k = some p := by
    cases e : atKey xs' k with
    | some p => exact ⟨p, rfl⟩
    | none => rw [e] at r; exact (show False from r).elim
  rw [hp] at r
  refine call_meetsIn PySem.F.slot_dict_pop dd.typeIs PySem.F.entry_dict_pop (PySem.F.args_dict_pop_2 _ _) (pop1_meets (knd := tupleKind (mixKind X.prog X.w)) (k := k) hd)
    ⟨xs', p, tupleKind_room_in1 (by omega), key_of I.hok hb, dd, by rw [← Paired.length rel]; exact z, hp, fun h' tk dd' hs => ?_⟩
  obtain ⟨o, es, ep, hq, h2, h3, h4, _, h5⟩ := dd'
  have I2 : Inv X pins σ (upd H a (.dT (dropK kvs k))) { s with heap := h', toks := tk } := d_write I (by rw [ha]; exact True.intro) hs ⟨o, hq⟩
    ⟨Nat.le_trans (dropK_le kvs k) z, hd, _, (KT_drop k rel).keeps (fun c ys ec => (by rw [upd_ne (ne_of ec ha (fun z => nomatch z))]; exact ec)), o, es, ep, hq, h2, h3, h4, h5⟩
  exact ⟨v0, _, I2, r, q1⟩
def popT (d : D) (ks : List D) (M : Mem) : Option (D × Mem) := match d, ks with
  | .ref i, [k] => match M[i]? with
    | some (.dt false kvs) => match keyT k with
      | some k' => match gA kvs k' with
        | some v => some (v, M.set i (.dt false (dA kvs k')))
        | none => none
      | none => none
    | _ => none
  | _, _ => none
def rPopN (w : World) : V → List V → Hp → VK → Prop := fun x vs H Q => ∃ a es k b y more, x = .ref a ∧ vs = y :: more ∧ H a = some (NdO w a es) ∧ EsOk H es ∧ KeyAt H k y b ∧ ((∃ v, (more = [] ∨ ∃ z, more = [z]) ∧ valN es (nk k) = some v ∧ Q v (upd H a (NdO w a (dropN es (nk k))))) ∨ ∃ z, more = [z] ∧ valN es (nk k) = none ∧ Q z H)
theorem mt_popN (hu : X.A.units + 64 < cLine) : MtR X "dict.pop" (rPopN X.w) := by
  intro pins s σ H x xs v us Q I rx rxs h
  obtain ⟨a, es, k, b, y, more, rfl, rfl, ha, ke, ka, h⟩ := h
  obtain rfl : v = Value.ref a := rx
  cases rxs with
  | cons ru rm =>
    rcases h with ⟨w, hm, hv, q⟩ | ⟨z, rfl, hv, q⟩
    · refine n_pop hu I ha ke ka ru hv ?_ fun w' s' I' rw' => ⟨w, _, I', rw', q⟩
      rcases hm with rfl | ⟨z, rfl⟩
      · cases rm; exact .inl rfl
      · obtain ⟨u2, rfl, _⟩ := vals1 rm; exact .inr ⟨u2, rfl⟩
    · obtain ⟨u2, rfl, r2⟩ := vals1 rm
      exact n_popD hu I ha ke ka ru hv fun s' I' => ⟨z, H, I', r2, q⟩
def popN (d : D) (ks : List D) (M : Mem) : Option (D × Mem) := match d, ks with
  | .ref i, k :: more => match M[i]? with
    | some (.dn false kvs) => match keyNT k with
      | some k' => match gA kvs k', more with
        | some v, [] => some (v, M.set i (.dn false (dA kvs k')))
        | some v, [_] => some (v, M.set i (.dn false (dA kvs k')))
        | none, [z] => some (z, M)
        | _, _ => none
      | none => none
    | _ => none
  | _, _ => none
def oPopE (d : D) (ks : List D) (M : Mem) : R D := match popT d ks M with
  | some (v, m) => .ok v m
  | none => match popN d ks M with
    | some (v, m) => .ok v m
    | none => oPopD d ks M
def rPopE (w : World) : V → List V → Hp → VK → Prop := fun x xs H Q => ((rPopK x xs H Q ∨ rPopT x xs H Q) ∨ rPopT1 x xs H Q) ∨ rPopN w x xs H Q
theorem mt_popE (hu : X.A.units + 64 < cLine) : MtR X "dict.pop" (rPopE X.w) := ((mt_popD hu).or (mt_popT1 hu)).or (mt_popN hu)
theorem mt1_popE : Mt1 G E (rPopE G.w) oPopE := fun W H M a u ds us Q m ra r p => by
  unfold oPopE at p
  split at p
  · rename_i v0 m0 e
    unfold popT at e
    split at e
    · rename_i i k
      obtain ⟨a1, ha, hx⟩ := ra
      subst hx
      obtain ⟨v, us', e1, r1, r2⟩ := r
      have : us' = [] := r2
      subst this e1
      split at e
      · rename_i kvs hc
        obtain ⟨vs, h1, h2⟩ := m.cell _ _ a1 hc ha
        have h1 : H a1 = some (.dT vs) := h1
        split at e
        · rename_i k' hk
          split at e
          · rename_i w hw
            cases e
            obtain ⟨b, hv, hb⟩ := keyT_ok hk r1
            subst hv
            obtain ⟨z, hz, rz⟩ := (rpA_get (fun _ _ => kkL_inj) k' h2).1 _ hw
            have f := Fut.wrote (W := W) (H := H) (o := .dT (dropK vs (k'.map kk))) ha h1 trivial
            have mk := m.wrote ha (o := .dT (dropK vs (k'.map kk))) (c := .dt false (dA kvs k')) ⟨_, upd_same, rpA_drop (fun _ _ => kkL_inj) (h2.fut m f)⟩
            exact .inl (.inr ⟨a1, vs, k'.map kk, b, z, rfl, rfl, h1, hb, hz, p W _ f mk _ (m.rp f rz)⟩)
          · cases e
        · cases e
      · cases e
    · cases e
  · split at p
    · rename_i v0 m0 e
      unfold popN at e
      split at e
      · rename_i i k more
        obtain ⟨a1, ha, hx⟩ := ra
        subst hx
        obtain ⟨v, us', e1, r1, r2⟩ := r
        subst e1
        split at e
        · rename_i kvs hc
          obtain ⟨vs, h1, h2⟩ := m.cell _ _ a1 hc ha
          have h1 : H a1 = some (NdO G.w a1 vs) := h1
          split at e
          · rename_i k' hk
            obtain ⟨b, ka⟩ := keyNT_ok hk r1
            obtain ⟨g1, g2⟩ := rpN_get k' h2
            have f := Fut.wrote (W := W) (H := H) (o := NdO G.w a1 (dropN vs (nk k'))) ha h1 trivial
            have mk := m.wrote ha (o := NdO G.w a1 (dropN vs (nk k'))) (c := .dn false (dA kvs k')) ⟨_, upd_same, rpN_drop (h2.fut m f)⟩
            split at e
            · rename_i w hw
              cases e
              obtain ⟨z, hz, rz⟩ := g1 _ hw
              have : us' = [] := r2
              subst this
              exact .inr ⟨a1, vs, k', b, v, [], rfl, rfl, h1, rpN_es h2, ka, .inl ⟨z, .inl rfl, hz, p W _ f mk _ (m.rp f rz)⟩⟩
            · rename_i w y hw
              cases e
              obtain ⟨z, hz, rz⟩ := g1 _ hw
              obtain ⟨v2, us2, e2, r3, r4⟩ := r2
              have : us2 = [] := r4
              subst this e2
              exact .inr ⟨a1, vs, k', b, v, [v2], rfl, rfl, h1, rpN_es h2, ka, .inl ⟨z, .inr ⟨v2, rfl⟩, hz, p W _ f mk _ (m.rp f rz)⟩⟩
            · rename_i y hw
              cases e
              obtain ⟨v2, us2, e2, r3, r4⟩ := r2
              have : us2 = [] := r4
              subst this e2
              exact .inr ⟨a1, vs, k', b, v, [v2], rfl, rfl, h1, rpN_es h2, ka, .inr ⟨v2, rfl, g2 hw, p.here m _ r3⟩⟩
            · cases e
          · cases e
        · cases e
      · cases e
    · exact .inl (.inl (mt1_popD W H M a u ds us Q m ra r p))
end
end Fn
set_option Elab.async false
set_option linter.all false
set_option maxRecDepth 100000
set_option maxHeartbeats 1000000
namespace Fn
open PySem PySem.Spec PyProof.Rows L2 L2.DX
section
variable {X : Cx} {pins : List (Addr × Obj)} {σ : L2.St} {H : Hp} {s : Shared} {d : Addr} {o : Obj}
/-- an entry of a locked dict with tuple keys: its key, its value -/
theorem frzT_at {kvs : List (List Key × V)} (I : Inv X pins σ H s) (h : H d = some (.frz o (.dT kvs))) {es : Array DictEntry} {ep : Nat} (hdt : o.data = .dict es ep) {i : Nat} {k : List Key} {v : V} (e : kvs[i]? = some (k, v)) :
    ∃ (en : DictEntry) (q : Addr), es[i]? = some en ∧ en.key = .ref q ∧ H q = some (.tup (k.map kV)) ∧ RelV v en.val := by
  obtain ⟨hd, z, hs, xs, pr, o', es', ep', ho, hx, hdt', he, _⟩ := I.hok d _ h
  rw [hd] at ho
  cases ho
  obtain ⟨rfl, rfl⟩ := dict_ep hdt hdt'
  obtain ⟨b, hb, e1, e2, e3⟩ := paired_get pr e
  have q := entry_at he i
  rw [hb] at q
  exact ⟨_, b.2.1, q, rfl, e2, e3⟩
end
/-- the pairs, each a new tuple with the key's own tuple -/
def Itit (d : Addr) (o : Obj) (kvs : List (List Key × V)) : It :=
  ⟨fun i H => H d = some (.frz o (.dT kvs)) ∧ i < kvs.length, fun i H x H' => ∃ T k v q, kvs[i]? = some (k, v) ∧ x = .ref T ∧ H T = none ∧ H q = some (.tup (k.map kV)) ∧ H' = upd H T (.tup [.ref q, v]), fun i H => H d = some (.frz o (.dT kvs)) ∧ kvs.length ≤ i⟩
section
variable {P : Program} {w : World} {K : PySem.W.Frag} {d : Addr} {o : Obj} {es : Array DictEntry} {ep : Nat}
theorem turn_itemsT {kvs : List (List Key × V)} {elts : List Expr} {k0 : Nat} {tpos : Pos} (it : Addr) (hod : o.data = .dict es ep) :
    Turn P w K (.Tuple elts k0 tpos) (Itit d o kvs) [it] it (fun i h => ∃ ok ov, IsItemIter h it d i kvs.length ep ok ov) where
  mem := by simp
  obj := fun i h st b hb => by
    have e : b = it := by simpa using hb
    subst e; obtain ⟨ok, ov, e⟩ := st; exact ⟨_, e, fun v z => nomatch z⟩
  keep := fun i h h' st k => let ⟨ok, ov, e⟩ := st; ⟨ok, ov, k it (by simp) _ e⟩
  item := by
    intro X hP hw hK hc i pins s σ H E I hf st hg
    subst hP hw hK; obtain ⟨hd, hi⟩ := hg
    obtain ⟨hs, hgd, hx, es', ep', hdt, hsz, _⟩ := I.frzT hd
    obtain ⟨rfl, rfl⟩ := dict_ep hod hdt
    obtain ⟨⟨k, v⟩, hkv⟩ : ∃ p, kvs[i]? = some p := ⟨kvs[i], List.getElem?_eq_getElem hi⟩
    obtain ⟨en, q, hen, hkey, hq, rv⟩ := frzT_at I hd hod hkv
    obtain ⟨ok, ov, he⟩ := st
    rw [← hsz] at he
    have hil : i < es'.size := by omega
    have hen2 : es'[i] = en := by rw [Array.getElem?_eq_getElem hil] at hen; exact Option.some.inj hen
    have hlt : it < s.heap.objs.size := Heap.lt_size he
    refine DT.nextI he (⟨o, hgd, hx, hdt⟩ : DT.Raw s.heap d es' ep') hil fun h' ho hT hz hk => ?_
    rw [hen2] at ho hT
    refine ⟨_, rfl, wpAny_letOwnedTupleGo_items (s := { s with heap := h' }) ho fun h'' he' sb => ?_⟩
    have hT2 : h''.get? s.heap.objs.size = some { cls := .type "tuple", data := .seq #[en.key, en.val] } := (sb.2 _ (Nat.ne_of_gt hlt)).trans hT
    have new : ObjOk X.prog X.w (upd H s.heap.objs.size (.tup [.ref q, v])) h'' s.heap.objs.size (.tup [.ref q, v]) :=
      ⟨by show 2 ≤ sizeLine; decide, [en.key, en.val], .cons hkey (.cons rv .nil), ⟨_, hT2, rfl, _, rfl⟩⟩
    have I1 : Inv X pins σ (upd H s.heap.objs.size (.tup [.ref q, v])) { s with heap := h'' } :=
      I.turnedNew (t' := s.toks) (ch := [it]) (fun b ob hb e => (sb.2 b (by simpa using hb)).trans (hk b ob (by simpa using hb) e)) hf (Nat.le_refl _) new
    refine ⟨.ref s.heap.objs.size, _, I1, rfl, ⟨_, k, v, q, hkv, rfl, I.hok.fresh (Nat.le_refl _), hq, rfl⟩, ⟨en.key, en.val, ?_⟩, fun b hb => ?_⟩
    · rw [← hsz]; exact he'
    · have e : b = it := by simpa using hb
      rw [e, upd_ne (Nat.ne_of_lt hlt)]; exact (hf it (by simp)).1
  done := by
    intro X hP hw hK hc i pins s σ H E I hf st hg
    subst hP hw hK; obtain ⟨hd, hi⟩ := hg
    obtain ⟨f0, f1, f2, f3, f4, f5⟩ := hf it (by simp)
    obtain ⟨hs, hgd, hx, es', ep', hdt, hsz, _⟩ := I.frzT hd
    obtain ⟨rfl, rfl⟩ := dict_ep hod hdt
    obtain ⟨ok, ov, he⟩ := st
    rw [← hsz] at he
    exact DT.endI (I.ok.hd hc) he (⟨o, hgd, hx, hdt⟩ : DT.Raw s.heap d es' ep') (by omega) fun h' eb => ⟨rfl, I.turned (t' := s.toks) (fun b ob hb e => eb b ob hb e) f0 f1 f3 f4 f5⟩
  self := fun A i s Q E st h => let ⟨_, _, e⟩ := st; PySem.W.kcp_self e h
end
def iItemsT (td : TE) : TI := fun σ H R => td σ H fun x H1 => ∃ d o, x = .ref d ∧ ((∃ kvs, H1 d = some (.frz o (.dK kvs)) ∧ R (Iti d o kvs) H1) ∨ ∃ kvs, H1 d = some (.frz o (.dT kvs)) ∧ R (Itit d o kvs) H1)
section
variable {X : Cx} {e : Expr} {td : TE} {apos cpos : Pos} {elts : List Expr} {k0 : Nat} {tpos : Pos}
theorem pi_itemsA (he : PE X e td) (hbase : attributeBase e "items" X.env (eval e X.env) = eval e X.env) (hline : (apos.endLine == cpos.line) = true) : PI X (.Tuple elts k0 tpos) (.Call (.Attribute e "items" apos) [] [] cpos) (iItemsT td) := by
  refine ⟨fun pins s σ H R I h => ?_⟩
  refine wpAny_Call_method (T := "dict") (id := "dict.items") hbase rfl hline F.plainAttrs_dict F.slot_dict_items F.type_dict_items (thn (he.run pins s σ H _ I h) fun u s1 ⟨x, H1, I1, rx, d, o, ex, q⟩ => ?_)
  subst ex
  obtain rfl : u = Value.ref d := rx
  have I2 : Inv X pins σ H1 { s1 with heap := s1.heap.push { cls := .type "dict_items", data := .fields #[.ref d] } } := I1.kept (t' := s1.toks) fun b ob q => Heap.get?_push_of_some _ q
  have vw : (s1.heap.push { cls := .type "dict_items", data := .fields #[.ref d] }).IsItemsView s1.heap.objs.size d := ⟨_, Heap.get?_push_size _ rfl, rfl, rfl⟩
  rcases q with ⟨kvs, hd, q⟩ | ⟨kvs, hd, q⟩
  · obtain ⟨hs, hgd, hx, es, ep, vs, hdt, hsz, kv, hm⟩ := I1.frzK hd
    have raw : DT.Raw s1.heap d es ep := ⟨o, hgd, hx, hdt⟩
    refine ⟨raw.typeIs, hm.dictOf.mapOf.noDict, ?_⟩
    show wpAny _ _ (callWith cpos (.builtin "dict.items") [.ref d] [] []) _ X.xe s1
    refine method_meetsIn F.slot_dict_items F.entry_dict_items rfl (PySem.evalArgs_none ⟨rfl, raw.typeIs, F.args_dict_items_1 _, _, DT.meetsItems (es := es) (ep := ep) hs, raw, ?_⟩)
    exact DT.iterI vw (raw.push _) (pi_one (tk := s1.toks) I2 _ (turn_items _ hdt) ⟨.none, .none, by rw [← hsz]; exact Heap.get?_push_size _ rfl⟩ q)
  · obtain ⟨hs, hgd, hx, es, ep, hdt, hsz, _⟩ := I1.frzT hd
    have raw : DT.Raw s1.heap d es ep := ⟨o, hgd, hx, hdt⟩
    refine ⟨raw.typeIs, fun b qq => ?_, ?_⟩
    · cases qq; exact ⟨o, hgd, hx.2.1⟩
    show wpAny _ _ (callWith cpos (.builtin "dict.items") [.ref d] [] []) _ X.xe s1
    refine method_meetsIn F.slot_dict_items F.entry_dict_items rfl (PySem.evalArgs_none ⟨rfl, raw.typeIs, F.args_dict_items_1 _, _, DT.meetsItems (es := es) (ep := ep) hs, raw, ?_⟩)
    exact DT.iterI vw (raw.push _) (pi_one (tk := s1.toks) I2 _ (turn_itemsT _ hdt) ⟨.none, .none, by rw [← hsz]; exact Heap.get?_push_size _ rfl⟩ q)
end
section
variable {X : Cx} {G : Gx} {cl : Nat → Addr} {E : XK} {W : Wd} {H : Hp} {M : Mem} {a b c : Expr} {fa fb fc : FE} {pos : Pos}
theorem src_itemsT {a1 : Addr} {o : Obj} {kvs : List (List KK × D)} {vs : List (List Key × V)} (h : H a1 = some (.frz o (.dT vs))) (r : RpK G W H (List.map kk) kvs vs) : SrcOk G W H ⟨kvs.map fun kv => .tup [.tup (kv.1.map keyD), kv.2], fun _ => True⟩ (Itit a1 o vs) where
  item := fun W2 H2 M2 f lk m _ i d e => by
    obtain ⟨kv, hk, rfl⟩ := map_at e
    obtain ⟨v, hv, rv⟩ := rpA_at r hk
    refine ⟨⟨lk _ _ _ h, (List.getElem?_eq_some_iff.mp hv).1⟩, fun x H' y => ?_⟩
    obtain ⟨T, k', v', q, e1, rfl, hT, hq, rfl⟩ := y
    rw [hv] at e1; cases e1
    have ft : Fut W2 H2 W2 (upd H2 T (.tup [.ref q, v])) := Fut.laid hT
    refine ⟨ft, m.laid hT, T, _, rfl, .inl upd_same, _, _, rfl, ⟨q, _, rfl, .inl ?_, keysD_rp _⟩, _, _, rfl, m.rp ft (Rp.kp f _ _ rv), rfl⟩
    rw [upd_ne (ne_of_none hq hT)]; exact hq
  stop := fun W2 H2 M2 f lk m _ => ⟨lk _ _ _ h, by rw [List.length_map, rpA_len r]; exact Nat.le_refl _⟩
def iItemsA (fd : FE) : FI := fun env M => (fd env M).bind fun d m => match d with
  | .ref i => match m[i]? with
    | some (.dk true kvs) => .ok ⟨kvs.map fun kv => .tup [keyD kv.1, kv.2], fun _ => True⟩ m
    | some (.dt true kvs) => .ok ⟨kvs.map fun kv => .tup [.tup (kv.1.map keyD), kv.2], fun _ => True⟩ m
    | _ => .no
  | _ => .no
theorem si_itemsA {elts : List Expr} {k0 : Nat} {tpos apos cpos : Pos} (ha : PE X a (tE G E fa)) (hbase : attributeBase a "items" X.env (eval a X.env) = eval a X.env := by rfl) (hline : (apos.endLine == cpos.line) = true := by rfl) : PI X (.Tuple elts k0 tpos) (.Call (.Attribute a "items" apos) [] [] cpos) (tI G E (iItemsA fa)) := pi_imp (pi_itemsA ha hbase hline) fun σ H Rr ⟨W, env, M, s, p⟩ => by
  refine tE.bind s p fun d m W1 H1 u f1 s1 r1 p1 => ?_
  split at p1
  · rename_i i
    obtain ⟨a1, h1, rfl⟩ := r1
    split at p1
    · rename_i kvs hc
      obtain ⟨vs, ⟨o, q1⟩, q2⟩ := s1.mem.cell _ _ a1 hc h1
      exact ⟨a1, o, rfl, .inl ⟨vs, q1, p1.here s1.mem _ (src_items q1 q2) trivial⟩⟩
    · rename_i kvs hc
      obtain ⟨vs, ⟨o, q1⟩, q2⟩ := s1.mem.cell _ _ a1 hc h1
      exact ⟨a1, o, rfl, .inr ⟨vs, q1, p1.here s1.mem _ (src_itemsT q1 q2) trivial⟩⟩
    · exact p1.elim
  · exact p1.elim
end
end Fn
set_option Elab.async false
set_option linter.all false
set_option maxRecDepth 100000
set_option maxHeartbeats 1000000
namespace Fn
open PySem PySem.Spec PyProof.Rows L2 L2.DX
def atomP : PyData → Bool
  | .int _ => true
  | .str _ => true
  | _ => false
theorem reads_atom {h : Heap} {v : Value} {p : PyData} {as : List Addr} (r : Reads h v p as) (hp : atomP p = true) : as = [] := by
  cases r <;> first | rfl | cases hp
end Fn
set_option Elab.async false
set_option linter.all false
set_option maxRecDepth 100000
set_option maxHeartbeats 1000000
namespace Fn
open PySem PySem.Spec PyProof.Rows L2
section
variable {M : Mem} {i : Nat} {lk : Bool} {kvs : List (KK × D)} {tvs : List (List KK × D)} {l : List D} {k v : D} {ks : List KK} {neg : Bool}
theorem dFind_dk (h : M[i]? = some (.dk lk kvs)) : dFind M (.ref i) k = (keyK k).map (gA kvs) := by simp only [dFind, h]
theorem dFind_dt (h : M[i]? = some (.dt lk tvs)) : dFind M (.ref i) k = (keyT k).map (gA tvs) := by simp only [dFind, h]
theorem dFind_lst (h : M[i]? = some (.lst l)) : dFind M (.ref i) k = none := by simp only [dFind, h]
theorem oIxA_tup (t : List D) : oIxA (.tup t) k M = oIx (.tup t) k M := rfl
theorem oIxA_lst (t : List D) : oIxA (.lst t) k M = oIx (.lst t) k M := rfl
theorem oIxA_str (x : List Nat) : oIxA (.str x) k M = oIx (.str x) k M := rfl
theorem oIxA_ref (h : M[i]? = some (.lst l)) : oIxA (.ref i) k M = oIx (.ref i) k M := by simp only [oIxA, dFind_lst h]
theorem oIxA_dk {j : Int} (h : M[i]? = some (.dk lk kvs)) (hv : gA kvs (.inl j) = some v) : oIxA (.ref i) (.int j) M = .ok v M := by simp only [oIxA, dFind_dk h, keyK, Option.map_some, hv]
theorem oIxA_dkS {x : List Nat} (h : M[i]? = some (.dk lk kvs)) (hv : gA kvs (.inr x) = some v) : oIxA (.ref i) (.str x) M = .ok v M := by simp only [oIxA, dFind_dk h, keyK, Option.map_some, hv]
theorem oIxA_dt (h : M[i]? = some (.dt lk tvs)) (hk : keyT k = some ks) (hv : gA tvs ks = some v) : oIxA (.ref i) k M = .ok v M := by simp only [oIxA, dFind_dt h, hk, Option.map_some, hv]
theorem oInA_dk {j : Int} (h : M[i]? = some (.dk lk kvs)) : oInA neg (.int j) (.ref i) M = .ok (.bl (neg != (gA kvs (.inl j)).isSome)) M := by simp only [oInA, dFind_dk h, keyK, Option.map_some]
theorem oInA_dt (h : M[i]? = some (.dt lk tvs)) (hk : keyT k = some ks) : oInA neg k (.ref i) M = .ok (.bl (neg != (gA tvs ks).isSome)) M := by simp only [oInA, dFind_dt h, hk, Option.map_some]
theorem oInA_tup (t : List D) : oInA neg k (.tup t) M = oInD neg k (.tup t) M := rfl
theorem sPut_dk {j : Int} (h : M[i]? = some (.dk false kvs)) (hl : kvs.length < 16777216) : sPut M (.ref i) (.int j) v = some (M.set i (.dk false (pA kvs (.inl j) v))) := by simp only [sPut, dPut, h, keyK, if_pos hl]
theorem sPut_dkS {x : List Nat} (h : M[i]? = some (.dk false kvs)) (hl : kvs.length < 16777216) : sPut M (.ref i) (.str x) v = some (M.set i (.dk false (pA kvs (.inr x) v))) := by simp only [sPut, dPut, h, keyK, if_pos hl]
theorem sPut_dt (h : M[i]? = some (.dt false tvs)) (hk : keyT k = some ks) (hl : tvs.length < 16777216) : sPut M (.ref i) k v = some (M.set i (.dt false (pA tvs ks v))) := by simp only [sPut, dPut, h, hk, if_pos hl]
theorem sPut_lst {j : Int} {n : Nat} (h : M[i]? = some (.lst l)) (hn : ixN l.length j = some n) : sPut M (.ref i) (.int j) v = some (M.set i (.lst (l.set n v))) := by simp only [sPut, dPut, lPut, h, hn]
theorem lGet_lst {j : Int} (h : M[i]? = some (.lst l)) (hv : L2.atI l j = some v) : lGet M (.ref i) (.int j) = some v := by simp only [lGet, dFind_lst h, h, hv]
theorem oLenA_dk (h : M[i]? = some (.dk false kvs)) : oLenA [.ref i] M = .ok (.int kvs.length) M := by simp only [oLenA, dLen, h]
theorem oLenA_ref (h : M[i]? = some (.lst l)) : oLenA [.ref i] M = oLen [.ref i] M := by simp only [oLenA, dLen, h]
theorem oLenA_lst (t : List D) : oLenA [.lst t] M = oLen [.lst t] M := rfl
theorem oGetM_dk2 {j : Int} {z : D} (h : M[i]? = some (.dk lk kvs)) : oGetM (.ref i) [.int j, z] M = .ok ((gA kvs (.inl j)).getD z) M := by
  simp only [oGetM, dFind_dk h, keyK, Option.map_some]
  cases gA kvs (.inl j) <;> rfl
theorem oPopE_dk {j : Int} (h : M[i]? = some (.dk false kvs)) (hv : gA kvs (.inl j) = some v) : oPopE (.ref i) [.int j] M = .ok v (M.set i (.dk false (dA kvs (.inl j)))) := by
  simp only [oPopE, popT, popN, h, oPopD, keyK, hv]
theorem dFind_dn {nvs : List (NK × D)} (h : M[i]? = some (.dn lk nvs)) : dFind M (.ref i) k = (keyNT k).map (gA nvs) := by simp only [dFind, h]
theorem oInA_dn {neg : Bool} {nvs : List (NK × D)} {ks : NK} (h : M[i]? = some (.dn lk nvs)) (hk : keyNT k = some ks) : oInA neg k (.ref i) M = .ok (.bl (neg != (gA nvs ks).isSome)) M := by simp only [oInA, dFind_dn h, hk, Option.map_some]
theorem sPut_dn {nvs : List (NK × D)} {ks : NK} (h : M[i]? = some (.dn false nvs)) (hk : keyNT k = some ks) (hl : nvs.length < 16777216) : sPut M (.ref i) k v = some (M.set i (.dn false (pA nvs ks v))) := by simp only [sPut, dPut, h, hk, if_pos hl]
theorem oPopE_dn {nvs : List (NK × D)} {ks : NK} (h : M[i]? = some (.dn false nvs)) (hk : keyNT k = some ks) (hv : gA nvs ks = some v) : oPopE (.ref i) [k] M = .ok v (M.set i (.dn false (dA nvs ks))) := by
  simp only [oPopE, popT, popN, h, hk, hv]
theorem tyOk_dn {nvs : List (NK × D)} (h : M[i]? = some (.dn false nvs)) : tyOk "dict" M (.ref i) = true := by simp only [tyOk, h]; decide
theorem mDNewN_eq {env : Fn.Env} : mDNewN env M = .ok (.ref M.length) (M ++ [.dn false []]) := rfl
theorem tyOk_dk (h : M[i]? = some (.dk false kvs)) : tyOk "dict" M (.ref i) = true := by simp only [tyOk, h]; decide
theorem mDNewK_eq {env : Fn.Env} : mDNewK env M = .ok (.ref M.length) (M ++ [.dk false []]) := rfl
theorem mDNewT_eq {env : Fn.Env} : mDNewT env M = .ok (.ref M.length) (M ++ [.dt false []]) := rfl
theorem gIxA_eq (fo fi : FE) (d : D) {env : Fn.Env} : gIxA fo fi d env M = (fo env M).bind fun o m => (fi env m).bind fun i m' => match sPut m' o i d with
  | some m2 => .ok env m2
  | none => .no := rfl
theorem mAugIx_eq (o : D → D → Mem → R D) (fo fi fe : FE) {env : Fn.Env} : mAugIx o fo fi fe env M = (fo env M).bind fun a m => (fi env m).bind fun i m1 => match lGet m1 a i with
  | some x => (fe env m1).bind fun y m2 => (o x y m2).bind fun z m3 => match sPut m3 a i z with
    | some m4 => .ok (.nx env) m4
    | none => .no
  | none => .no := rfl
/-- a dict is walked in an expression: what comes is told of the memory without the lock -/
theorem lock_dk {α : Type} {fd : FE} {f : Env → Mem → R α} {env : Fn.Env} {m0 m : Mem} {kvs' : List (KK × D)} {x : α} (hd : fd env M = .ok (.ref i) m0) (h : M[i]? = some (.dk false kvs)) (hf : f env (M.set i (.dk true kvs)) = .ok x m) (hm : m[i]? = some (.dk true kvs')) : lockIn fd f env M = .ok x (m.set i (.dk false kvs')) := by
  simp only [lockIn, hd, h, hf, unlk, hm]
end
end Fn
set_option Elab.async false
set_option linter.all false
set_option maxRecDepth 100000
set_option maxHeartbeats 1000000
namespace Fn
open PySem PySem.Spec PyProof.Rows L2 L2.DX
end Fn
set_option Elab.async false
set_option linter.all false
set_option maxRecDepth 100000
set_option maxHeartbeats 1000000
namespace Fn
open PySem PySem.Spec PyProof.Rows L2 L2.DX
end Fn
set_option Elab.async false
set_option linter.all false
set_option maxRecDepth 100000
set_option maxHeartbeats 2000000
namespace Fn
open PySem PySem.Spec PyProof.Rows L2
/-- what a def promises there -/
structure FnG (P : Program) (w : World) (K : PySem.W.Frag) (mg : Str → Option Value) (base : Heap) (CX : CXT) (k : Nat) (f : Addr) (fd : FuncData) (ps : List Str) (sp : Sp) : Prop where
  len : ∀ vs H Q E, sp vs H Q E → vs.length = ps.length
  run : ∀ (A : Around) (outer : List PySem.Env) (s : Shared) (H : Hp) (args : Args) (us : List Value) (vs : List V) (Q : VK) (E : XK), A.guards = some [] → Room k A → Env0 P w K mg base A outer s H → BindsTo s fd args (ps.zip us) → Vals vs us → sp vs H Q E →
    codeAny (model P w) A (.call (.ref f) args) (CR CX outer P w H s Q E) s
section
variable {P : Program} {w : World} {K : PySem.W.Frag} {mg : Str → Option Value} {base : Heap} {CX : CXT} {j k : Nat} {f : Addr} {fd : FuncData} {ps : List Str} {sp sp' : Sp}
theorem FnG.of (F : FnOk P w K mg base CX k f fd ps sp) : FnG P w K mg base CX k f fd ps sp := ⟨F.len, fun A outer s H args us vs Q E _ hr => F.run A outer s H args us vs Q E hr⟩
theorem FnG.imp (F : FnG P w K mg base CX k f fd ps sp) (h : ∀ vs H Q E, sp' vs H Q E → sp vs H Q E) : FnG P w K mg base CX k f fd ps sp' :=
  ⟨fun vs H Q E q => F.len vs H Q E (h _ _ _ _ q), fun A outer s H args us vs Q E hg hr he hb hv hs => F.run A outer s H args us vs Q E hg hr he hb hv (h _ _ _ _ hs)⟩
/-- a def by its body -/
theorem fn_ofG {name qual : Str} {params : Arguments} {body : List Stmt} {scope : Scope} {dV kV doc pm cdv ct oc : Value} {an od : Option Addr} {osl : Array (Option Value)} {N : List Str}
    (lk : K.lookup f = some ⟨oc, od, .func (PySem.W.fnOf name qual params body scope dV kV doc pm an cdv ct), osl⟩) (hcd : PySem.W.codeIn K cdv qual = true) (S : FnScope N ps scope)
    (len : ∀ vs H Q E, sp vs H Q E → vs.length = ps.length)
    (hbody : ∀ (A : Around) (outer : List PySem.Env) (s : Shared) (H : Hp) (vs : List V) (Q : VK) (E : XK), A.guards = some [] → Room k (A.deeper (envOfC qual scope s.heap.objs.size f cdv)) → sp vs H Q E →
      ∃ t, PSs (cxOf CX P w K mg base N qual scope f cdv A outer s H E) body t ∧ t { nx := fun _ H' => Q .non H', rt := Q } (L2.start N vs) H) :
    FnG P w K mg base CX (k + 1) f (PySem.W.fnOf name qual params body scope dV kV doc pm an cdv ct) ps sp := by
  refine ⟨len, fun A outer s H args us vs Q E hgd hr e0 hb r hsp => ?_⟩
  have sees : ∀ {b : Addr} {o : Obj}, base.get? b = some o → s.heap.get? b = some o := fun {b o} e => (e0.bs b o e).1
  have KX : K.In s.heap := e0.mod.kin.keeps fun b o e => sees e
  have lim : s.heap.NoLimit := e0.mod.nolimit.keeps fun b o e => sees e
  have place : ∀ y ∈ ps.zip us, scope.names.lookup y.1 = some .local ∨ (scope.names.lookup y.1 = some .cell ∧ ((cellsFrom (s.heap.objs.size + 1) scope.names []).lookup y.1).isSome = true) := fun y hy => by
    obtain ⟨n, v⟩ := y
    exact (S.par n (List.of_mem_zip hy).1).imp id fun q => ⟨q, PySem.W.cellsFrom_some _ _ _ (.inl q)⟩
  refine codeAny_call_function hr.depth (KX _ _ lk) rfl S.co S.gen rfl (PySem.W.codeRec_of KX hcd) (hb _ _ _ _ (wpAny_newFunctionEnv_cells S.kind place fun env he s1 x => ?_))
  subst he
  refine ⟨lim.keeps x.toInCall.keep, codeAny_func ?_⟩
  obtain ⟨t, ht, hq⟩ := hbody A outer s H vs Q E hgd (hr.deeper _) hsp
  refine wpAny_mono (ht.run [] s1 (L2.start N vs) H _ (inv_start S hr.hd e0 (len _ _ _ _ hsp) r x) hq) (fun fl s' hs => ?_) fun _ _ hs => hs
  cases fl with
  | ret u => obtain ⟨v, σ', H', J, rv, q⟩ := hs; exact ⟨v, H', J.os, J.bare, J.base, J.hok, rv, q⟩
  | next => obtain ⟨σ', H', J, q⟩ := hs; exact ⟨.non, H', J.os, J.bare, J.base, J.hok, rfl, q⟩
  | brk => obtain ⟨_, _, _, q⟩ := hs; exact q.elim
  | cont => obtain ⟨_, _, _, q⟩ := hs; exact q.elim
theorem fn_defG {x qual : Str} {st : Stmt} {N : List Str} {g : FD} {B : FS} {cl : Nat → Addr} (F : Fun K x qual st f fd) (S : FnScope N ps (defScope st))
    (hbody : ∀ (cdv : Value) (A : Around) (outer : List PySem.Env) (s : Shared) (H : Hp) (E : XK), A.guards = some [] → Room k (A.deeper (envOfC qual (defScope st) s.heap.objs.size f cdv)) →
      PSs (cxOf CX0 P w K mg base N qual (defScope st) f cdv A outer s H E).nox (defBody st) (tS ⟨K, cl, w⟩ E B))
    (href : ∀ ds M, ds.length = ps.length → Ref M (g ds M) (B (envStart N.length ds) M)) : FnG P w K mg base CX0 (k + 1) f fd ps (spOf ⟨K, cl, w⟩ ps.length g) := by
  obtain ⟨oc, od, kV, doc, pm, an, cdv, ct, osl, rfl, lk, hcd⟩ := F.ex
  refine fn_ofG lk hcd S (fun vs H Q E ⟨W, M, ds, m, r, hl, _⟩ => by rw [r.len, hl]) fun A outer s H vs Q E hgd hr ⟨W, M, ds, m, r, hl, p⟩ => ?_
  exact ⟨_, (hbody cdv A outer s H E hgd hr).nox, W, envStart N.length ds, M, ⟨m, envStart_ok r⟩, href ds M hl _ W H Q E m p⟩
end
end Fn
set_option Elab.async false
set_option linter.all false
set_option maxRecDepth 100000
set_option maxHeartbeats 2000000
namespace Fn
open PySem PySem.Spec PyProof.Rows L2
/-- the law's call at the top: no guards there -/
theorem law_callG {P : Program} {w : World} {K : PySem.W.Frag} {mg mb : Str → Option Value} {CX : CXT} {k : Nat} {fa a : Addr} {fd : FuncData} {x : Str} {sp : Sp} {s₁ : Shared} {vs : List Value} {ns : List Int}
    (KX : K.In s₁.heap) (hns : s₁.heap.Ns mainGlobals mg) (hb : s₁.heap.Ns builtinsNs mb) (hbb : ∀ x : Str, x ≠ "__name__" → mb x = bootBuiltins x) (hlim : s₁.heap.NoLimit) (hg : s₁.gens = #[])
    (ha : s₁.heap.get? a = some { cls := .type "list", data := .seq vs.toArray }) (hi : IntsAre vs ns) (hl : ns.length ≤ sizeLine) (hr : Room k callerA)
    (F : ∀ base : Heap, K.In base → base.Ns mainGlobals mg → FnG P w K mg base CX k fa fd [x] sp) (hbind : ∀ (s : Shared) (u : Value), BindsTo s fd ⟨[u], []⟩ [(x, u)])
    (hsp : ∀ H : Hp, Only H → SqL K H a (ns.map V.int) → sp [.ref a] H (fun v _ => v = .bl true) fun _ _ _ => False)
    (hCX : ∀ H e s', CX [] H s₁ (fun _ _ _ => False) e s' → False) :
    codeAny (model P w) callerA (.call (.ref fa) ⟨[.ref a], []⟩) (fun r s' => r = .ok (.ret (.bool true)) ∧ OldK s₁.heap s'.heap ∧ s'.os = s₁.os ∧ AllBare s'.gens) s₁ := by
  -- what is tracked: the script alone, if it is none of the module's own
  obtain ⟨H, hO, hS, hok, hA, hK⟩ : ∃ H : Hp, Only H ∧ SqL K H a (ns.map V.int) ∧ HOk P w H s₁.heap ∧ (∀ b, H b ≠ none → b = a) ∧ (H a ≠ none → K.lookup a = none) := by
    cases hk : K.lookup a with
    | some o =>
      have e := KX a o hk
      rw [ha] at e
      cases e
      exact ⟨fun _ => none, fun _ => .inl rfl, .inr ⟨_, vs.toArray, _, hk, rfl, rfl, rfl, by rw [List.size_toArray, hi.length]; exact hl, by simpa using vals_ints hi⟩, fun b u z => (by cases z), fun b z => absurd rfl z, fun z => absurd rfl z⟩
    | none =>
      refine ⟨fun b => if b = a then some (.frz { cls := .type "list", data := .seq vs.toArray } (.lst (ns.map V.int))) else none, fun b => ?_, .inl (.inr ⟨_, if_pos rfl⟩), fun b u z => ?_, fun b z => ?_, fun _ => rfl⟩
      · by_cases h : b = a
        · exact .inr ⟨_, _, if_pos h⟩
        · exact .inl (if_neg h)
      · by_cases h : b = a
        · have z' := (if_pos h).symm.trans z
          cases z'
          subst h
          exact ⟨ha, by rw [List.length_map]; exact hl, vs, _, vals_ints hi, ha⟩
        · cases (if_neg h).symm.trans z
      · exact Classical.byContradiction fun h => z (if_neg h)
  have dictNone : ∀ {b : Addr} {o : Obj} {es : Array DictEntry} {ep : Nat}, s₁.heap.get? b = some o → o.data = .dict es ep → H b = none := fun {b o es ep} e d => Classical.byContradiction fun q => by
    rw [hA b q, ha] at e
    cases e
    cases d
  have ns' : ∀ {b : Addr} {m : Str → Option Value}, s₁.heap.Ns b m → (hidT s₁.heap H).Ns b m := fun {b m} ⟨o, es, ep, e, d, r⟩ => ⟨o, es, ep, hidT_get e (dictNone e d), d, r⟩
  have kin : K.In (hidT s₁.heap H) := fun b o e => hidT_get (KX b o e) (Classical.byContradiction fun q => by
    have h := hA b q
    subst h
    rw [hK q] at e
    cases e)
  obtain ⟨mc, m1, m2⟩ := hlim
  have e0 : Env0 P w K mg (hidT s₁.heap H) callerA [] s₁ H :=
    ⟨rfl, ⟨kin, ns' hns, ⟨mb, ns' hb, hbb⟩, mc, ns' m1, m2⟩, fun b o e => of_hidT e, Nat.le_of_eq (hidT_size _ _), trivial, fun b hb => absurd (show b ∈ ([] : List Addr) from hb) (by simp), hok, .of_eq hg⟩
  refine codeAny_mono ((F _ kin (ns' hns)).run callerA [] s₁ H ⟨[.ref a], []⟩ [.ref a] [.ref a] _ _ rfl hr e0 (hbind s₁ (.ref a)) (.cons rfl .nil) (hsp H hO hS)) fun r s' h => ?_
  cases r with
  | error e => exact (hCX H e s' h).elim
  | ok fl =>
    cases fl with
    | next => exact h.elim
    | brk => exact h.elim
    | cont => exact h.elim
    | ret u =>
      obtain ⟨v, H', os, bare, un, hok', r', q⟩ := h
      have q' : v = .bl true := q
      subst q'
      obtain rfl : u = Value.bool true := r'
      refine ⟨rfl, OldK.of_keep fun b o e => ?_, os, bare⟩
      rcases hO b with z | ⟨ob, xs, z⟩
      · exact un.keep b o e z (by intro y; exact absurd (show b ∈ ([] : List Addr) from y) (by simp)) (by simp)
      · have e1 := (hok b _ z).1
        rw [e] at e1
        cases e1
        exact (hok' b _ (un.frzs b _ _ z)).1
theorem walk_ofG {l : PySem.W.OpenLaw} {n k : Nat} {q : Program} {loose : List Str} {XP : (Str → Option Value) → Heap → Prop} {YP : World → Heap → Prop} {d : DefRec} {K : Params → PySem.W.Frag} {CX : World → CXT} {sp : World → Sp} {x : Str}
    (hn : l.most = some n) (hn2 : n ≤ sizeLine) (hdf : d.params.defaults = []) (hr : Room k callerA)
    (hY : ∀ (w : World) (h : Heap), YP w h → (K w.params).In h)
    (F : ∀ (w : World) (mg : Str → Option Value) (fa : Addr) (h : Heap), (K w.params).In h → h.Ns mainGlobals mg → mg d.name = some (.ref fa) →
      ∃ fd : FuncData, (∀ (s : Shared) (u : Value), BindsTo s fd ⟨[u], []⟩ [(x, u)]) ∧
        ∀ base : Heap, (K w.params).In base → base.Ns mainGlobals mg → FnG l.prog w (K w.params) mg base (CX w) k fa fd [x] (sp w))
    (hsp : ∀ (w : World) (H : Hp) (a : Addr) (ns : List Int), ns.length ≤ n → Only H → SqL (K w.params) H a (ns.map V.int) → sp w [.ref a] H (fun v _ => v = .bl true) fun _ _ _ => False)
    (hCX : ∀ (w : World) (H : Hp) (s : Shared) (e : Value) (s' : Shared), CX w [] H s (fun _ _ _ => False) e s' → False) :
    PySem.W.WalkO q loose XP YP l.row.toRowW d [] (fun f vs => PySem.call f vs) := by
  refine Att.attach_call hn hdf fun w s₀ s₁ mg mb fa o pm cd doc a vs ns G Y ho hd hcd hmg hobj hints hlen hg => ?_
  have KX := hY w _ Y
  obtain ⟨fd, hb, hF⟩ := F w mg fa _ KX G.T.g hmg
  exact law_callG KX G.T.g G.T.b G.T.builtins G.T.nolimit hg hobj hints (Nat.le_trans hlen hn2) hr hF hb (fun H hO hS => hsp w H a ns hlen hO hS) fun H e s' => hCX w H s₁ e s'
end Fn
set_option Elab.async false
set_option linter.all false
set_option maxRecDepth 100000
set_option maxHeartbeats 1000000
namespace Fn
open PySem PySem.Spec PyProof.Rows L2
def keyP : Key → PyData
  | .inl i => .int i
  | .inr x => .str x
mutual
inductive Dq (K : PySem.W.Frag) (H : Hp) : V → PyData → Prop
  | non : Dq K H .non .none
  | bl (b : Bool) : Dq K H (.bl b) (.bool b)
  | int (i : Int) : Dq K H (.int i) (.int i)
  | str (x : Str) : Dq K H (.str x) (.str x)
  | lst {a : Addr} {xs : List V} {ds : List PyData} : SqL K H a xs → DqAll K H xs ds → Dq K H (.ref a) (.list ds)
  | tup {a : Addr} {xs : List V} {ds : List PyData} : SqT K H a xs → DqAll K H xs ds → Dq K H (.ref a) (.tuple ds)
  | dct {a : Addr} {kvs : List (Key × V)} {ds : List (PyData × PyData)} : H a = some (.dK kvs) → DqKv K H kvs ds → Dq K H (.ref a) (.dict ds)
inductive DqAll (K : PySem.W.Frag) (H : Hp) : List V → List PyData → Prop
  | nil : DqAll K H [] []
  | cons {v : V} {vs : List V} {d : PyData} {ds : List PyData} : Dq K H v d → DqAll K H vs ds → DqAll K H (v :: vs) (d :: ds)
inductive DqKv (K : PySem.W.Frag) (H : Hp) : List (Key × V) → List (PyData × PyData) → Prop
  | nil : DqKv K H [] []
  | cons {k : Key} {v : V} {vs : List (Key × V)} {d : PyData} {ds : List (PyData × PyData)} : Dq K H v d → DqKv K H vs ds → DqKv K H ((k, v) :: vs) ((keyP k, d) :: ds)
end
mutual
/-- no list in it -/
def noL : PyData → Bool
  | .list _ => false
  | .tuple xs => noLAll xs
  | .dict kvs => noLKv kvs
  | _ => true
def noLAll : List PyData → Bool
  | [] => true
  | x :: xs => noL x && noLAll xs
def noLKv : List (PyData × PyData) → Bool
  | [] => true
  | (_, v) :: r => noL v && noLKv r
end
section
variable {X : Cx} {pins : List (Addr × Obj)} {σ : L2.St} {H : Hp} {s : Shared}
theorem pairs_reads {P : Program} {w : World} {h : Heap} : ∀ {es : List DictEntry} {ws : List (Key × Value)}, Pairs (mixKind P w) es ws → ReadsAll h (es.map (·.key)) (ws.map fun kv => keyP kv.1) [] ∧ es.map (·.val) = ws.map (·.2)
  | [], _, .nil => ⟨.nil, rfl⟩
  | e :: es, (k, v) :: ws, .cons h1 h2 h3 => by
    obtain ⟨i1, i2⟩ := pairs_reads h3
    have h1 : keyIs k e.key = true := h1
    refine ⟨?_, by rw [List.map_cons, List.map_cons, i2, h2]⟩
    rcases keyIs_shape h1 with ⟨i, t, e1, e2⟩ | ⟨x, t, e1, e2⟩
    · subst e1
      rw [List.map_cons, e2]
      exact ReadsAll.cons (as := []) (bs := []) (.int i t) i1
    · subst e1
      rw [List.map_cons, e2]
      exact ReadsAll.cons (as := []) (bs := []) (.str x t) i1
mutual
theorem Dq.reads (I : Inv X pins σ H s) : ∀ (d : PyData) (v : V) (u : Value), Dq X.K H v d → RelV v u → ∃ as, Reads s.heap u d as ∧ (noL d = true → sysModules ∉ as)
  | .none, _, _, h, r => by cases h; cases r; exact ⟨_, .none, fun _ => by simp⟩
  | .bool b, _, _, h, r => by cases h; cases r; exact ⟨_, .bool b, fun _ => by simp⟩
  | .int i, _, _, h, r => by cases h; obtain ⟨t, rfl⟩ := r; exact ⟨_, .int i t, fun _ => by simp⟩
  | .str x, _, _, h, r => by cases h; obtain ⟨t, rfl⟩ := r; exact ⟨_, .str x t, fun _ => by simp⟩
  | .list ds, _, _, h, r => by
    cases h with
    | lst hs ha =>
      cases r
      obtain ⟨its, rv, ⟨o, n, ho, hc, _, hd⟩, _⟩ := I.list hs
      obtain ⟨as, hr, _⟩ := Dq.readsAll I ds _ its ha rv
      exact ⟨_, .list ho hc hd hr, fun z => by simp [noL] at z⟩
  | .tuple ds, _, _, h, r => by
    cases h with
    | tup hs ha =>
      cases r
      obtain ⟨its, rv, ⟨o, ho, hc, n, hd⟩, _⟩ := I.tuple hs
      obtain ⟨as, hr, hm⟩ := Dq.readsAll I ds _ its ha rv
      exact ⟨_, .tuple ho hc hd hr, fun z => hm (by simpa only [noL] using z)⟩
  | .dict ds, _, _, h, r => by
    cases h with
    | dct hs ha =>
      cases r
      obtain ⟨_, hsys, ws, kv, o, es, ep, ho, hx, hdt, _, hp, _⟩ := I.hok _ _ hs
      obtain ⟨p1, p2⟩ := pairs_reads (h := s.heap) hp
      obtain ⟨as, hr, hm, hk⟩ := Dq.readsKv I ds _ ws ha kv
      rw [hk] at p1
      rw [← p2] at hr
      refine ⟨_, .dict ho hx.1 hdt p1 hr, fun z => ?_⟩
      have hm := hm (by simpa only [noL] using z)
      simp only [List.append_nil, List.cons_append, List.nil_append, List.mem_cons, not_or]
      exact ⟨fun e => by rw [← e] at hsys; simp at hsys, hm⟩
theorem Dq.readsAll (I : Inv X pins σ H s) : ∀ (ds : List PyData) (vs : List V) (us : List Value), DqAll X.K H vs ds → Vals vs us → ∃ as, ReadsAll s.heap us ds as ∧ (noLAll ds = true → sysModules ∉ as)
  | [], _, _, h, r => by cases h; cases r; exact ⟨_, .nil, fun _ => by simp⟩
  | d :: ds, _, _, h, r => by
    cases h with
    | cons h1 h2 =>
      cases r with
      | cons r1 r2 =>
        obtain ⟨as, q1, m1⟩ := Dq.reads I d _ _ h1 r1
        obtain ⟨bs, q2, m2⟩ := Dq.readsAll I ds _ _ h2 r2
        refine ⟨_, .cons q1 q2, fun z => ?_⟩
        simp only [noLAll, Bool.and_eq_true] at z
        rw [List.mem_append, not_or]
        exact ⟨m1 z.1, m2 z.2⟩
theorem Dq.readsKv (I : Inv X pins σ H s) : ∀ (ds : List (PyData × PyData)) (vs : List (Key × V)) (us : List (Key × Value)), DqKv X.K H vs ds → KV vs us → ∃ as, ReadsAll s.heap (us.map (·.2)) (ds.map (·.2)) as ∧ (noLKv ds = true → sysModules ∉ as) ∧ (us.map fun kv => keyP kv.1) = ds.map (·.1)
  | [], _, _, h, r => by cases h; cases r; exact ⟨_, .nil, fun _ => by simp, rfl⟩
  | (_, d) :: ds, _, _, h, r => by
    cases h with
    | cons h1 h2 =>
      cases r with
      | cons r1 r2 =>
        obtain ⟨as, q1, m1⟩ := Dq.reads I d _ _ h1 r1.2
        obtain ⟨bs, q2, m2, k2⟩ := Dq.readsKv I ds _ _ h2 r2
        refine ⟨_, .cons q1 q2, fun z => ?_, by rw [List.map_cons, List.map_cons, k2, ← r1.1]⟩
        simp only [noLKv, Bool.and_eq_true] at z
        rw [List.mem_append, not_or]
        exact ⟨m1 z.1, m2 z.2⟩
end
end
/-- what may be shown -/
def showOk (p : PyData) : Prop := p.showable = true ∧ p.leavesShort 13 = true ∧ p.weight ≤ 2 ^ 20 ∧ p.depth ≤ 60 ∧ (p.hasDict = true → noL p = true)
instance (p : PyData) : Decidable (showOk p) := by unfold showOk; infer_instance
def rRepr (K : PySem.W.Frag) : List V → Hp → VK → Prop := fun xs H Q => ∃ x d, xs = [x] ∧ Dq K H x d ∧ showOk d ∧ Q (.str d.shown) H
theorem cr_repr {X : Cx} (hgd : X.A.guards = some []) (hu : X.A.units + 64 < cLine) : CallR X (.builtin "repr") (rRepr X.K) := by
  intro pins s σ H xs us Q I r h
  obtain ⟨x, d, rfl, hd, ⟨hs, hl, hw, hdp, hn⟩, q⟩ := h
  obtain ⟨u, rfl, ru⟩ := vals1 r
  have hz := PyData.shown_fits (B := 13) (by omega) (by omega) hl hw
  cases hd with
  | non =>
    cases ru
    exact PySem.P.repr_of_none ⟨.str _, H, I.tok _, ⟨_, rfl⟩, q⟩
  | bl b =>
    cases ru
    exact PySem.P.repr_of_bool ⟨.str _, H, I.tok _, ⟨_, rfl⟩, q⟩
  | int i =>
    obtain ⟨t, rfl⟩ := ru
    exact PySem.P.repr_of_int (by simpa [PyData.showable] using hs) ⟨.str _, H, I.tok _, ⟨_, rfl⟩, q⟩
  | str y =>
    obtain ⟨t, rfl⟩ := ru
    exact PySem.P.repr_of_str ⟨.str _, H, I.tok _, ⟨_, rfl⟩, q⟩ hz
  | lst h1 h2 =>
    cases ru
    obtain ⟨as, hr, hm⟩ := Dq.reads I _ _ _ (.lst h1 h2) rfl
    exact repr_of_reads' hr hs (fun z => hm (hn z)) hgd (by omega) (fun _ _ e => e) (fun h' t tk k => ⟨.str _, H, I.kept (t' := tk) k, ⟨t, rfl⟩, q⟩) hz
  | tup h1 h2 =>
    cases ru
    obtain ⟨as, hr, hm⟩ := Dq.reads I _ _ _ (.tup h1 h2) rfl
    exact repr_of_reads' hr hs (fun z => hm (hn z)) hgd (by omega) (fun _ _ e => e) (fun h' t tk k => ⟨.str _, H, I.kept (t' := tk) k, ⟨t, rfl⟩, q⟩) hz
  | dct h1 h2 =>
    cases ru
    obtain ⟨as, hr, hm⟩ := Dq.reads I _ _ _ (.dct h1 h2) rfl
    exact repr_of_reads' hr hs (fun z => hm (hn z)) hgd (by omega) (fun _ _ e => e) (fun h' t tk k => ⟨.str _, H, I.kept (t' := tk) k, ⟨t, rfl⟩, q⟩) hz
def keyPK : KK → PyData
  | .inl i => .int i
  | .inr x => .str (l2s x)
def kvGo (k : Nat → Option PyData) : List (KK × D) → Option (List (PyData × PyData))
  | [] => some []
  | (c, d) :: r => match pyGo k d, kvGo k r with
    | some a, some b => some ((keyPK c, a) :: b)
    | _, _ => none
/-- a cell that holds a list or a dict, to the depth n -/
def kR (M : Mem) : Nat → Nat → Option PyData
  | 0, _ => none
  | n + 1, i => match M[i]? with
    | some (.lst l) => (pyGoL (kR M n) l).map .list
    | some (.dk false kvs) => (kvGo (kR M n) kvs).map .dict
    | _ => none
def pyR (M : Mem) (d : D) : Option PyData := pyGo (kR M 4) d
section
variable {G : Gx} {W : Wd} {H : Hp} {M : Mem} {E : XK}
mutual
theorem pyGo_q {k : Nat → Option PyData} (hk : ∀ i a p, W.as[i]? = some a → k i = some p → Dq G.K H (.ref a) p) : ∀ {d : D} {u : V} {p : PyData}, Rp G W H d u → pyGo k d = some p → Dq G.K H u p
  | .non, u, p, r, e => by cases r; cases e; exact .non
  | .bl b, u, p, r, e => by cases r; cases e; exact .bl b
  | .int i, u, p, r, e => by cases r; cases e; exact .int i
  | .str x, u, p, r, e => by cases r; cases e; exact .str _
  | .tup l, u, p, r, e => by
    obtain ⟨a, us, e1, s1, r1⟩ := r
    subst e1
    simp only [pyGo] at e
    cases q : pyGoL k l with
    | none => rw [q] at e; cases e
    | some ps => rw [q] at e; cases e; exact .tup s1.sq (pyGoL_q hk r1 q)
  | .ct l, u, p, r, e => by
    obtain ⟨a, us, e1, s1, r1⟩ := r
    subst e1
    simp only [pyGo] at e
    cases q : pyGoL k l with
    | none => rw [q] at e; cases e
    | some ps => rw [q] at e; cases e; exact .tup s1.sq (pyGoL_q hk r1 q)
  | .lst l, u, p, r, e => by
    obtain ⟨a, us, e1, s1, r1⟩ := r
    subst e1
    simp only [pyGo] at e
    cases q : pyGoL k l with
    | none => rw [q] at e; cases e
    | some ps => rw [q] at e; cases e; exact .lst (.inl (.inl s1.1)) (pyGoL_q hk r1 q)
  | .fz l, u, p, r, e => by
    obtain ⟨a, us, e1, s1, r1⟩ := r
    subst e1
    simp only [pyGo] at e
    cases q : pyGoL k l with
    | none => rw [q] at e; cases e
    | some ps =>
      rw [q] at e; cases e
      exact .lst (s1.elim (fun z => .inl (.inr z)) .inr) (pyGoL_q hk r1 q)
  | .ref i, u, p, r, e => by
    obtain ⟨a, h1, rfl⟩ := r
    exact hk i a p h1 e
theorem pyGoL_q {k : Nat → Option PyData} (hk : ∀ i a p, W.as[i]? = some a → k i = some p → Dq G.K H (.ref a) p) : ∀ {l : List D} {us : List V} {ps : List PyData}, RpL G W H l us → pyGoL k l = some ps → DqAll G.K H us ps
  | [], us, ps, r, e => by have : us = [] := r; subst this; cases e; exact .nil
  | d :: l, us, ps, r, e => by
    obtain ⟨u, us', e1, r1, r2⟩ := r
    subst e1
    simp only [pyGoL] at e
    split at e
    · rename_i a b h1 h2
      cases e
      exact .cons (pyGo_q hk r1 h1) (pyGoL_q hk r2 h2)
    · cases e
end
theorem kvGo_q {k : Nat → Option PyData} (hk : ∀ i a p, W.as[i]? = some a → k i = some p → Dq G.K H (.ref a) p) : ∀ {kvs : List (KK × D)} {vs : List (Key × V)} {ps : List (PyData × PyData)}, RpK G W H kk kvs vs → kvGo k kvs = some ps → DqKv G.K H vs ps
  | [], _, ps, .nil, e => by cases e; exact .nil
  | (c, d) :: l, (c', v) :: vs, ps, .cons h t, e => by
    simp only [kvGo] at e
    split at e
    · rename_i a b h1 h2
      cases e
      have hc : kk c = c' := h.1
      have : keyPK c = keyP c' := by rw [← hc]; cases c <;> rfl
      rw [this]
      exact .cons (pyGo_q hk h.2 h1) (kvGo_q hk t h2)
    · cases e
theorem kR_q (m : MemOk G W H M) : ∀ (n i : Nat) (a : Addr) (p : PyData), W.as[i]? = some a → kR M n i = some p → Dq G.K H (.ref a) p
  | 0, i, a, p, e1, e => by cases e
  | n + 1, i, a, p, e1, e => by
    simp only [kR] at e
    split at e
    · rename_i l hc
      obtain ⟨us, h1, h2⟩ := m.cell i _ a hc e1
      cases q : pyGoL (kR M n) l with
      | none => rw [q] at e; cases e
      | some ps => rw [q] at e; cases e; exact .lst (.inl (.inl h1)) (pyGoL_q (kR_q m n) h2 q)
    · rename_i kvs hc
      obtain ⟨vs, h1, h2⟩ := m.cell i _ a hc e1
      have h1 : H a = some (.dK vs) := h1
      cases q : kvGo (kR M n) kvs with
      | none => rw [q] at e; cases e
      | some ps => rw [q] at e; cases e; exact .dct h1 (kvGo_q (kR_q m n) h2 q)
    · cases e
def oRepr : List D → Mem → R D
  | [d], M => match pyR M d with
    | some p => if showOk p then .ok (.str p.shown.cps.toList) M else .no
    | none => .no
  | _, _ => .no
theorem fn_repr : Fn1 G E (rRepr G.K) oRepr := fun W H M ds us Q m r p => by
  unfold oRepr at p
  split at p
  · rename_i d
    obtain ⟨u, e1, r1⟩ := rp_one r
    subst e1
    split at p
    · rename_i q e
      split at p
      · rename_i hs
        refine ⟨u, q, rfl, pyGo_q (kR_q m 4) r1 e, hs, p.here m _ ?_⟩
        show V.str q.shown = V.str (l2s q.shown.cps.toList)
        rfl
      · exact p.elim
    · exact p.elim
  · exact p.elim
end
end Fn
set_option Elab.async false
set_option linter.all false
set_option maxRecDepth 100000
set_option maxHeartbeats 1000000
namespace Fn
open PySem PySem.Spec PyProof.Rows L2 L2.DX
section
variable {X : Cx} {G : Gx} {cl : Nat → Addr} {E : XK} {W : Wd} {H H' : Hp} {M : Mem} {e : Expr} {fe : FE}
theorem keyK_kV {k : D} {c : KK} {u : V} (h : keyK k = some c) (r : Rp G W H k u) : u = kV (kk c) := by
  cases k <;> first
    | (cases h; done)
    | (cases h; exact r)
def mrgA (acc ps : List (KK × D)) : List (KK × D) := ps.foldl (fun acc kv => pA acc kv.1 kv.2) acc
theorem mrg_ok : ∀ {ps : List (KK × D)} {vs : List (Key × V)} {acc : List (KK × D)} {acc' : List (Key × V)}, RpK G W H kk ps vs → RpK G W H kk acc acc' → RpK G W H kk (mrgA acc ps) (mergeK acc' vs)
  | [], _, _, _, .nil, r => r
  | p :: ps, q :: vs, acc, acc', .cons h t, r => by
    have h2 := rpA_put (fun a b e => kk_inj e) (k := p.1) h.2 r
    rw [h.1] at h2
    show RpK G W H kk (mrgA (pA acc p.1 p.2) ps) (mergeK (putK acc' q.1 q.2) vs)
    exact mrg_ok (ps := ps) (vs := vs) t h2
end
end Fn
set_option Elab.async false
set_option linter.all false
set_option maxRecDepth 100000
set_option maxHeartbeats 1000000
namespace Fn
open PySem PySem.Spec PyProof.Rows L2
section
variable {P : Program} {w : World} {K : PySem.W.Frag} {mg : Str → Option Value} {base : Heap} {CX : CXT} {k : Nat} {f : Addr} {fd : FuncData} {ps : List Str} {cl : Nat → Addr} {n : Nat}
theorem fn_no (hl : ps.length = n) : FnOk P w K mg base CX k f fd ps (spOf ⟨K, cl, w⟩ n fun _ _ => .no) :=
  ⟨fun vs H Q E ⟨W, M, ds, m, r, h, _⟩ => by rw [r.len, h, hl], fun A outer s H args us vs Q E _ _ _ _ ⟨W, M, ds, m, r, h, p⟩ => p.elim⟩
end
end Fn
set_option Elab.async false
set_option linter.all false
set_option maxRecDepth 100000
set_option maxHeartbeats 2000000
namespace Fn
open PySem PySem.Spec PyProof.Rows L2 L2.DX
section
open Sem (wp)
theorem meets_enum1 {v : Value} {o : Obj} {H : Heap → Prop} (B : Begins v o H) :
    Meets (Builtin.«enumerate.__new__» ⟨[.type "enumerate", v], []⟩) (fun _ R s => H s.heap ∧
      R (.ok (.ret (.ref (s.heap.push o).objs.size))) { s with heap := (s.heap.push o).push { cls := .type "enumerate", data := .fields #[.none, .bool false, .ref s.heap.objs.size, rawInt 0, .none, .none] } }) :=
  .of_wp fun prog w A R s h => by
    obtain ⟨hp, g, d, tk, os⟩ := s
    obtain ⟨h1, h⟩ := h
    have hsub := sub_enumerate
    have q1 : ∀ {A' : Around} {E : Value → Shared → Prop} {Q : Value → Shared → Prop}, Q (.ref hp.objs.size) ⟨hp.push o, g, d, tk, os⟩ → wpAny (model prog w) A' (pyIter v) Q E ⟨hp, g, d, tk, os⟩ :=
      fun q => B.iter prog w _ _ ⟨hp, g, d, tk, os⟩ _ h1 q
    wp_walk using q1
    refine wpAny_stack_any fun st => wpAny_pure ?_
    split
    · rename_i c _ _ _ _ _
      cases (c == Value.type "enumerate")
      · wp_walk using q1
        exact ⟨_, rfl, h⟩
      · wp_walk using q1
        exact ⟨_, rfl, h⟩
    · wp_walk using q1
      exact ⟨_, rfl, h⟩
end
section
variable {prog : Program} {w : World} {A : Around} {E : Value → Shared → Prop} {s : Shared}
theorem enum_begin1 {v : Value} {o : Obj} {H : Heap → Prop} {Q : Value → Shared → Prop} (B : Begins v o H) (h1 : H s.heap)
    (h : ∀ h', IsEnum h' (s.heap.objs.size + 1) s.heap.objs.size 0 .none → h'.get? s.heap.objs.size = some o → (∀ b o, s.heap.get? b = some o → h'.get? b = some o) → Q (.ref (s.heap.objs.size + 1)) { s with heap := h' }) :
    wpAny (model prog w) A (call (.type "enumerate") [v]) Q E s := by
  refine callType_new F.called_enumerate (by decide) (F.typeCall_enumerate_1 _) (F.newCall_enumerate_1 _) (fun obj => F.args_object_init_2 obj _) F.entry_enumerate_new (meets_enum1 B) ⟨h1, ?_⟩
  have hz : (s.heap.push o).objs.size = s.heap.objs.size + 1 := Heap.size_push ..
  show _ ∧ _
  rw [hz]
  have he := Heap.get?_push_size (s.heap.push o) (o := { cls := .type "enumerate", data := .fields #[.none, .bool false, .ref s.heap.objs.size, rawInt 0, .none, .none] }) rfl
  rw [hz] at he
  exact ⟨⟨_, he, rfl⟩, h _ he (Heap.get?_push_of_some _ (Heap.get?_push_size _ B.free)) fun b o x => Heap.get?_push_of_some _ (Heap.get?_push_of_some _ x)⟩
end
/-- the tuple at a, each item in a new pair -/
def IteT (K : PySem.W.Frag) (a : Addr) : It :=
  ⟨fun i H => ∃ (xs : List V) (x : V), SqT K H a xs ∧ xs[i]? = some x, fun i H v H' => ∃ T x, v = .ref T ∧ H T = none ∧ H' = upd H T (.tup [.int (i : Nat), x]) ∧ ∀ xs, SqT K H a xs → xs[i]? = some x, fun i H => ∃ xs : List V, SqT K H a xs ∧ xs.length ≤ i⟩
theorem turn_enumT {P : Program} {w : World} {K : PySem.W.Frag} {elts : List Expr} {kk : Nat} {tpos : Pos} (a e it : Addr) (hai : a ≠ it) (hae : a ≠ e) :
    Turn P w K (.Tuple elts kk tpos) (IteT K a) [e, it] e (fun i h => (∃ old, IsEnum h e it ((i : Nat) : Int) old) ∧ h.IsTupleIter it a i ∧ e ≠ it) where
  mem := by simp
  obj := fun i h st b hb => by
    obtain ⟨⟨old, he⟩, ⟨o, ho, hc, hd⟩, _⟩ := st
    rcases (show b = e ∨ b = it by simpa using hb) with z | z
    · rw [z]; exact ⟨_, he, fun v q => nomatch q⟩
    · rw [z]; exact ⟨o, ho, fun v q => by rw [hd] at q; cases q⟩
  keep := fun i h h' st k => let ⟨⟨old, he⟩, hi, hne⟩ := st; ⟨⟨old, k e (by simp) _ he⟩, hi.at fun o q => k it (by simp) o q, hne⟩
  item := by
    intro X hP hw hK hc i pins s σ H E I hf st hg
    subst hP hw hK
    obtain ⟨⟨old, he⟩, hit, hne⟩ := st
    obtain ⟨xs, x, hq, hx⟩ := hg
    obtain ⟨its, rv, p, hz⟩ := I.tuple hq
    obtain ⟨u, hu, ru⟩ := rv.get hx
    have hel : e < s.heap.objs.size := Heap.lt_size he
    have hil : it < s.heap.objs.size := by obtain ⟨_, q, _⟩ := hit; exact Heap.lt_size q
    have hi : i < its.toArray.size := by
      rw [List.size_toArray]
      exact (List.getElem?_eq_some_iff.mp hu).1
    have D := Draws.tuple (prog := X.prog) (w := X.w) (A := X.A.in1) (I.ok.hd hc) it a hai its.toArray
    refine wpAny_pyNext_enum_itemD D he ⟨hit, p⟩ hi hne (by simp; exact ⟨hne, Ne.symm hae⟩) fun x' h' tk hP ho hst' hT hsz hk => ?_
    have hx' : x' = u := by
      have hP : its.toArray[i]? = some x' := hP
      rw [List.getElem?_toArray, hu] at hP
      cases hP; rfl
    subst hx'
    refine ⟨_, rfl, wpAny_letOwnedTupleGo_enum (s := { s with heap := h', toks := tk + 1 }) ho fun h'' he' sb => ?_⟩
    have hT2 : h''.get? s.heap.objs.size = some { cls := .type "tuple", data := .seq #[.int i tk, x'] } := (sb.2 _ (Nat.ne_of_gt hel)).trans hT
    have new : ObjOk X.prog X.w (upd H s.heap.objs.size (.tup [.int (i : Nat), x])) h'' s.heap.objs.size (.tup [.int (i : Nat), x]) :=
      ⟨by show 2 ≤ sizeLine; decide, [.int i tk, x'], .cons ⟨_, rfl⟩ (.cons ru .nil), ⟨_, hT2, rfl, _, rfl⟩⟩
    have I1 : Inv X pins σ (upd H s.heap.objs.size (.tup [.int (i : Nat), x])) { s with heap := h'', toks := tk + 1 } :=
      I.turnedNew (ch := [e, it]) (fun b ob hb q => (sb.2 b (fun z => hb (by simp [z]))).trans (hk b ob (fun z => hb (by simp [z])) (fun z => hb (by simp [z])) q)) hf (Nat.le_refl _) new
    refine ⟨.ref s.heap.objs.size, _, I1, rfl, ⟨_, x, rfl, I.hok.fresh (Nat.le_refl _), rfl, fun ys hy => by rw [I.tuple_inj hy hq]; exact hx⟩, ⟨⟨x', ?_⟩, hst'.1.at fun o q => (sb.2 it (Ne.symm hne)).trans q, hne⟩, fun b hb => ?_⟩
    · rw [show ((i + 1 : Nat) : Int) = (i : Int) + 1 by omega]; exact he'
    · have hb' : b < s.heap.objs.size := by
        rcases (show b = e ∨ b = it by simpa using hb) with z | z
        · rw [z]; exact hel
        · rw [z]; exact hil
      rw [upd_ne (Nat.ne_of_lt hb')]
      exact (hf b hb).1
  done := by
    intro X hP hw hK hc i pins s σ H E I hf st hg
    subst hP hw hK
    obtain ⟨⟨old, he⟩, hit, hne⟩ := st
    obtain ⟨xs, hq, hx⟩ := hg
    obtain ⟨its, rv, p, hz⟩ := I.tuple hq
    obtain ⟨f0, f1, f2, f3, f4, f5⟩ := hf it (by simp)
    have hl := rv.length
    have hd : (X.A.in1).handled = none := I.ok.hd hc
    unfold pyNext
    have hTT : s.TypeIs (.ref e) "enumerate" := ⟨_, he, rfl⟩
    refine wpAny_bind (wpAny_attempt (wpAny_callSpecial?_slot (name := Str.ofString "__next__") hTT F.slot_enumerate_next
      (wpAny_call_entry F.slot_enumerate_next hTT F.entry_enumerate_next ?_ (F.args_enumerate_next_1 _))))
    show wpAny _ _ (field (.ref e) 2 >>= _) _ _ _
    refine wpAny_bind (wpAny_field he rfl (x := .ref it) rfl ?_)
    refine wpAny_bind (RZ.nextOf_tuple_end hd hit (show s.heap.IsTuple a its.toArray from p) (by simp; omega) fun h' x he' hx' => ?_)
    obtain ⟨o, ho, hcl⟩ := hx'
    refine wpAny_bind (wpAny_isInstance (T := "StopIteration") (b := true) ⟨o, ho, hcl⟩ isSubtype_stop ?_)
    exact wpAny_pure ⟨rfl, I.turned (t' := s.toks) (fun b o hb q => he' b o hb q) f0 f1 f3 f4 f5⟩
  self := fun A i s Q E st h => let ⟨⟨_, he⟩, _⟩ := st; wpAny_pyIter_enum he h
def iEnumT (K : PySem.W.Frag) (ta : TA) : TI := fun σ H R => ta σ H fun vs H1 => ∃ a xs, vs = [.ref a] ∧ ((SqL K H1 a xs ∧ R (Ite K a) H1) ∨ (SqT K H1 a xs ∧ R (IteT K a) H1))
theorem pi_enumA {X : Cx} {e : Expr} {ta : TA} {p pos tpos : Pos} {elts : List Expr} {kk : Nat} (hg : Gl X "enumerate") (hm : X.mg "enumerate" = none) (ha : PA X [e] ta) (hs : starEach [e] X.env = [(false, eval e X.env)] := by rfl) :
    PI X (.Tuple elts kk tpos) (.Call (.Name "enumerate" p) [e] [] pos) (iEnumT X.K ta) := by
  refine ⟨fun pins s σ H R I h => ?_⟩
  refine Call_ (ld_blt I hg hm boot_enumerate (PyProof.Rows.callWith_type1 (thn (ha.run pos pins s σ H _ I h) fun us s1 ⟨vs, H1, I1, r1, q1⟩ => ?_) hs rfl))
  obtain ⟨a, xs, ex, q⟩ := q1
  subst ex
  cases r1 with
  | cons r rr =>
    cases rr
    cases r
    have hge : ∀ b, b ∈ [s1.heap.objs.size + 1, s1.heap.objs.size] → s1.heap.objs.size ≤ b := fun b hb => by
      rcases (show b = s1.heap.objs.size + 1 ∨ b = s1.heap.objs.size by simpa using hb) with z | z
      · rw [z]; exact Nat.le_add_right _ _
      · rw [z]; exact Nat.le_refl _
    rcases q with ⟨hq, q⟩ | ⟨hq, q⟩
    · obtain ⟨its, rv, p', hz⟩ := I1.list hq
      refine enum_begin1 (begins_list a its.toArray) p'.isList fun h' he hit hk => wpAny_pyIter_enum he ?_
      have I2 : Inv X pins σ H1 { s1 with heap := h' } := I1.kept (t' := s1.toks) hk
      exact ⟨s1.heap.objs.size + 1, [s1.heap.objs.size + 1, s1.heap.objs.size], _, _, H1, rfl, I2, turn_enum a (s1.heap.objs.size + 1) s1.heap.objs.size, ⟨⟨.none, he⟩, ⟨_, hit, rfl, rfl⟩, Nat.succ_ne_self _⟩, fun b hb => I1.fpOk (hge b hb) (I1.hok.fresh (hge b hb)), q⟩
    · obtain ⟨its, rv, p', hz⟩ := I1.tuple hq
      have hal : a < s1.heap.objs.size := by obtain ⟨_, e0, _⟩ := p'; exact Heap.lt_size e0
      refine enum_begin1 (begins_tuple a its.toArray) p' fun h' he hit hk => wpAny_pyIter_enum he ?_
      have I2 : Inv X pins σ H1 { s1 with heap := h' } := I1.kept (t' := s1.toks) hk
      exact ⟨s1.heap.objs.size + 1, [s1.heap.objs.size + 1, s1.heap.objs.size], _, _, H1, rfl, I2, turn_enumT a (s1.heap.objs.size + 1) s1.heap.objs.size (Nat.ne_of_lt hal) (Nat.ne_of_lt (Nat.lt_succ_of_lt hal)), ⟨⟨.none, he⟩, ⟨_, hit, rfl, rfl⟩, Nat.succ_ne_self _⟩, fun b hb => I1.fpOk (hge b hb) (I1.hok.fresh (hge b hb)), q⟩
section
variable {X : Cx} {G : Gx} {cl : Nat → Addr} {E : XK} {W : Wd} {H : Hp} {M : Mem} {a b c : Expr} {fa fb fc : FE} {pos : Pos}
theorem src_enumT {W0 : Wd} {H0 : Hp} {l : List D} {a : Addr} (h : ∀ W H M, Kp W0 H0 W H → MemOk G W H M → ∃ us, SqT G.K H a us ∧ RpL G W H l us) : SrcOk G W0 H0 ⟨numb l, fun _ => True⟩ (IteT G.K a) where
  item := fun W H M f _ m st i d e => by
    obtain ⟨us, h1, h2⟩ := h W H M f m
    obtain ⟨y, e1, rfl⟩ := numb_get e
    obtain ⟨u, e2, r2⟩ := h2.get e1
    refine ⟨⟨us, u, h1, e2⟩, fun x H' z => ?_⟩
    obtain ⟨T, x', rfl, hT, rfl, hx⟩ := z
    have := hx us h1
    rw [e2] at this; cases this
    exact ⟨Fut.laid hT, m.laid hT, T, _, rfl, .inl upd_same, _, _, rfl, rfl, _, _, rfl, m.rp (Fut.laid hT) r2, rfl⟩
  stop := fun W H M f _ m st => by
    obtain ⟨us, h1, h2⟩ := h W H M f m
    exact ⟨us, h1, by rw [numb_len, h2.len]; exact Nat.le_refl _⟩
end
end Fn
set_option Elab.async false
set_option linter.all false
set_option maxRecDepth 100000
set_option maxHeartbeats 2000000
namespace Fn
open PySem PySem.Spec PyProof.Rows L2 L2.DX
section
variable {X : Cx} {G : Gx} {cl : Nat → Addr} {E : XK} {W : Wd} {H : Hp} {M : Mem} {a b c : Expr} {fa fb fc : FE} {pos : Pos}
def mPairs : List (FE × FE) → Fn.Env → Mem → R (List (D × D))
  | [], _, M => .ok [] M
  | (fk, fv) :: r, env, M => (fk env M).bind fun k m1 => (fv env m1).bind fun v m2 => (mPairs r env m2).bind fun ps m3 => .ok ((k, v) :: ps) m3
def prsK : List (D × D) → Option (List (KK × D))
  | [] => some []
  | (k, v) :: r => match keyK k, prsK r with
    | some c, some ps => some ((c, v) :: ps)
    | _, _ => none
def mDisp (fs : List (FE × FE)) : FE := fun env M => (mPairs fs env (M ++ [.dk false []])).bind fun ps m => match m[M.length]?, prsK ps with
  | some (.dk false []), some kvs => if kvs.length ≤ 15 then .ok (.ref M.length) (m.set M.length (.dk false (mrgA [] kvs))) else .no
  | _, _ => .no
/-- pairs related -/
inductive RpP (G : Gx) (W : Wd) (H : Hp) : List (D × D) → List (V × V) → Prop
  | nil : RpP G W H [] []
  | cons {k v : D} {x y : V} {ps : List (D × D)} {qs : List (V × V)} : Rp G W H k x → Rp G W H v y → RpP G W H ps qs → RpP G W H ((k, v) :: ps) ((x, y) :: qs)
theorem tPairs_of : ∀ (fs : List (FE × FE)) {α : Type} {k : List (D × D) → Mem → R α} {W : Wd} {env : Fn.Env} {M : Mem} {σ : L2.St} {H : Hp} {K : α → Mem → Wd → Hp → Prop} {Q : List (V × V) → Hp → Prop}, Sta G W env M σ H → PR G W H K E ((mPairs fs env M).bind k) →
    (∀ ps m W1 H1 qs, Fut W H W1 H1 → Sta G W1 env m σ H1 → RpP G W1 H1 ps qs → PR G W1 H1 K E (k ps m) → Q qs H1) → tPairs (fs.map fun f => (tE G E f.1, tE G E f.2)) σ H Q
  | [], α, k, W, env, M, σ, H, K, Q, s, p, hq => hq [] M W H [] Fut.rfl' s .nil p
  | (fk, fv) :: r, α, k, W, env, M, σ, H, K, Q, s, p, hq => by
    have p1 : PR G W H K E ((fk env M).bind fun d m1 => (fv env m1).bind fun v m2 => (mPairs r env m2).bind fun ps m3 => k ((d, v) :: ps) m3) := by
      have e : (mPairs ((fk, fv) :: r) env M).bind k = (fk env M).bind fun d m1 => (fv env m1).bind fun v m2 => (mPairs r env m2).bind fun ps m3 => k ((d, v) :: ps) m3 := by
        simp only [mPairs]
        cases fk env M with
        | ok d m1 =>
          simp only [R.bind_ok]
          cases fv env m1 with
          | ok v m2 =>
            simp only [R.bind_ok]
            cases mPairs r env m2 <;> rfl
          | ex c fs m => rfl
          | no => rfl
        | ex c fs m => rfl
        | no => rfl
      rw [← e]; exact p
    refine tE.bind s p1 fun d m1 W1 H1 u f1 s1 r1 p2 => ?_
    refine tE.bind s1 p2 fun v m2 W2 H2 u2 f2 s2 r2 p3 => ?_
    exact tPairs_of r s2 p3 fun ps m W3 H3 qs f3 s3 r3 p4 => hq _ _ W3 H3 _ ((f1.trans f2).trans f3) s3 (.cons (s2.mem.rp f3 (s1.mem.rp f2 r1)) (s2.mem.rp f3 r2) r3) p4
theorem prsK_ok : ∀ {ps : List (D × D)} {qs : List (V × V)} {kvs : List (KK × D)}, RpP G W H ps qs → prsK ps = some kvs → ∃ ws : List (Key × V), qs = ws.map (fun kv => (kV kv.1, kv.2)) ∧ RpK G W H kk kvs ws
  | [], _, kvs, .nil, e => by cases e; exact ⟨[], rfl, .nil⟩
  | (k, v) :: ps, _, kvs, .cons r1 r2 r3, e => by
    simp only [prsK] at e
    split at e
    · rename_i c ps' h1 h2
      cases e
      obtain ⟨ws, rfl, q⟩ := prsK_ok r3 h2
      have ek := keyK_kV h1 r1
      exact ⟨(kk c, _) :: ws, by rw [List.map_cons, ← ek], .cons ⟨rfl, r2⟩ q⟩
    · cases e
theorem sn_disp {keys : List (Option Expr)} {values : List Expr} {fs : List (FE × FE)} (h : PPs X pos keys values (fs.map fun f => (tE G E f.1, tE G E f.2))) (hall : keys.all (·.isSome) = true := by rfl) (hl : keys.length = values.length := by rfl) (h0 : keys ≠ [] := by simp)
    (h15 : keys.length ≤ 15 := by decide) : PE X (.Dict keys values pos) (tE G E (mDisp fs)) := pe_imp (pe_disp h hall hl h0 h15) fun σ H Q ⟨W, env, M, s, p⟩ => by
  intro x hx
  have f0 : Fut W H ⟨W.as ++ [x], W.hd⟩ (upd H x (.dK [])) := Fut.added s.mem hx
  have m0 : MemOk G ⟨W.as ++ [x], W.hd⟩ (upd H x (.dK [])) (M ++ [.dk false []]) := s.mem.added hx ⟨[], upd_same, .nil⟩
  have p' : PR G ⟨W.as ++ [x], W.hd⟩ (upd H x (.dK [])) (PV G Q) E ((mPairs fs env (M ++ [.dk false []])).bind fun ps m => match m[M.length]?, prsK ps with
    | some (.dk false []), some kvs => if kvs.length ≤ 15 then .ok (.ref M.length) (m.set M.length (.dk false (mrgA [] kvs))) else .no
    | _, _ => .no) := PR.fut f0 p
  refine tPairs_of fs (s.fut f0 m0) p' fun ps m W1 H1 qs f1 s1 r1 p1 => ?_
  have hi0 : (W.as ++ [x])[M.length]? = some x := by rw [← s.mem.len]; simp
  have hi : W1.as[M.length]? = some x := by
    obtain ⟨l, hl, _⟩ := f1.1
    rw [hl, List.getElem?_append_left (List.getElem?_eq_some_iff.mp hi0).1]
    exact hi0
  split at p1
  · rename_i kvs hc hk
    split at p1
    · rename_i hn
      obtain ⟨us, c1, c2⟩ := s1.mem.cell _ _ x hc hi
      have c1 : H1 x = some (.dK us) := c1
      cases c2
      obtain ⟨ws, rfl, rk⟩ := prsK_ok r1 hk
      have wl : ws.length ≤ 15 := by rw [rpA_len rk]; exact hn
      refine ⟨c1, ws, rfl, wl, ?_⟩
      have fw : Fut W1 H1 W1 (upd H1 x (.dK (mergeK [] ws))) := Fut.wrote hi c1 trivial
      exact p1 W1 _ fw (s1.mem.wrote hi ⟨_, upd_same, (mrg_ok rk .nil).fut s1.mem fw⟩) _ ⟨x, hi, rfl⟩
    · exact p1.elim
  · exact p1.elim
def wordsL (x : List Nat) : List (List Nat) := (Txt.words (l2s x)).map fun y => y.cps.toList
def oWords : D → List D → Mem → R D
  | .str x, [], M => if x.length + 2 ≤ 16777216 then .ok (.lst ((wordsL x).map .str)) M else .no
  | _, _, _ => .no
theorem rpL_words : ∀ ys : List Str, RpL G W H ((ys.map fun y => y.cps.toList).map D.str) (ys.map V.str)
  | [] => rfl
  | y :: ys => ⟨_, _, rfl, (by show V.str y = V.str (l2s y.cps.toList); rfl), rpL_words ys⟩
theorem mt1_words : Mt1 G E (fun x xs H Q => ∃ a, x = .str a ∧ xs = [] ∧ a.length + 2 ≤ sizeLine ∧ rNewStrs (Txt.words a) H Q) oWords := fun W H M a u ds us Q m ra r p => by
  unfold oWords at p
  split at p
  · rename_i x
    split at p
    · rename_i hz
      cases ra
      have : us = [] := r
      subst this
      refine ⟨l2s x, rfl, rfl, by rw [l2s_len, line_eq]; exact hz, fun q hq => ?_⟩
      exact mkL_new (c := false) m p (rpL_words _) q hq
    · exact p.elim
  · exact p.elim
end
end Fn
set_option Elab.async false
set_option linter.all false
set_option maxRecDepth 100000
set_option maxHeartbeats 2000000
namespace Fn
open PySem PySem.Spec PyProof.Rows L2 L2.DX
section
variable {X : Cx} {G : Gx} {cl : Nat → Addr} {E : XK} {W : Wd} {H : Hp} {M : Mem} {a b c : Expr} {fa fb fc : FE} {pos : Pos}
def rSortS (G : Gx) : List V → Hp → VK → Prop := fun vs H Q => ∃ (W : Wd) (a : Addr) (kvs : List (KK × D)) (ws : List (Key × V)), vs = [V.ref a] ∧ H a = some (.dK ws) ∧ RpK G W H kk kvs ws ∧ sortOk (kvs.map fun kv => keyD kv.1) ∧
  ∀ us' p, RpL G W H (sortD (kvs.map fun kv => keyD kv.1)) us' → H p = none → Q (.ref p) (upd H p (.lst us'))
theorem rpL_keysS : ∀ {kvs : List (KK × D)} {ws : List (Key × V)}, RpK G W H kk kvs ws → RpL G W H (kvs.map fun kv => keyD kv.1) (ws.map fun q => kV q.1)
  | _, _, .nil => rfl
  | (k, d) :: kvs, (k', v) :: ws, .cons h t => by
    have h1 : kk k = k' := h.1
    subst h1
    exact ⟨_, _, rfl, keyD_rp _, rpL_keysS t⟩
theorem pairs_keys {P : Program} {w : World} : ∀ {es : List DictEntry} {ws : List (Key × Value)} {vs : List (Key × V)}, Pairs (mixKind P w) es ws → KV vs ws → Vals (vs.map fun q => kV q.1) (es.map (·.key))
  | [], _, _, .nil, .nil => .nil
  | e :: es, (k, v) :: ws, _ :: vs, .cons h1 h2 h3, .cons r1 r2 => by
    have hk : keyIs k e.key = true := h1
    have e1 := r1.1
    refine .cons ?_ (pairs_keys h3 r2)
    show L2.RelV (kV _) e.key
    rw [e1]
    rcases keyIs_shape hk with ⟨i, t, q1, q2⟩ | ⟨x, t, q1, q2⟩
    · subst q1; rw [q2]; exact ⟨t, rfl⟩
    · subst q1; rw [q2]; exact ⟨t, rfl⟩
theorem cr_sortS (hc : X.calm = true) (hu : X.A.units + 64 < cLine) : CallR X (.builtin "sorted") (rSortS ⟨X.K, cl, X.w⟩) := by
  intro pins s σ H vs us Q I r h
  obtain ⟨W, d, kvs, ws, rfl, hd, hr, hk, q⟩ := h
  obtain ⟨u, rfl, rx⟩ := r.one
  cases rx
  obtain ⟨hz, hs, vs', kv, o, es, ep, ho, hx, hdt, hn, hp, hnd⟩ := I.hok _ _ hd
  have l1 : es.size = ws.length := by
    have := (pairs_keys hp kv).length
    rw [List.length_map, List.length_map, Array.length_toList] at this
    exact this.symm
  refine Calls.call_function_entry PyProof.Rows.kind_sorted PyProof.Rows.plain_sorted PyProof.Rows.entry_sorted (PyProof.Rows.args_sorted1 _) ?_
  unfold Builtin.«sorted»; refine wpAny_bind (m := checkCount "sorted" 1 1 _) (wpAny_pure ?_)
  refine wpAny_bind (PySem.W.kdu_collect (A := X.A.in1) (kdl_raw hs hx hdt) (I.ok.hd hc) ho (by omega) fun h' tk acc' kp it => ?_)
  have eb : acc'.toList = es.toList.map (·.key) := by
    have hl : acc'.toList.length = es.toList.length := by rw [Array.length_toList, Array.length_toList, it.1]
    apply List.ext_getElem?
    intro j; rw [List.getElem?_map]
    cases hj : acc'.toList[j]? with
    | none =>
      have h1 := List.getElem?_eq_none_iff.mp hj
      rw [List.getElem?_eq_none (by omega)]; rfl
    | some v =>
      obtain ⟨en, hen, hv⟩ := it.2 j v (by rw [← Array.getElem?_toList]; exact hj)
      rw [Array.getElem?_toList, hen, hv]; rfl
  have rv : Vals (ws.map fun q => kV q.1) acc'.toList := by rw [eb]; exact pairs_keys hp kv
  have rp := rpL_keysS hr
  have e := eachIs_rp (h := s.heap) rp rv
  have hlen : acc'.toList.length = (kvs.map fun kv => keyD kv.1).length := by rw [← rv.length, rp.len]
  have hL : (kvs.map fun kv => keyD kv.1).length ≤ sizeLine := by rw [← rp.len, List.length_map]; omega
  refine wpAny_bind (wpAny_newList ?_ (by rw [hlen]; exact hL))
  have hoL : (h'.push (seqObj "list" acc'.toList.toArray 0)).get? h'.objs.size = some (seqObj "list" acc'.toList.toArray 0) := Heap.get?_push_size _ rfl
  have I1 : Inv X pins σ H { s with heap := h', toks := tk } := I.kept kp
  have er : PySem.W.EachIs (fun v d => ∃ as, Reads (h'.push (seqObj "list" acc'.toList.toArray 0)) v (encD d) as ∧ h'.objs.size ∉ as) acc'.toList (kvs.map fun kv => keyD kv.1) := eachIs_mono e fun v d hd ⟨u, h1, h2⟩ => by
    obtain ⟨kv, _, rfl⟩ := List.mem_map.mp hd
    have hpy : pyD (keyD kv.1) = some (encD (keyD kv.1)) := by cases kv.1 <;> rfl
    have hat : atomP (encD (keyD kv.1)) = true := by cases kv.1 <;> rfl
    obtain ⟨as, ra⟩ := Dp.reads I _ u v (pyD_ok h1 hpy) h2
    have : as = [] := reads_atom ra hat
    subst this
    exact ⟨[], Reads.keeps (fun b o q => Heap.get?_push_of_some _ (kp b o q)) ra, by simp⟩
  refine wpAny_bind (wpAny_holding (wpAny_mono (PySem.W.list_sort_data (s := { s with heap := h'.push (seqObj "list" acc'.toList.toArray 0), toks := tk }) (vs := acc'.toList) (n := 0) hoL e er (fun p hp p' hp' => ?_) (.inr fun p hp => ?_) hL (fun d hd => ?_) (Q := fun _ s' => EP X pins σ Q (.ref h'.objs.size) s') fun out ho' eo => ?_) (fun _ s' x => wpAny_pure ⟨_, rfl, x⟩) fun _ _ e => e))
  · obtain ⟨d, hd, rfl⟩ := List.mem_map.mp hp
    obtain ⟨d', hd', rfl⟩ := List.mem_map.mp hp'
    exact hk.2.1 d hd d' hd'
  · obtain ⟨d, hd, rfl⟩ := List.mem_map.mp hp
    obtain ⟨kv, hkv, rfl⟩ := List.mem_map.mp hd
    cases kv.1 with
    | inl i => exact ⟨(by intro z; cases z), (by intro xs z; cases z)⟩
    | inr x => exact ⟨(by intro z; cases z), (by intro xs z; cases z)⟩
  · have := (hk.1 d hd).2
    have h5 : X.A.in1.units = X.A.units + 1 := rfl
    rw [h5]; omega
  · obtain ⟨us', h1, h2⟩ := eachIs_back eo
    obtain ⟨e', he'⟩ := PyProof.Rows.sortedHeap_at (vs := acc'.toList) (out := out.toArray) hoL
    have hlen' : us'.length ≤ sizeLine := by rw [h2.length, ho']; exact hL
    refine ⟨.ref h'.objs.size, upd H h'.objs.size (.lst us'), I1.laid (t' := tk) (fun b u e => ?_) (Nat.le_refl _) ⟨hlen', out, e', h2, he'⟩, rfl, q us' _ h1 (I1.hok.fresh (Nat.le_refl _))⟩
    have hb : b < h'.objs.size := Heap.lt_size e
    rw [PyProof.Rows.sortedHeap_old (Nat.ne_of_lt hb) (by rw [size_push']; exact Nat.lt_succ_of_lt hb)]
    exact Heap.get?_push_of_some _ e
open Classical in
noncomputable def oSortS (c : Bool) : List D → Mem → R D
  | [.ref i], M => match M[i]? with
    | some (.dk false kvs) => if sortOk (kvs.map fun kv => keyD kv.1) then mkL c (sortD (kvs.map fun kv => keyD kv.1)) M else .no
    | _ => .no
  | _, _ => .no
theorem fn_sortS {c : Bool} : Fn1 G E (rSortS G) (oSortS c) := fun W H M ds us Q m r p => by
  unfold oSortS at p
  split at p
  · rename_i i
    obtain ⟨u, e1, r1⟩ := rp_one r
    subst e1
    obtain ⟨a1, h1, rfl⟩ := r1
    split at p
    · rename_i kvs hc
      split at p
      · rename_i hs
        obtain ⟨vs, c1, c2⟩ := m.cell _ _ a1 hc h1
        have c1 : H a1 = some (.dK vs) := c1
        exact ⟨W, a1, kvs, vs, rfl, c1, c2, hs, fun us' p' r' hp => mkL_new m p r' p' hp⟩
      · exact p.elim
    · exact p.elim
  · exact p.elim
end
end Fn
set_option Elab.async false
set_option linter.all false
set_option maxRecDepth 100000
set_option maxHeartbeats 2000000
namespace Fn
open PySem PySem.Spec PyProof.Rows L2
end Fn
set_option Elab.async false
set_option linter.all false
set_option maxRecDepth 100000
set_option maxHeartbeats 1000000
namespace LZ
open PySem PyProof.Rows
open PySem.Sem (wp)
section
variable {prog : Program} {w : World} {A : Around} {E : Value → Shared → Prop} {s : Shared}
/-- where a zip of tuples stands, its tuple out or not -/
def Zst (h : Heap) (z TI TO i1 i2 l1 l2 S : Addr) (xs ys : Array Value) (i : Nat) : Prop := IsPair h TI (.ref i1) (.ref i2) ∧ h.IsTupleIter i1 l1 i ∧ h.IsTupleIter i2 l2 i ∧ h.IsTuple l1 xs ∧ h.IsTuple l2 ys ∧
  ((IsZip h z TI TO .none ∧ ∃ a b, IsPair h TO a b) ∨ ∃ T f oT, IsZipHeld h z TI TO T f ∧ h.get? T = some oT ∧ T ≠ z ∧ T ≠ i1 ∧ T ≠ i2 ∧ T ≠ S)
structure Off (S z TI TO i1 i2 l1 l2 : Addr) : Prop where
  z : S ≠ z
  TI : S ≠ TI
  TO : S ≠ TO
  i1 : S ≠ i1
  i2 : S ≠ i2
  l1 : S ≠ l1
  l2 : S ≠ l2
theorem Zst.keep {h h' : Heap} {z TI TO i1 i2 l1 l2 S : Addr} {xs ys : Array Value} {i : Nat} (O : Off S z TI TO i1 i2 l1 l2) (st : Zst h z TI TO i1 i2 l1 l2 S xs ys i) (hk : ∀ b o, b ≠ S → h.get? b = some o → h'.get? b = some o) : Zst h' z TI TO i1 i2 l1 l2 S xs ys i := by
  obtain ⟨hTI, h1, h2, hl1, hl2, hz⟩ := st
  refine ⟨hk _ _ (Ne.symm O.TI) hTI, h1.at fun o e => hk _ o (Ne.symm O.i1) e, h2.at fun o e => hk _ o (Ne.symm O.i2) e, hl1.at fun o e => hk _ o (Ne.symm O.l1) e, hl2.at fun o e => hk _ o (Ne.symm O.l2) e, ?_⟩
  rcases hz with ⟨hz, a, b, hTO⟩ | ⟨T, f, oT, hz, hT, r1, r2, r3, r4⟩
  · exact .inl ⟨hk _ _ (Ne.symm O.z) hz, a, b, hk _ _ (Ne.symm O.TO) hTO⟩
  · exact .inr ⟨T, f, oT, hk _ _ (Ne.symm O.z) hz, hk _ _ r4 hT, r1, r2, r3, r4⟩
/-- the pairs that came -/
structure ZG (xs ys : Array Value) (lo : Addr) (h : Heap) (as : List Addr) : Prop where
  rise : as.Pairwise (· < ·)
  above : ∀ a ∈ as, lo < a
  pairs : ∀ (j : Nat) (a : Addr), as[j]? = some a → ∃ x y, xs[j]? = some x ∧ ys[j]? = some y ∧ IsPair h a x y
theorem ZG.there {xs ys : Array Value} {lo : Addr} {h : Heap} {as : List Addr} (g : ZG xs ys lo h as) {a : Addr} (ha : a ∈ as) : a < h.objs.size := by
  obtain ⟨j, hj⟩ := List.mem_iff_getElem?.mp ha
  obtain ⟨_, _, _, _, e⟩ := g.pairs j a hj
  exact Heap.lt_size e
end
end LZ
set_option Elab.async false
set_option linter.all false
set_option maxRecDepth 100000
set_option maxHeartbeats 1000000
namespace LZ
open PySem PyProof.Rows PySem.Calls
open PySem.Sem (wp)
section
variable {prog : Program} {w : World} {A : Around} {E : Value → Shared → Prop} {s : Shared} {z TI TO i1 i2 l1 l2 S : Addr} {xs ys : Array Value}
/-- a zip that has not begun -/
structure Z0 (h : Heap) (z TI TO i1 i2 l1 l2 : Addr) (xs ys : Array Value) : Prop where
  hz : IsZip h z TI TO .none
  hTI : IsPair h TI (.ref i1) (.ref i2)
  hTO : ∃ a b, IsPair h TO a b
  h1 : h.IsTupleIter i1 l1 0
  h2 : h.IsTupleIter i2 l2 0
  hl1 : h.IsTuple l1 xs
  hl2 : h.IsTuple l2 ys
theorem Z0.keep {h h' : Heap} (st : Z0 h z TI TO i1 i2 l1 l2 xs ys) (O : Off S z TI TO i1 i2 l1 l2) (hk : ∀ b o, b ≠ S → h.get? b = some o → h'.get? b = some o) : Z0 h' z TI TO i1 i2 l1 l2 xs ys := by
  obtain ⟨hz, hTI, ⟨a, b, hTO⟩, h1, h2, hl1, hl2⟩ := st
  exact ⟨hk _ _ (Ne.symm O.z) hz, hk _ _ (Ne.symm O.TI) hTI, ⟨a, b, hk _ _ (Ne.symm O.TO) hTO⟩, h1.at fun o e => hk _ o (Ne.symm O.i1) e, h2.at fun o e => hk _ o (Ne.symm O.i2) e, hl1.at fun o e => hk _ o (Ne.symm O.l1) e, hl2.at fun o e => hk _ o (Ne.symm O.l2) e⟩
theorem Z0.st {h : Heap} (st : Z0 h z TI TO i1 i2 l1 l2 xs ys) : Zst h z TI TO i1 i2 l1 l2 S xs ys 0 := ⟨st.hTI, st.h1, st.h2, st.hl1, st.hl2, .inl ⟨st.hz, st.hTO⟩⟩
end
end LZ
set_option Elab.async false
set_option linter.all false
set_option maxRecDepth 100000
set_option maxHeartbeats 2000000
set_option Elab.async false
set_option linter.all false
set_option maxRecDepth 100000
set_option maxHeartbeats 1000000
namespace Fn
open PySem PySem.Spec PyProof.Rows L2
end Fn
set_option Elab.async false
set_option linter.all false
set_option maxRecDepth 100000
set_option maxHeartbeats 1000000
namespace Fn
open PySem PySem.Spec PyProof.Rows L2
end Fn
set_option Elab.async false
set_option linter.all false
set_option maxRecDepth 100000
set_option maxHeartbeats 1000000
namespace Fn
open PySem PySem.Spec PyProof.Rows L2 L2.DX
section
variable {X : Cx} {G : Gx} {cl : Nat → Addr} {E : XK} {W : Wd} {H : Hp} {M : Mem} {a b c : Expr} {fa fb fc : FE} {pos : Pos}
def most (a : Int) : List Int → Int
  | [] => a
  | b :: r => most (if b > a then b else a) r
mutual
def ndD : NK → D
  | .int i => .int i
  | .str x => .str x
  | .non => .non
  | .tup l => .tup (ndL l)
def ndL : List NK → List D
  | [] => []
  | k :: r => ndD k :: ndL r
end
mutual
theorem ndD_rp {G : Gx} {W : Wd} {H : Hp} : ∀ (k : NK) (u : V), NkAt H k u → Rp G W H (ndD k) u
  | .int i, u, h => h
  | .str x, u, h => h
  | .non, u, h => h
  | .tup l, u, h => by
    obtain ⟨a, us, e, s, r⟩ := h
    exact ⟨a, us, e, .inl s, ndL_rp l us r⟩
theorem ndL_rp {G : Gx} {W : Wd} {H : Hp} : ∀ (l : List NK) (us : List V), NkAtL H l us → RpL G W H (ndL l) us
  | [], us, h => h
  | k :: l, us, h => by
    obtain ⟨u, us', e, h1, h2⟩ := h
    exact ⟨u, us', e, ndD_rp k u h1, ndL_rp l us' h2⟩
end
theorem keysN_rp : ∀ {kvs : List (NK × D)} {es : List (NestedKey × Addr × V)}, RpN G W H kvs es → RpL G W H (kvs.map fun kv => ndD kv.1) (es.map fun e => V.ref e.2.1)
  | _, _, .nil => rfl
  | (k, d) :: r, (k', b, v) :: r', .cons h t => ⟨_, _, rfl, ndD_rp k _ h.2.2.1, keysN_rp t⟩
theorem np_refs {es : List (NestedKey × Addr × V)} {xs : List (NestedKey × Addr × Value)} (pr : NP es xs) : (es.map fun e => V.ref e.2.1) = (xs.map fun x => x.2.1).map V.ref := by
  induction pr with
  | nil => rfl
  | cons h t ih => simp only [List.map_cons, h.2.1, ih]
theorem call_list_dN (hc : X.calm = true) : CallR X (.type "list") (fun xs H Q => ∃ d es, xs = [V.ref d] ∧ Rd H d (NdO X.w d es) ∧ EsOk H es ∧ ∀ p, H p = none → Q (.ref p) (upd H p (.lst (es.map fun e => V.ref e.2.1)))) := by
  intro pins s σ H xs us Q I r h
  obtain ⟨d, kvs, rfl, hd, ke, q⟩ := h
  obtain ⟨u, rfl, rx⟩ := r.one
  cases rx
  obtain ⟨z, hs, ks, pr, dd⟩ := nd_rd I.hok hd ke
  obtain ⟨o, es, ep, ho, hx, hdt, he, _, hn⟩ := dd
  have l1 : es.size = ks.length := size_of_entries he
  have l2 : kvs.length = ks.length := Paired.length pr
  refine PySem.W.kdl_call (kdl_raw hs hx hdt) (I.ok.hd hc) ho (by omega) fun h' tk acc' c' kp e it => ?_
  have ea : acc'.toList = ks.map fun x => Value.ref x.2.1 := by
    apply List.ext_getElem?
    intro j
    rw [List.getElem?_map]
    cases hj : acc'.toList[j]? with
    | none =>
      have h1 := List.getElem?_eq_none_iff.mp hj
      rw [Array.length_toList, it.1] at h1
      rw [List.getElem?_eq_none (by omega)]
      all_goals rfl
    | some v =>
      obtain ⟨en, hen, hv⟩ := it.2 j v (by rw [← Array.getElem?_toList]; exact hj)
      have qe := entry_at he j
      rw [hen] at qe
      cases hb : ks[j]? with
      | none =>
        rw [hb] at qe
        exact nomatch (show some en = none from qe)
      | some b =>
        rw [hb] at qe
        have e2 : en = entryOfKey (nestedKind X.prog X.w) b := Option.some.inj qe
        rw [hv, e2]
        all_goals rfl
  have eb : (kvs.map fun e => V.ref e.2.1) = (ks.map fun x => x.2.1).map V.ref := np_refs pr
  have ec : acc'.toList = (ks.map fun x => x.2.1).map Value.ref := by rw [ea, List.map_map]; all_goals rfl
  have rv : Vals ((ks.map fun x => x.2.1).map V.ref) acc'.toList := by rw [ec]; exact vals_refs _
  have fits : ((ks.map fun x => x.2.1).map V.ref).length ≤ sizeLine := by simp only [List.length_map]; omega
  have qq := q s.heap.objs.size (I.hok.fresh (Nat.le_refl _))
  rw [eb] at qq
  refine ⟨.ref s.heap.objs.size, _, I.laid (t' := tk) (o := .lst ((ks.map fun x => x.2.1).map V.ref)) kp (Nat.le_refl _) ⟨fits, acc'.toList, c', rv, by rw [Array.toArray_toList]; exact e⟩, rfl, qq⟩
def oListA (c : Bool) : List D → Mem → R D
  | [.ref i], M => match M[i]? with
    | some (.dk _ kvs) => mkL c (kvs.map fun kv => keyD kv.1) M
    | some (.dt _ kvs) => mkL c (kvs.map fun kv => .tup (kv.1.map keyD)) M
    | some (.dn _ kvs) => mkL c (kvs.map fun kv => ndD kv.1) M
    | _ => oList c [.ref i] M
  | ds, M => oList c ds M
theorem keys_rp : ∀ {kvs : List (KK × D)} {vs : List (Key × V)}, RpK G W H kk kvs vs → RpL G W H (kvs.map fun kv => keyD kv.1) (vs.map fun kv => kV kv.1)
  | _, _, .nil => rfl
  | (k, d) :: r, (k', v) :: r', .cons h t => by
    have h1 : kk k = k' := h.1
    subst h1
    exact ⟨_, _, rfl, keyD_rp k, keys_rp t⟩
theorem keysT_rp : ∀ {kvs : List (List KK × D)} {vs : List (List Key × V)} {bs : List Addr}, RpK G W H (List.map kk) kvs vs → IsKeys H vs bs → RpL G W H (kvs.map fun kv => D.tup (kv.1.map keyD)) (bs.map V.ref)
  | _, _, _, .nil, .nil => rfl
  | (k, d) :: r, (k', v) :: r', b :: bs, .cons h t, .cons h2 t2 => by
    have h1 : k.map kk = k' := h.1
    subst h1
    exact ⟨_, _, rfl, ⟨b, _, rfl, .inl h2, keysD_rp k⟩, keysT_rp t t2⟩
def rListA (K : PySem.W.Frag) (w : World) : List V → Hp → VK → Prop := fun xs H Q => (((∃ p ys, xs = [.ref p] ∧ (SqL K H p ys ∨ SqT K H p ys) ∧ ∀ l, H l = none → Q (.ref l) (upd H l (.lst ys))) ∨ (∃ (a : Addr) (kvs : List (Key × V)), xs = [.ref a] ∧ Rd H a (.dK kvs) ∧ ∀ p, H p = none → Q (.ref p) (upd H p (.lst (kvs.map fun kv => kV kv.1))))) ∨
  ∃ d kvs, xs = [V.ref d] ∧ Rd H d (.dT kvs) ∧ ∀ p bs, H p = none → IsKeys H kvs bs → Q (.ref p) (upd H p (.lst (bs.map V.ref)))) ∨
  ∃ d es, xs = [V.ref d] ∧ Rd H d (NdO w d es) ∧ EsOk H es ∧ ∀ p, H p = none → Q (.ref p) (upd H p (.lst (es.map fun e => V.ref e.2.1)))
theorem call_listA (hc : X.calm = true) : CallR X (.type "list") (rListA X.K X.w) := ((call_list_of.or (call_listD hc)).or (call_list_dT hc)).or (call_list_dN hc)
theorem fn_listA {c : Bool} : Fn1 G E (rListA G.K G.w) (oListA c) := fun W H M ds us Q m r p => by
  have old : PR G W H (PV G Q) E (oList c ds M) → rListA G.K G.w us H Q := fun p => .inl (.inl (.inl (fn_list W H M ds us Q m r p)))
  unfold oListA at p
  split at p
  · rename_i i
    obtain ⟨u, rfl, r1⟩ := rp_one r
    split at p
    · rename_i lk kvs hc
      obtain ⟨a1, ha, rfl⟩ := r1
      obtain ⟨vs, q1, q2⟩ := dk_at (i := i) (m.cell _ _ a1 hc ha)
      exact .inl (.inl (.inr ⟨a1, vs, rfl, q1, mkL_new m p (keys_rp q2)⟩))
    · rename_i lk kvs hc
      obtain ⟨a1, ha, rfl⟩ := r1
      obtain ⟨vs, q1, q2⟩ := dt_at (i := i) (m.cell _ _ a1 hc ha)
      exact .inl (.inr ⟨a1, vs, rfl, q1, fun p' bs hp hb => mkL_new m p (keysT_rp q2 hb) p' hp⟩)
    · rename_i lk kvs hc
      obtain ⟨a1, ha, rfl⟩ := r1
      obtain ⟨vs, q1, q2⟩ := dn_at (i := i) (m.cell _ _ a1 hc ha)
      exact .inr ⟨a1, vs, rfl, q1, rpN_es q2, mkL_new m p (keysN_rp q2)⟩
    · exact old p
  · exact old p
theorem oListA_dn {c lk : Bool} {i : Nat} {kvs : List (NK × D)} (h : M[i]? = some (.dn lk kvs)) : oListA c [.ref i] M = mkL c (kvs.map fun kv => ndD kv.1) M := by simp only [oListA, h]
end
end Fn
set_option Elab.async false
set_option linter.all false
set_option maxRecDepth 100000
set_option maxHeartbeats 1000000
set_option Elab.async false
set_option linter.all false
set_option maxRecDepth 100000
set_option maxHeartbeats 1000000
namespace Fn
open PySem PySem.Spec PyProof.Rows L2 L2.DX
end Fn
set_option Elab.async false
set_option linter.all false
set_option maxRecDepth 100000
set_option maxHeartbeats 1000000
namespace Fn
open PySem PySem.Spec PyProof.Rows L2
section
variable {X : Cx} {G : Gx} {cl : Nat → Addr} {E : XK} {W : Wd} {H : Hp} {M : Mem} {a b c : Expr} {fa fb fc : FE} {pos : Pos}
def enX (d : D) (m : Mem) : R Src := match d with
  | .tup l => .ok ⟨numb l, fun _ => True⟩ m
  | d => match lstOf m d, srcOf m d with
    | some l, some s => .ok ⟨numb l, s.still⟩ m
    | _, _ => .no
def iEnumX (f : FE) : FI := fun env M => (f env M).bind enX
theorem iEnumX_eq {env : Fn.Env} : iEnumX fa env M = (fa env M).bind enX := rfl
theorem enX_of {d : D} {l : List D} {P : Mem → Prop} (h : srcOf M d = some ⟨l, P⟩) (hct : ∀ l, d ≠ .ct l := by intro l z; cases z) : enX d M = .ok ⟨numb l, P⟩ M := by
  cases d with
  | tup l' => cases h; rfl
  | ct l' => exact absurd rfl (hct l')
  | lst l' =>
    have h' := h
    cases h
    simp only [enX, lstOf, h']
  | fz l' =>
    have h' := h
    cases h
    simp only [enX, lstOf, h']
  | ref i =>
    have h' := h
    simp only [srcOf] at h
    split at h
    · rename_i l2 hc
      cases h
      simp only [enX, lstOf, hc, h']
    · cases h
  | _ => cases h
theorem si_enumX {p tpos : Pos} {elts : List Expr} {kk : Nat} (hg : Gl X "enumerate") (hm : X.mg "enumerate" = none) (ha : PE X a (tE ⟨X.K, cl, X.w⟩ E fa)) (hs : starEach [a] X.env = (false, eval a X.env) :: starEach [] X.env := by rfl) (hs1 : starEach [a] X.env = [(false, eval a X.env)] := by rfl) :
    PI X (.Tuple elts kk tpos) (.Call (.Name "enumerate" p) [a] [] pos) (tI ⟨X.K, cl, X.w⟩ E (iEnumX fa)) := pi_imp (pi_enumA hg hm (sa_cons ha sa_nil hs) hs1) fun σ H Rr ⟨W, env, M, s, p⟩ => by
  refine tA.bind (K := PI' ⟨X.K, cl, X.w⟩ Rr) (f := aCons fa aNil) (k := fun ds m => match ds with | [d] => enX d m | _ => .no) s ?_ fun ds m W1 H1 us f1 s1 r1 p1 => ?_
  · rw [aCons_bind]
    exact p
  · split at p1
    · rename_i d
      obtain ⟨u, rfl, r2⟩ := rp_one r1
      unfold enX at p1
      split at p1
      · rename_i l
        have k := p1.here s1.mem
        obtain ⟨a1, us, rfl, h2, h3⟩ := id r2
        refine ⟨a1, us, rfl, .inr ⟨h2.sq, k _ (src_enumT fun W2 H2 M2 f2 m2 => ?_) trivial⟩⟩
        obtain ⟨a', us', q1, q2, q3⟩ := Rp.kp f2 _ _ r2
        cases q1
        exact ⟨us', q2.sq, q3⟩
      · split at p1
        · rename_i l src e1 e2
          have k := p1.here s1.mem
          obtain ⟨a1, us, rfl, h2, h3⟩ := lstOf_ok s1.mem r2 e1
          obtain ⟨st, _⟩ := srcOf_ok s1.mem r2 e2
          refine ⟨a1, us, rfl, .inl ⟨h2, k _ (src_enum fun W2 H2 M2 f2 m2 st2 => ?_) st⟩⟩
          have r3 := Rp.kp f2 _ _ r2
          cases d with
          | ref i =>
            simp only [srcOf] at e2
            split at e2
            · rename_i l' hc
              cases e2
              have : lstOf M2 (.ref i) = some l := by
                simp only [lstOf, hc] at e1
                cases e1
                have st2' : M2[i]? = some (.lst l) := st2
                simp only [lstOf, st2']
              obtain ⟨a', us', e', h', r'⟩ := lstOf_ok m2 r3 this
              cases e'
              exact ⟨us', h', r'⟩
            · cases e2
          | lst l' =>
            cases e1
            obtain ⟨a', us', e', h', r'⟩ := lstOf_ok m2 r3 (d := .lst l) rfl
            cases e'
            exact ⟨us', h', r'⟩
          | fz l' =>
            cases e1
            obtain ⟨a', us', e', h', r'⟩ := lstOf_ok m2 r3 (d := .fz l) rfl
            cases e'
            exact ⟨us', h', r'⟩
          | _ => cases e1
        · exact p1.elim
    · exact p1.elim
end
end Fn
set_option Elab.async false
set_option linter.all false
set_option maxRecDepth 100000
set_option maxHeartbeats 1000000
namespace Fn
open PySem PySem.Spec PyProof.Rows L2
end Fn
set_option Elab.async false
set_option linter.all false
set_option maxRecDepth 100000
set_option maxHeartbeats 1000000
namespace Fn
open PySem PySem.Spec PyProof.Rows L2
section
variable {X : Cx} {G : Gx} {cl : Nat → Addr} {E : XK} {W : Wd} {H : Hp} {M : Mem} {a b c : Expr} {fa fb fc : FE} {pos : Pos}
/-- what has come so far, in the hidden list -/
structure Cst (G : Gx) (W0 : Wd) (H0 : Hp) (D0 : Addr) (as : List Addr) (H' : Hp) (M : Mem) (done : List D) (acc : List V) : Prop where
  fu : Fut W0 H0 ⟨as, W0.hd⟩ H'
  kp : Kp W0 H0 ⟨as, D0 :: W0.hd⟩ H'
  me : MemOk G ⟨as, D0 :: W0.hd⟩ H' M
  at_ : H' D0 = some (.lst acc)
  rp : RpL G ⟨as, D0 :: W0.hd⟩ H' done acc
section
variable {W0 : Wd} {H0 H1 H2 : Hp} {D0 : Addr} {as as2 : List Addr} {M2 : Mem} {done : List D} {acc : List V}
theorem Cst.fut (h : Cst G W0 H0 D0 as H1 M done acc) (f : Fut ⟨as, D0 :: W0.hd⟩ H1 ⟨as2, D0 :: W0.hd⟩ H2) (m : MemOk G ⟨as2, D0 :: W0.hd⟩ H2 M2) : Cst G W0 H0 D0 as2 H2 M2 done acc :=
  ⟨h.fu.trans ⟨f.ext, rfl, f.keep, f.lk⟩, h.kp.trans (f.kp h.me), m, f.keep _ _ h.at_ fun z => h.me.apart D0 z (List.mem_cons_self ..), h.me.rpL f h.rp⟩
end
end
end Fn
set_option Elab.async false
set_option linter.all false
set_option maxRecDepth 100000
set_option maxHeartbeats 1000000
namespace Fn
open PySem PySem.Spec PyProof.Rows L2
end Fn
set_option Elab.async false
set_option linter.all false
set_option maxRecDepth 100000
set_option maxHeartbeats 4000000
namespace L2
open PySem PySem.Spec PyProof.Rows
end L2
namespace Fn
open PySem PySem.Spec PyProof.Rows L2
end Fn
set_option Elab.async false
set_option linter.all false
set_option maxRecDepth 100000
set_option maxHeartbeats 1000000
namespace Fn
open PySem PySem.Spec PyProof.Rows L2
end Fn
set_option Elab.async false
set_option linter.all false
set_option maxRecDepth 100000
namespace Fn
open PySem PySem.Spec PyProof.Rows L2 PySem.Froz
end Fn
set_option Elab.async false
set_option linter.all false
set_option maxRecDepth 100000
set_option maxHeartbeats 1000000
namespace Fn
open PySem PySem.Spec PyProof.Rows L2
end Fn
set_option Elab.async false
set_option linter.all false
set_option maxRecDepth 100000
set_option maxHeartbeats 1000000
namespace Fn
open PySem PySem.Spec PyProof.Rows L2
end Fn
set_option Elab.async false
set_option linter.all false
set_option maxRecDepth 100000
set_option maxHeartbeats 1000000
namespace Fn
open PySem PySem.Spec PyProof.Rows L2
end Fn
set_option Elab.async false
set_option linter.all false
set_option maxRecDepth 100000
set_option maxHeartbeats 2000000
namespace DcT
open PySem PySem.Spec PyProof.Rows L2
theorem put {X : Cx} {pins : List (Addr × Obj)} {σ : L2.St} {H : Hp} {s : Shared} {E : Value → Shared → Prop} {D b : Addr} {kvs : List (List Key × V)} {k : List Key} {v : V} {r : Value} {Q : Unit → Shared → Prop} (hu : X.A.units < cLine) (I : Inv X pins σ H s) (hD : H D = some (.dT kvs))
    (hz : kvs.length < sizeLine) (eb : H b = some (.tup (k.map kV))) (rv : RelV v r) (go : ∀ s', Inv X pins σ (upd H D (.dT (putK kvs k v))) s' → Q () s') : wpAny (model X.prog X.w) X.A (dictSet D (.ref b) r) Q E s := by
  obtain ⟨z, hd, xs, rel, dd⟩ := dt_of I.hok hD
  have hlen := length_putK kvs k v
  refine wpAny_dictSet_heap (hsz := by rw [← Paired.length rel]; exact z) (show (tupleKind (mixKind X.prog X.w)).room X.A from hu) (key_of I.hok eb) dd fun h' dd' hs => go _ ?_
  obtain ⟨q, es, ep, e1, e2, e3, e4, _, e5⟩ := dd'
  refine d_write I (by rw [hD]; trivial) hs ⟨q, e1⟩ ⟨by omega, hd, _, (rel.put k eb rv).keeps fun c ys ec => ?_, q, es, ep, e1, e2, e3, e4, e5⟩
  exact (upd_ne (ne_of ec hD (fun z => nomatch z))).trans ec
section
variable {X : Cx}
def tDcT (wi : TI) (g : TG) (tt : TT) (tk tv : TE) (vs : List Nat) : TE := fun σ H Q => wi σ H fun J H1 => ∀ D, H1 D = none → ∃ W : Nat → Nat → Hp → Prop, (∃ m, W 0 m (upd H1 D (.dT []))) ∧ ∀ i m H, W i m H → (J.stop i H ∧ Q (.ref D) H) ∨
  (J.go i H ∧ ∃ Nx : Hp → Prop, (∀ H', Nx H' → ∃ m', m' < m ∧ W (i + 1) m' H') ∧ ∀ x H', J.yld i H x H' → g x (wipe σ vs) H' fun σ2 H2 => wipe σ2 vs = wipe σ vs ∧ tt σ2 H2 fun b H3 =>
    if b = true then tk σ2 H3 fun y H4 => tv σ2 H4 fun z H5 => ∃ kvs k a, y = .ref a ∧ H5 a = some (.tup (k.map kV)) ∧ H5 D = some (.dT kvs) ∧ kvs.length < sizeLine ∧ Nx (upd H5 D (.dT (putK kvs k z))) else Nx H3)
theorem run {pins : List (Addr × Obj)} {s : Shared} {σ : L2.St} {H : Hp} {Q : VK} {kx vx tg iter : Expr} {ifs : List Expr} {scope : Scope} {own : List (Str × Nat)} {pos pos' : Pos} {wi : TI} {g : TG} {tt : TT} {tk tv : TE} {use : Option (Value → Sem Unit)} {Qf : Value → Shared → Prop} (hu : X.A.units < cLine) (hc : X.calm = true) (hN : X.N.Nodup) (I : Inv X pins σ H s) (hi : PI X tg iter wi) (ok : BlkOk X.N X.env.scope scope own)
    (hg : ∀ (s : Shared) (H : Hp) (C : Addr) (cl : List (Str × Addr)) (fp : List Addr), PG (X.blk s H scope (compEnvC scope cl C X.env) fp) tg g) (ht : ∀ (s : Shared) (H : Hp) (C : Addr) (cl : List (Str × Addr)) (fp : List Addr), PTs (X.blk s H scope (compEnvC scope cl C X.env) fp) ifs tt) (hk : ∀ (s : Shared) (H : Hp) (C : Addr) (cl : List (Str × Addr)) (fp : List Addr), PE (X.blk s H scope (compEnvC scope cl C X.env) fp) kx tk)
    (he : ∀ (s : Shared) (H : Hp) (C : Addr) (cl : List (Str × Addr)) (fp : List Addr), PE (X.blk s H scope (compEnvC scope cl C X.env) fp) vx tv) (hs : ∀ x, foldedSetIterable iter X.env x = pure x) (h : tDcT wi g tt tk tv (own.map (·.2)) σ H Q)
    (hR : ∀ D C s' m H', Inv X pins σ H' s' → Q (.ref D) H' → s'.heap.Ns C m → FpOk X pins H' C → compPost (model X.prog X.w) X.A X.xe use Qf (.ref D) C (.ok .next) s') :
    wpAny (model X.prog X.w) X.A (comprehension (.DictComp kx vx [⟨tg, iter, ifs, 0⟩] scope pos) scope X.env pos' newDict false (eval iter X.env) use) Qf X.xe s := by
  have hfree : ∀ y ∈ scope.names, y.2 = .free → ∃ c, X.env.cells.lookup y.1 = some c := fun y hy e => (ok.free y hy e).elim (fun k => I.ok.has _ (.inl k)) fun k => I.ok.has _ (.inr k)
  refine wpAny_comprehension_free (use := use) rfl hs (closure_ok hfree) ok.kind (fun y hy e => by rw [ok.uniq y hy, e]) (thn (hi.run pins s σ H _ I h) fun xv s1 hx => thn hx fun itv s2 h2 => ?_)
  obtain ⟨it, fp, tn, J, Hb, rfl, Ib, T, stb, fb, q⟩ := h2
  refine wpAny_newObj_type (newEnv_comp ?_)
  generalize hD : s2.heap.objs.size = D
  have frD : Hb D = none := Ib.hok.fresh (by rw [← hD]; exact Nat.le_refl _)
  obtain ⟨W, ⟨m0, w0⟩, turn⟩ := q D frD
  generalize hsd : ({ s2 with heap := s2.heap.push { cls := .type "dict", data := .dict #[] } } : Shared) = sd
  have Id : Inv X pins σ (upd Hb D (.dT [])) sd := by
    subst hsd hD
    exact Ib.laid (t' := s2.toks) (fun b o e => Heap.get?_push_of_some _ e) (Nat.le_refl _) (dt_empty s2.heap Ib.big)
  have eqd : sd.heap = s2.heap.push { cls := .type "dict", data := .dict #[] } := by rw [← hsd]
  have below : ∀ b ∈ fp, b < s2.heap.objs.size := fun b hb => let ⟨o, e, _⟩ := T.obj _ _ stb b hb; Heap.lt_size e
  have fd : ∀ b ∈ fp, FpOk X pins (upd Hb D (.dT [])) b ∧ b < sd.heap.objs.size := fun b hb => by
    have hlt := below b hb
    have hne : b ≠ D := by rw [← hD]; exact Nat.ne_of_lt hlt
    exact ⟨⟨(upd_ne hne).trans (fb b hb).1, (fb b hb).2⟩, by rw [eqd, Heap.size_push]; exact Nat.lt_succ_of_lt hlt⟩
  have std : tn 0 sd.heap := T.keep _ _ _ stb fun b _ o e => by rw [eqd]; exact Heap.get?_push_of_some _ e
  have Ie := block_start Id ok hN fd
  have P1 := hg sd (upd Hb D (.dT [])) sd.heap.objs.size (cellsFrom (sd.heap.objs.size + 1) scope.names (cloFrom X.env.cells scope.names [])) fp
  have P2 := ht sd (upd Hb D (.dT [])) sd.heap.objs.size (cellsFrom (sd.heap.objs.size + 1) scope.names (cloFrom X.env.cells scope.names [])) fp
  have P3 := hk sd (upd Hb D (.dT [])) sd.heap.objs.size (cellsFrom (sd.heap.objs.size + 1) scope.names (cloFrom X.env.cells scope.names [])) fp
  have P4 := he sd (upd Hb D (.dT [])) sd.heap.objs.size (cellsFrom (sd.heap.objs.size + 1) scope.names (cloFrom X.env.cells scope.names [])) fp
  show codeAny _ _ (.compStart (.DictComp kx vx [⟨tg, iter, ifs, 0⟩] scope pos) 0 (.ref it) (.ref D) (compEnvC scope (cellsFrom (sd.heap.objs.size + 1) scope.names (cloFrom X.env.cells scope.names [])) sd.heap.objs.size X.env)) (compPost (model X.prog X.w) X.A X.xe use Qf (.ref D) sd.heap.objs.size) _
  have nfp : ∀ b ∈ fp, (upd Hb D (.dT [])) b = none := fun b hb => (fd b hb).1.1
  generalize hce : compEnvC scope (cellsFrom (sd.heap.objs.size + 1) scope.names (cloFrom X.env.cells scope.names [])) sd.heap.objs.size X.env = ce at Ie P1 P2 P3 P4 ⊢
  have cL : ce.locals = sd.heap.objs.size := by rw [← hce]; rfl
  generalize hHd : upd Hb D (.dT []) = Hd at Id Ie P1 P2 P3 P4 w0 nfp fd
  generalize hse : ({ sd with heap := pushCells (sd.heap.push { cls := .type "dict", data := .dict #[] }) scope.names } : Shared) = se at Ie ⊢
  have ste : tn 0 se.heap := T.keep _ _ _ std fun b _ o e => by rw [← hse]; exact pushCells_keeps _ _ _ _ (Heap.get?_push_of_some _ e)
  have stat : ∀ {σ' : L2.St} {H' : Hp} {s' : Shared}, Inv (X.blk sd Hd scope ce fp) [] σ' H' s' → (∀ b ∈ fp, H' b = none) → ∀ b ∈ fp, FpOk (X.blk sd Hd scope ce fp) [] H' b := fun {σ' H' s'} I' hn b hb =>
    ⟨hn b hb, (I'.ok.exf b hb).1, I'.ok.exfs b hb, .inl hb, fun x c e => (I'.ok.exf b hb).2 x c e, fun p hp => by simp [Cx.blk] at hp⟩
  refine codeAny_compStart_dict (?_ : codeAny (model X.prog X.w) X.A (.compLoop (.DictComp kx vx [⟨tg, iter, ifs, 0⟩] scope pos) 0 (.ref it) (.ref D) ce) (compPost (model X.prog X.w) X.A X.xe use Qf (.ref D) sd.heap.objs.size) se) ?_
  all_goals
    have loop : codeAny (model X.prog X.w) X.A (.compLoop (.DictComp kx vx [⟨tg, iter, ifs, 0⟩] scope pos) 0 (.ref it) (.ref D) ce) (compPost (model X.prog X.w) X.A X.xe use Qf (.ref D) sd.heap.objs.size) se := by
      refine compLoop_anyD (fun n s' => ∃ i H', Inv (X.blk sd Hd scope ce fp) [] (wipe σ (own.map (·.2))) H' s' ∧ tn i s'.heap ∧ (∀ b ∈ fp, H' b = none) ∧ W i n H') ?_ m0 ⟨0, Hd, Ie, ste, nfp, w0⟩
      rintro n t5 ⟨i, H5, I5, st5, n5, w5⟩
      rcases turn i n H5 w5 with ⟨stop, qq⟩ | ⟨go, Nx, hNx, step⟩
      · refine thnF (T.done (X.blk sd Hd scope ce fp) rfl rfl rfl hc i [] t5 _ H5 (fun _ _ => False) I5 (stat I5 n5) st5 stop) ?_
        rintro r t6 ⟨rfl, I6⟩
        have Iz : Inv X pins σ H5 t6 := Id.call' (ch := fp) I6.os I6.base I6.hok I6.bare fun b hb => let z := (fd b hb).1.2; ⟨z.2.2.1, z.1, z.2.2.2.1, z.2.2.2.2⟩
        obtain ⟨m, hn, _⟩ := I6.loc
        have nC : H5 sd.heap.objs.size = none := cL ▸ (show H5 ce.locals = none from I6.free)
        exact hR D sd.heap.objs.size t6 m H5 Iz qq (cL ▸ (show t6.heap.Ns ce.locals m from hn)) (Id.fpOk (Nat.le_refl _) nC)
      · refine thnF (T.item (X.blk sd Hd scope ce fp) rfl rfl rfl hc i [] t5 _ H5 (fun _ _ => False) I5 (stat I5 n5) st5 go) ?_
        rintro r t6 ⟨u, rfl, h6⟩
        refine thnF h6 ?_
        rintro _ t7 ⟨x, H7, I7, r7, y7, st7, n7⟩
        refine thnF (P1.run _ t7 _ H7 x u _ (I7.pinned (stat I7 n7) (T.obj _ _ st7)) r7 (step x H7 y7)) ?_
        rintro _ t8 ⟨σ8, H8, I8, hw8, q8⟩
        refine thnF (P2.run _ t8 σ8 H8 _ I8 q8) ?_
        rintro b t9 ⟨H9, I9, q9⟩
        have fin : ∀ {s' : Shared} {H' : Hp}, Inv (X.blk sd Hd scope ce fp) ([] ++ pinsAt fp t7.heap) σ8 H' s' → Nx H' → ∃ m, m < n ∧ ∃ i H', Inv (X.blk sd Hd scope ce fp) [] (wipe σ (own.map (·.2))) H' s' ∧ tn i s'.heap ∧ (∀ b ∈ fp, H' b = none) ∧ W i m H' := fun {s' H'} I' nx => by
          obtain ⟨m', hm, w'⟩ := hNx H' nx
          have pn : ∀ b ∈ fp, ∀ o, t7.heap.get? b = some o → s'.heap.get? b = some o ∧ H' b = none := fun b hb o e => let z := I'.pin (b, o) (List.mem_append_right _ (List.mem_append_right _ (mem_pinsAt hb e))); ⟨z.1, z.2.1⟩
          refine ⟨m', hm, i + 1, H', (I'.unpinned (pins := [])).weak (by rw [← hw8, wipe_length]) (fun j v e => (wipe_some (hw8.symm ▸ e)).1), T.keep _ _ _ st7 fun b hb o e => (pn b hb o e).1, fun b hb => ?_, w'⟩
          obtain ⟨o, e, _⟩ := T.obj _ _ st7 b hb
          exact (pn b hb o e).2
        cases b with
        | false => exact fin I9 (by simpa using q9)
        | true =>
          have q9' := if_pos (c := true = true) rfl ▸ q9
          simp only [if_true] at q9 ⊢
          refine thnF (P3.run _ t9 σ8 H9 _ I9 q9) ?_
          rintro z t10 ⟨yk, Ha, Ia, ra, qa⟩
          refine thnF (P4.run _ t10 σ8 Ha _ Ia qa) ?_
          rintro z2 t11 ⟨yv, Hv, Iv, rv, kvs, k, a, rfl, ea, hDv, hzv, nx⟩
          obtain rfl : z = Value.ref a := by first | exact ra | (cases ra; rfl)
          exact put (X := X.blk sd Hd scope ce fp) hu Iv hDv hzv ea rv fun t12 I12 => fin I12 nx
    first | exact loop | exact T.self X.A 0 _ _ _ ste loop
end
end DcT
namespace Fn
open PySem PySem.Spec PyProof.Rows L2 DcT
end Fn
set_option Elab.async false
set_option linter.all false
set_option maxRecDepth 100000
set_option maxHeartbeats 1000000
namespace Fn
open PySem PySem.Spec PyProof.Rows L2
end Fn
set_option Elab.async false
set_option linter.all false
set_option maxRecDepth 100000
set_option maxHeartbeats 1000000
namespace Fn
open PySem PySem.Spec PyProof.Rows L2 L2.DX
end Fn
set_option Elab.async false
set_option linter.all false
set_option maxRecDepth 100000
set_option maxHeartbeats 2000000
namespace Fn
open PySem PySem.Spec PyProof.Rows L2 PySem.Froz L2.DX
end Fn
set_option Elab.async false
set_option linter.all false
set_option maxRecDepth 100000
set_option maxHeartbeats 2000000
namespace Fn
open PySem PySem.Spec PyProof.Rows L2 PySem.Froz L2.DX
end Fn
set_option Elab.async false
set_option linter.all false
set_option maxRecDepth 100000
set_option maxHeartbeats 2000000
namespace Fn
open PySem PySem.Spec PyProof.Rows L2
end Fn
set_option Elab.async false
set_option linter.all false
set_option maxRecDepth 100000
set_option maxHeartbeats 1000000
namespace Fn
open PySem PySem.Spec PyProof.Rows L2
end Fn
set_option Elab.async false
set_option linter.all false
set_option maxRecDepth 100000
set_option maxHeartbeats 1000000
namespace Fn
open PySem PySem.Spec PyProof.Rows L2
end Fn
set_option Elab.async false
set_option linter.all false
set_option maxRecDepth 100000
set_option maxHeartbeats 1000000
namespace Fn
open PySem PySem.Spec PyProof.Rows L2
end Fn
set_option Elab.async false
set_option linter.all false
set_option maxRecDepth 100000
set_option maxHeartbeats 1000000
namespace Fn
open PySem PySem.Spec PyProof.Rows L2
end Fn
set_option Elab.async false
set_option linter.all false
set_option maxRecDepth 100000
set_option maxHeartbeats 1000000
namespace Fn
open PySem PySem.Spec PyProof.Rows L2 L2.DX
end Fn
set_option Elab.async false
set_option linter.all false
set_option maxRecDepth 100000
set_option maxHeartbeats 1000000
namespace Fn
open PySem PySem.Spec PyProof.Rows L2
end Fn
set_option Elab.async false
set_option linter.all false
set_option maxRecDepth 100000
set_option maxHeartbeats 2000000
namespace PySem.SeqAt
open AutoSeq1 (wpAny_loadPart')
open MeetsSeq MeetsSeq2 MeetsSeq3 SeqRoads2
end PySem.SeqAt
namespace PySem.W
open Lean Elab Tactic Meta PySem PySem.Calls PyProof.Rows PyProof.V PySem.Spec
end PySem.W
namespace Fn
open PySem PySem.Spec PyProof.Rows L2
end Fn
set_option Elab.async false
set_option linter.all false
set_option maxRecDepth 100000
set_option maxHeartbeats 2000000
namespace Fn
open PySem PySem.Spec PyProof.Rows L2 L2.DX
end Fn
set_option Elab.async false
set_option linter.all false
set_option maxRecDepth 100000
set_option maxHeartbeats 4000000
namespace K21
open PySem PySem.Spec PyProof.Rows L2 Fn
def topS (i : Nat) : Stmt := PySem.Challenge.pw_grantchain_k21_tables_by_rows.main.body.getD i (.Pass ⟨0, 0, 0, 0⟩)
abbrev s_Table___init__ : Stmt := inClass (topS 1) 0
theorem sc_Table___init__ : FnScope ["self"] ["self"] (defScope s_Table___init__) := ⟨rfl, rfl, rfl, by decide +kernel, rfl, by decide +kernel, by decide +kernel⟩
/-- Table.__init__(self); slots: 0 self -/
noncomputable def B_Table___init__ : FS := (mSeq (mFldSet 0 "used" (mVar 0) (mLst true aNil)) (mSeq (mFldSet 0 "there" (mVar 0) mDNewK) (mFldSet 0 "known" (mVar 0) mDNewT)))
noncomputable def g_Table___init__ : FD := runB B_Table___init__ 1
abbrev s_Table_free_place : Stmt := inClass (topS 1) 2
theorem sc_Table_free_place : FnScope ["self", "place"] ["self"] (defScope s_Table_free_place) := ⟨rfl, rfl, rfl, by decide +kernel, rfl, by decide +kernel, by decide +kernel⟩
/-- Table.free_place(self); slots: 0 self, 1 place -/
noncomputable def T_Table_free_place_0 : FT := (bOf (mOp (oInA false) (mVar 1) (mFld 0 "there" (mVar 0))))
noncomputable def L_Table_free_place_1 : FS := (mAug 1 (oI fun i j => .int (i + j)) (mC (.int 1)))
noncomputable def B_Table_free_place : FS := (mSeq (mSet 1 (mC (.int 0))) (mSeq (mWhile T_Table_free_place_0 L_Table_free_place_1) (mRet (mVar 1))))
noncomputable def g_Table_free_place : FD := runB B_Table_free_place 2
abbrev s_Table_leads : Stmt := inClass (topS 1) 4
theorem sc_Table_leads : FnScope ["self", "handle", "place", "turn"] ["self", "handle"] (defScope s_Table_leads) := ⟨rfl, rfl, rfl, by decide +kernel, rfl, by decide +kernel, by decide +kernel⟩
/-- Table.leads(self, handle); slots: 0 self, 1 handle, 2 place, 3 turn -/
noncomputable def B_Table_leads : FS := (mSeq (mAsg (mVar 1) (gT 2 (gsCons (gN 2) (gsCons (gN 3) gsNil)))) (mSeq (mIfS (tOrM (bOf (mOp (oInA true) (mVar 2) (mFld 0 "there" (mVar 0)))) (bOf (mOp (oEq true) (mOp oIxA (mOp oIxA (mFld 0 "there" (mVar 0)) (mVar 2)) (mC (.int 0))) (mVar 3)))) (mRet (mC .non)) mPass) (mRet (mOp oIxA (mOp oIxA (mFld 0 "there" (mVar 0)) (mVar 2)) (mC (.int 1))))))
noncomputable def g_Table_leads : FD := runB B_Table_leads 4
abbrev s_Table_handles : Stmt := inClass (topS 1) 6
theorem sc_Table_handles : FnScope ["self", "place", "turn", "thing"] ["self"] (defScope s_Table_handles) := ⟨rfl, rfl, rfl, by decide +kernel, rfl, by decide +kernel, by decide +kernel⟩
/-- Table.handles(self); slots: 0 self, 1 place, 2 turn, 3 thing -/
noncomputable def C_Table_handles_0 : FE := (mTup (aCons (mVar 1) (aCons (mVar 2) aNil)))
noncomputable def B_Table_handles : FS := (mRet (mCall (oSorted false) (aCons (mLockE (mFld 0 "there" (mVar 0)) (mLc false [1, 2, 3] (iItemsA (mFld 0 "there" (mVar 0))) (gT 2 (gsCons (gN 1) (gsCons (gT 2 (gsCons (gN 2) (gsCons (gN 3) gsNil))) gsNil))) tsYes C_Table_handles_0)) aNil)))
noncomputable def g_Table_handles : FD := runB B_Table_handles 4
abbrev s_ever : Stmt := topS 5
theorem sc_ever : FnScope ["rows", "being", "row"] ["rows", "being"] (defScope s_ever) := ⟨rfl, rfl, rfl, by decide +kernel, rfl, by decide +kernel, by decide +kernel⟩
/-- ever(rows, being); slots: 0 rows, 1 being, 2 row -/
noncomputable def T_ever_0 : FT := (tAndM (bOf (mOp (oEq false) (mOp oIx (mVar 2) (mC (.int 0))) (mC (.str [112, 117, 116])))) (bOf (mOp (oEq false) (mOp oIx (mVar 2) (mC (.int 2))) (mVar 1))))
noncomputable def C_ever_1 : FE := (mTup (aCons (mOp oIx (mVar 2) (mC (.int 3))) (aCons (mOp oIx (mVar 2) (mC (.int 4))) aNil)))
noncomputable def B_ever : FS := (mRet (mLc true [2] (iSq (mVar 0)) (gN 2) T_ever_0 C_ever_1))
noncomputable def g_ever : FD := runB B_ever 3
abbrev s_law_cell : Stmt := topS 7
theorem sc_law_cell : FnScope ["_law_script", "_law_k", "_law_number_here"] ["_law_script", "_law_k"] (defScope s_law_cell) := ⟨rfl, rfl, rfl, by decide +kernel, rfl, by decide +kernel, by decide +kernel⟩
/-- _law_cell(_law_script, _law_k); slots: 0 _law_script, 1 _law_k, 2 _law_number_here -/
noncomputable def B_law_cell : FS := (mSeq (mIfS (bOf (mOp oLt (mVar 1) (mCall oLen (aCons (mVar 0) aNil)))) (mRet (mOp oIx (mVar 0) (mVar 1))) mPass) (mSeq (mSet 2 (mOp (oAdd false) (mOp (oMul false) (mVar 1) (mC (.int 7919))) (mC (.int 5)))) (mSeq (mIfS (bOf (mOp oGt (mCall oLen (aCons (mVar 0) aNil)) (mC (.int 0)))) (mSet 2 (mOp (oAdd false) (mOp (oMul false) (mOp oMod (mOp oIx (mVar 0) (mOp oMod (mOp (oMul false) (mVar 1) (mC (.int 7))) (mCall oLen (aCons (mVar 0) aNil)))) (mC (.int 2147483629))) (mC (.int 48271))) (mOp (oMul false) (mVar 1) (mC (.int 7919))))) mPass) (mRet (mOp (oMul false) (mOp oMod (mVar 2) (mC (.int 2147483647))) (mC (.int 31)))))))
noncomputable def g_law_cell : FD := runB B_law_cell 3
abbrev s_law_draw : Stmt := topS 9
theorem sc_law_draw : FnScope ["_law_flow_here", "_law_wide", "_law_digit", "_law_number_here"] ["_law_flow_here", "_law_wide"] (defScope s_law_draw) := ⟨rfl, rfl, rfl, by decide +kernel, rfl, by decide +kernel, by decide +kernel⟩
/-- _law_draw(_law_flow_here, _law_wide); slots: 0 _law_flow_here, 1 _law_wide, 2 _law_digit, 3 _law_number_here -/
noncomputable def B_law_draw : FS := (mSeq (mIfS (bOf (mOp oGt (mOp oIx (mVar 0) (mC (.int 0))) (mC (.int 0)))) (mSeq (mSet 2 (mOp oMod (mOp oIx (mVar 0) (mC (.int 0))) (mVar 1))) (mSeq (mAsg (mOp oDiv (mOp oIx (mVar 0) (mC (.int 0))) (mVar 1)) (gIx (mVar 0) (mC (.int 0)))) (mRet (mVar 2)))) mPass) (mSeq (mAsg (mOp (oAdd false) (mOp oIx (mVar 0) (mC (.int 1))) (mC (.int 1))) (gIx (mVar 0) (mC (.int 1)))) (mSeq (mSet 3 (mOp oMod (mOp (oAdd false) (mOp (oAdd false) (mOp (oMul false) (mOp oIx (mVar 0) (mC (.int 2))) (mOp (oAdd false) (mC (.int 48271)) (mOp (oMul false) (mC (.int 2)) (mOp oIx (mVar 0) (mC (.int 1)))))) (mOp (oMul false) (mC (.int 7919)) (mOp oIx (mVar 0) (mC (.int 1))))) (mC (.int 1))) (mC (.int 2147483629)))) (mSeq (mSet 3 (mOp oMod (mOp (oMul false) (mVar 3) (mVar 3)) (mC (.int 2147483587)))) (mRet (mOp oMod (mOp oDiv (mOp oMod (mOp (oMul false) (mOp (oAdd false) (mVar 3) (mC (.int 5))) (mOp (oAdd false) (mVar 3) (mC (.int 40692)))) (mC (.int 2147483579))) (mC (.int 31))) (mVar 1)))))))
noncomputable def g_law_draw : FD := runB B_law_draw 4
abbrev s_law_forms : Stmt := topS 15
theorem sc_law_forms : FnScope ["_law_row", "_law_what", "_law_answer"] [] (defScope s_law_forms) := ⟨rfl, rfl, rfl, by decide +kernel, rfl, by decide +kernel, by decide +kernel⟩
/-- _law_forms(); slots: 0 _law_row, 1 _law_what, 2 _law_answer -/
noncomputable def B_law_forms : FS := (mSeq (mSet 0 (mDisp [((mC (.str [114, 111, 111, 116])), (mC (.str [99, 111, 117, 110, 116, 32, 99, 111, 117, 110, 116, 32, 112, 108, 97, 99, 101, 32, 114, 105, 103, 104, 116, 115, 32, 99, 111, 117, 110, 116, 32, 112, 108, 97, 99, 101, 32, 99, 111, 117, 110, 116, 63]))), ((mC (.str [99, 117, 116])), (mC (.str [99, 111, 117, 110, 116, 32, 99, 111, 117, 110, 116]))), ((mC (.str [100, 114, 111, 112])), (mC (.str [99, 111, 117, 110, 116, 32, 112, 108, 97, 99, 101, 32, 99, 111, 117, 110, 116])))])) (mSeq (mAsg (mOp (oAdd false) (mOp oIxA (mVar 0) (mC (.str [114, 111, 111, 116]))) (mC (.str [32, 97, 115, 107]))) (gIxA (mVar 0) (mC (.str [103, 114, 97, 110, 116])))) (mSeq (mAsg (mC (.str [99, 111, 117, 110, 116, 32, 112, 108, 97, 99, 101, 32, 110, 97, 109, 101, 32, 99, 111, 117, 110, 116, 32, 112, 108, 97, 99, 101, 32, 114, 105, 103, 104, 116, 115, 32, 99, 111, 117, 110, 116, 32, 97, 115, 107, 63])) (gIxA (mVar 0) (mC (.str [112, 117, 116])))) (mSeq (mAsg (mTup (aCons (mC (.str [99, 111, 117, 110, 116, 32, 99, 111, 117, 110, 116, 32, 119, 104, 97, 116])) (aCons (mC (.str [99, 111, 117, 110, 116, 32, 99, 111, 117, 110, 116, 32, 97, 110, 115, 119, 101, 114])) (aCons (mC (.str [99, 111, 117, 110, 116, 32, 97, 115, 107])) aNil)))) (gT 3 (gsCons (gIxA (mVar 0) (mC (.str [97, 115, 107]))) (gsCons (gIxA (mVar 0) (mC (.str [97, 110, 115, 119, 101, 114]))) (gsCons (gIxA (mVar 0) (mC (.str [111, 112, 101, 110]))) gsNil))))) (mSeq (mAsg (mC (.str [99, 111, 117, 110, 116, 32, 97, 115, 107, 32, 110, 97, 109, 101])) (gIxA (mVar 0) (mC (.str [110, 111])))) (mSeq (mAsg (mC (.str [99, 111, 117, 110, 116, 32, 112, 108, 97, 99, 101, 32, 112, 108, 97, 99, 101, 32, 110, 97, 109, 101, 32, 99, 104, 97, 105, 110, 32, 99, 111, 117, 110, 116, 32, 99, 111, 117, 110, 116, 32, 112, 108, 97, 99, 101, 63, 32, 97, 115, 107, 63])) (gIxA (mVar 0) (mC (.str [100, 101, 101, 100])))) (mSeq (mSet 1 (mDisp [((mC (.str [104, 97, 110, 100])), (mC (.str [112, 108, 97, 99, 101, 32, 110, 97, 109, 101, 32, 99, 111, 117, 110, 116, 32, 114, 105, 103, 104, 116, 115, 32, 99, 111, 117, 110, 116, 32, 99, 111, 117, 110, 116, 32, 112, 108, 97, 99, 101]))), ((mC (.str [99, 117, 116])), (mC (.str [112, 108, 97, 99, 101, 32, 110, 97, 109, 101, 32, 99, 111, 117, 110, 116, 32, 99, 111, 117, 110, 116])))])) (mSeq (mAsg (mC (.str [112, 108, 97, 99, 101, 32, 99, 111, 117, 110, 116, 32, 112, 108, 97, 99, 101, 32, 110, 97, 109, 101, 32, 116, 104, 105, 110, 103])) (gIxA (mVar 1) (mC (.str [99, 97, 108, 108])))) (mSeq (mSet 2 (mDisp [((mC (.str [116, 97, 107, 101, 110])), (mC (.str [110, 97, 109, 101, 32, 99, 111, 117, 110, 116]))), ((mC (.str [103, 111, 110, 101])), (mC (.str []))), ((mC (.str [100, 111, 110, 101])), (mC (.str []))), ((mC (.str [102, 111, 117, 110, 100])), (mC (.str [110, 97, 109, 101, 32, 99, 111, 117, 110, 116]))), ((mC (.str [110, 111])), (mC (.str [110, 97, 109, 101])))])) (mRet (mDisp [((mC (.str [114, 111, 119])), (mVar 0)), ((mC (.str [119, 104, 97, 116])), (mVar 1)), ((mC (.str [97, 110, 115, 119, 101, 114])), (mVar 2))])))))))))))
noncomputable def g_law_forms : FD := runB B_law_forms 3
abbrev s_law_due : Stmt := topS 25
theorem sc_law_due : FnScope ["_law_lines", "_law_being", "_law_there", "_law_used", "_law_came", "_law_row", "_law_place", "_law_k"] ["_law_lines", "_law_being"] (defScope s_law_due) := ⟨rfl, rfl, rfl, by decide +kernel, rfl, by decide +kernel, by decide +kernel⟩
/-- _law_due(_law_lines, _law_being); slots: 0 _law_lines, 1 _law_being, 2 _law_there, 3 _law_used, 4 _law_came, 5 _law_row, 6 _law_place, 7 _law_k -/
noncomputable def T_law_due_0 : FT := (bOf (mOp (oInA true) (mVar 7) (mVar 2)))
noncomputable def C_law_due_1 : FE := (mVar 7)
noncomputable def L_law_due_2 : FS := (mSeq (mIfS (tAndM (bOf (mOp (oEq false) (mOp oIxA (mVar 5) (mC (.int 0))) (mC (.str [112, 117, 116])))) (bOf (mOp (oEq false) (mOp oIxA (mVar 5) (mC (.int 2))) (mVar 1)))) (mSeq (mSet 6 (mCall oMinL (aCons (mLc false [7] (iR1 (aCons (mOp (oAdd false) (mCall oLenA (aCons (mVar 2) aNil)) (mC (.int 1))) aNil)) (gN 7) T_law_due_0 C_law_due_1) aNil))) (mSeq (mAsg (mOp (oAdd false) (mTup (aCons (mTup (aCons (mVar 6) (aCons (mMeth "dict" oGetM (mVar 3) (aCons (mVar 6) (aCons (mC (.int 0)) aNil))) aNil))) aNil)) (mSl false (mVar 5) (pSome (mC (.int 3))) (pSome (mC (.int 8))))) (gIxA (mVar 2) (mVar 6))) (mSeq (mAsg (mOp (oAdd false) (mMeth "dict" oGetM (mVar 3) (aCons (mVar 6) (aCons (mC (.int 0)) aNil))) (mC (.int 1))) (gIxA (mVar 3) (mVar 6))) (mExpr (mMeth "list" oAppend (mVar 4) (aCons (mSl false (mVar 5) (pSome (mC (.int 3))) (pSome (mC (.int 5)))) aNil)))))) mPass) (mIfS (tAndM (bOf (mOp (oEq false) (mOp oIxA (mVar 5) (mC (.int 0))) (mC (.str [100, 114, 111, 112])))) (bOf (mOp (oEq false) (mOp oIxA (mVar 5) (mC (.int 2))) (mVar 1)))) (mExpr (mMeth "dict" oPopE (mVar 2) (aCons (mOp oIxA (mVar 5) (mC (.int 3))) aNil))) mPass))
noncomputable def C_law_due_3 : FE := (mOp oIxA (mVar 2) (mVar 6))
noncomputable def B_law_due : FS := (mSeq (mAsg (mTup (aCons mDNewK (aCons mDNewK (aCons (mLst true aNil) aNil)))) (gT 3 (gsCons (gN 2) (gsCons (gN 3) (gsCons (gN 4) gsNil))))) (mSeq (mFor (iSq (mVar 0)) (gN 5) L_law_due_2) (mRet (mTup (aCons (mLc false [6] (iSq (mCall (oSortS false) (aCons (mVar 2) aNil))) (gN 6) tsYes C_law_due_3) (aCons (mVar 4) aNil))))))
noncomputable def g_law_due : FD := gcB B_law_due 8
abbrev s_Table_put : Stmt := inClass (topS 1) 3
theorem sc_Table_put : FnScope ["self", "house", "number", "thing", "place", "turn"] ["self", "house", "number"] (defScope s_Table_put) := ⟨rfl, rfl, rfl, by decide +kernel, rfl, by decide +kernel, by decide +kernel⟩
/-- Table.put(self, house, number); slots: 0 self, 1 house, 2 number, 3 thing, 4 place, 5 turn -/
noncomputable def B_Table_put : FS := (mSeq (mSet 3 (mTup (aCons (mVar 1) (aCons (mVar 2) aNil)))) (mSeq (mIfS (bOf (mOp (oInA false) (mVar 3) (mFld 0 "known" (mVar 0)))) (mRet (mC .non)) mPass) (mSeq (mAsg (mC (.bl true)) (gIxA (mFld 0 "known" (mVar 0)) (mVar 3))) (mSeq (mSet 4 (mMth 0 "free_place" 1 g_Table_free_place [] (mVar 0) aNil)) (mSeq (mIfS (bOf (mOp (oEq false) (mVar 4) (mCall oLenA (aCons (mFld 0 "used" (mVar 0)) aNil)))) (mExpr (mMeth "list" oAppend (mFld 0 "used" (mVar 0)) (aCons (mC (.int 0)) aNil))) mPass) (mSeq (mSet 5 (mOp oIxA (mFld 0 "used" (mVar 0)) (mVar 4))) (mSeq (mAugIx (oI fun i j => .int (i + j)) (mFld 0 "used" (mVar 0)) (mVar 4) (mC (.int 1))) (mSeq (mAsg (mTup (aCons (mVar 5) (aCons (mVar 3) aNil))) (gIxA (mFld 0 "there" (mVar 0)) (mVar 4))) (mRet (mTup (aCons (mVar 4) (aCons (mVar 5) aNil))))))))))))
noncomputable def g_Table_put : FD := runB B_Table_put 6
abbrev s_Table_drop : Stmt := inClass (topS 1) 5
theorem sc_Table_drop : FnScope ["self", "handle"] ["self", "handle"] (defScope s_Table_drop) := ⟨rfl, rfl, rfl, by decide +kernel, rfl, by decide +kernel, by decide +kernel⟩
/-- Table.drop(self, handle); slots: 0 self, 1 handle -/
noncomputable def B_Table_drop : FS := (mSeq (mIfS (bOf (mUn (oIsN false) (mMth 0 "leads" 2 g_Table_leads [] (mVar 0) (aCons (mVar 1) aNil)))) (mRet (mC (.bl false))) mPass) (mSeq (mExpr (mMeth "dict" oPopE (mFld 0 "there" (mVar 0)) (aCons (mOp oIxA (mVar 1) (mC (.int 0))) aNil))) (mRet (mC (.bl true)))))
noncomputable def g_Table_drop : FD := runB B_Table_drop 2
abbrev s_law_flow : Stmt := topS 8
theorem sc_law_flow : FnScope ["_law_script", "_law_k", "_law_cell_here", "_law_own"] ["_law_script", "_law_k"] (defScope s_law_flow) := ⟨rfl, rfl, rfl, by decide +kernel, rfl, by decide +kernel, by decide +kernel⟩
/-- _law_flow(_law_script, _law_k); slots: 0 _law_script, 1 _law_k, 2 _law_cell_here, 3 _law_own -/
noncomputable def B_law_flow : FS := (mSeq (mSet 2 (mFun 2 g_law_cell [] (aCons (mVar 0) (aCons (mVar 1) aNil)))) (mSeq (mSet 3 (mC (.int 0))) (mSeq (mIfS (bOf (mOp oGe (mVar 2) (mOp oPow (mC (.int 10)) (mC (.int 18))))) (mSet 3 (mVar 2)) mPass) (mRet (mLst true (aCons (mVar 3) (aCons (mC (.int 0)) (aCons (mOp (oAdd false) (mOp oMod (mVar 2) (mC (.int 2147483629))) (mOp (oMul false) (mC (.int 40692)) (mVar 1))) aNil))))))))
noncomputable def g_law_flow : FD := runB B_law_flow 4
abbrev s_law_names : Stmt := topS 10
theorem sc_law_names : FnScope ["_law_flow_here", "_law_size", "_law_letters", "_law_stem", "_law_k", "_law_at", "_law_first", "_law_longer", "_law_found", "_law_name"] ["_law_flow_here", "_law_size"] (defScope s_law_names) := ⟨rfl, rfl, rfl, by decide +kernel, rfl, by decide +kernel, by decide +kernel⟩
/-- _law_names(_law_flow_here, _law_size); slots: 0 _law_flow_here, 1 _law_size, 2 _law_letters, 3 _law_stem, 4 _law_k, 5 _law_at, 6 _law_first, 7 _law_longer, 8 _law_found, 9 _law_name -/
noncomputable def C_law_names_0 : FE := (mOp oIx (mVar 2) (mFun 2 g_law_draw [] (aCons (mVar 0) (aCons (mC (.int 26)) aNil))))
noncomputable def L_law_names_1 : FS := (mSeq (mSet 9 (mOp (oAdd false) (mOp (oAdd false) (mSl false (mVar 3) pNone (pSome (mVar 5))) (mOp oIx (mVar 2) (mOp oMod (mOp (oAdd false) (mVar 6) (mOp (oMul false) (mC (.int 7)) (mVar 4))) (mC (.int 26))))) (mSl false (mVar 3) (pSome (mVar 5)) pNone))) (mSeq (mIfS (bOf (mOp oGt (mOp (oMul false) (mVar 7) (mOp oMod (mVar 4) (mC (.int 2)))) (mC (.int 0)))) (mSet 9 (mOp (oAdd false) (mOp oIx (mVar 8) (mUn oNeg (mC (.int 1)))) (mOp oIx (mVar 2) (mOp oMod (mOp (oAdd false) (mVar 6) (mOp (oMul false) (mC (.int 7)) (mVar 4))) (mC (.int 26)))))) mPass) (mExpr (mMeth "list" oAppend (mVar 8) (aCons (mVar 9) aNil)))))
noncomputable def B_law_names : FS := (mSeq (mSet 2 (mC (.str [97, 98, 99, 100, 101, 102, 103, 104, 105, 106, 107, 108, 109, 110, 111, 112, 113, 114, 115, 116, 117, 118, 119, 120, 121, 122]))) (mSeq (mSet 3 (mMeth "str" oJoin (mC (.str [])) (aCons (mLc false [4] (iR1 (aCons (mFun 2 g_law_draw [] (aCons (mVar 0) (aCons (mC (.int 5)) aNil))) aNil)) (gN 4) tsYes C_law_names_0) aNil))) (mSeq (mPar3 5 6 7 (aCons (mFun 2 g_law_draw [] (aCons (mVar 0) (aCons (mOp (oAdd false) (mCall oLen (aCons (mVar 3) aNil)) (mC (.int 1))) aNil))) (aCons (mFun 2 g_law_draw [] (aCons (mVar 0) (aCons (mC (.int 26)) aNil))) (aCons (mFun 2 g_law_draw [] (aCons (mVar 0) (aCons (mC (.int 2)) aNil))) aNil)))) (mSeq (mSet 8 (mLst true aNil)) (mSeq (mFor (iR1 (aCons (mVar 1) aNil)) (gN 4) L_law_names_1) (mRet (mVar 8)))))))
noncomputable def g_law_names : FD := gcB B_law_names 10
abbrev s_law_number : Stmt := topS 11
theorem sc_law_number : FnScope ["_law_flow_here", "_law_form"] ["_law_flow_here"] (defScope s_law_number) := ⟨rfl, rfl, rfl, by decide +kernel, rfl, by decide +kernel, by decide +kernel⟩
/-- _law_number(_law_flow_here); slots: 0 _law_flow_here, 1 _law_form -/
noncomputable def B_law_number : FS := (mSeq (mSet 1 (mFun 2 g_law_draw [] (aCons (mVar 0) (aCons (mC (.int 8)) aNil)))) (mSeq (mIfS (bOf (mOp oLt (mVar 1) (mC (.int 6)))) (mRet (mFun 2 g_law_draw [] (aCons (mVar 0) (aCons (mOp oIx (mLst false (aCons (mC (.int 2)) (aCons (mC (.int 4)) (aCons (mC (.int 10)) (aCons (mC (.int 12)) (aCons (mC (.int 100)) (aCons (mC (.int 61)) aNil))))))) (mVar 1)) aNil)))) mPass) (mRet (mOp oIx (mLst false (aCons (mFun 2 g_law_draw [] (aCons (mVar 0) (aCons (mOp oPow (mC (.int 10)) (mC (.int 9))) aNil))) (aCons (mOp oSub (mOp oSub (mOp oPow (mC (.int 10)) (mC (.int 9))) (mC (.int 1))) (mFun 2 g_law_draw [] (aCons (mVar 0) (aCons (mC (.int 2)) aNil)))) aNil))) (mOp oSub (mVar 1) (mC (.int 6)))))))
noncomputable def g_law_number : FD := runB B_law_number 2
abbrev s_law_mixed : Stmt := topS 13
theorem sc_law_mixed : FnScope ["_law_flow_here", "_law_some", "_law_left", "_law_found"] ["_law_flow_here", "_law_some"] (defScope s_law_mixed) := ⟨rfl, rfl, rfl, by decide +kernel, rfl, by decide +kernel, by decide +kernel⟩
/-- _law_mixed(_law_flow_here, _law_some); slots: 0 _law_flow_here, 1 _law_some, 2 _law_left, 3 _law_found -/
noncomputable def T_law_mixed_0 : FT := (bOf (mOp (oEq true) (mVar 2) (mLst false aNil)))
noncomputable def L_law_mixed_1 : FS := (mExpr (mMeth "list" oAppend (mVar 3) (aCons (mMeth "list" oPopAt (mVar 2) (aCons (mFun 2 g_law_draw [] (aCons (mVar 0) (aCons (mCall oLen (aCons (mVar 2) aNil)) aNil))) aNil)) aNil)))
noncomputable def B_law_mixed : FS := (mSeq (mPar 2 3 (aCons (mCall (oList true) (aCons (mVar 1) aNil)) (aCons (mLst true aNil) aNil))) (mSeq (mWhile T_law_mixed_0 L_law_mixed_1) (mRet (mVar 3))))
noncomputable def g_law_mixed : FD := gcB B_law_mixed 4
abbrev s_law_new_ask : Stmt := topS 18
theorem sc_law_new_ask : FnScope ["_law_flow_here", "_law_world_here", "_law_found"] ["_law_flow_here", "_law_world_here"] (defScope s_law_new_ask) := ⟨rfl, rfl, rfl, by decide +kernel, rfl, by decide +kernel, by decide +kernel⟩
/-- _law_new_ask(_law_flow_here, _law_world_here); slots: 0 _law_flow_here, 1 _law_world_here, 2 _law_found -/
noncomputable def T_law_new_ask_0 : FT := (bOf (mOp (oInA false) (mVar 2) (mOp oIxA (mVar 1) (mC (.str [97, 115, 107, 101, 100])))))
noncomputable def L_law_new_ask_1 : FS := (mSet 2 (mTup (aCons (mOp oIxA (mVar 2) (mC (.int 0))) (aCons (mOp (oAdd false) (mOp oIxA (mVar 2) (mC (.int 1))) (mC (.int 1))) aNil))))
noncomputable def B_law_new_ask : FS := (mSeq (mSet 2 (mTup (aCons (mOp oIxA (mOp oIxA (mVar 1) (mC (.str [104, 111, 109, 101, 115]))) (mFun 2 g_law_draw [] (aCons (mVar 0) (aCons (mC (.int 3)) aNil)))) (aCons (mFun 2 g_law_draw [] (aCons (mVar 0) (aCons (mC (.int 60)) aNil))) aNil)))) (mSeq (mWhile T_law_new_ask_0 L_law_new_ask_1) (mSeq (mExpr (mMeth "list" oAppend (mOp oIxA (mVar 1) (mC (.str [97, 115, 107, 101, 100]))) (aCons (mVar 2) aNil))) (mRet (mVar 2)))))
noncomputable def g_law_new_ask : FD := runB B_law_new_ask 3
abbrev s_replayed : Stmt := topS 3
theorem sc_replayed : FnScope ["rows", "being", "found", "things", "word", "tick", "parts", "handle"] ["rows", "being"] (defScope s_replayed) := ⟨rfl, rfl, rfl, by decide +kernel, rfl, by decide +kernel, by decide +kernel⟩
/-- replayed(rows, being); slots: 0 rows, 1 being, 2 found, 3 things, 4 word, 5 tick, 6 parts, 7 handle -/
noncomputable def L_replayed_0 : FS := (mIfS (bOf (mOp (oEq false) (mOp oIxA (mVar 7) (mC (.int 0))) (mOp oIxA (mVar 6) (mC (.int 1))))) (mExpr (mMth 0 "drop" 2 g_Table_drop [] (mVar 2) (aCons (mVar 7) aNil))) mPass)
noncomputable def L_replayed_1 : FS := (mSeq (mIfS (tAndM (bOf (mOp (oEq false) (mVar 4) (mC (.str [112, 117, 116])))) (bOf (mOp (oEq false) (mOp oIxA (mVar 6) (mC (.int 0))) (mVar 1)))) (mSeq (mExpr (mMth 0 "put" 3 g_Table_put [] (mVar 2) (aCons (mOp oIxA (mVar 6) (mC (.int 1))) (aCons (mOp oIxA (mVar 6) (mC (.int 2))) aNil)))) (mAsg (mCall oTuple (aCons (mSl false (mVar 6) (pSome (mC (.int 3))) (pSome (mC (.int 6)))) aNil)) (gIxA (mVar 3) (mTup (aCons (mOp oIxA (mVar 6) (mC (.int 1))) (aCons (mOp oIxA (mVar 6) (mC (.int 2))) aNil)))))) mPass) (mIfS (tAndM (bOf (mOp (oEq false) (mVar 4) (mC (.str [100, 114, 111, 112])))) (bOf (mOp (oEq false) (mOp oIxA (mVar 6) (mC (.int 0))) (mVar 1)))) (mFor (iSq (mMth 0 "handles" 1 g_Table_handles [] (mVar 2) aNil)) (gN 7) L_replayed_0) mPass))
noncomputable def B_replayed : FS := (mSeq (mPar 2 3 (aCons (mMake 0 1 g_Table___init__ [] aNil) (aCons mDNewT aNil))) (mSeq (mFor (iSq (mVar 0)) (gS 3 2 (gsCons (gN 4) (gsCons (gN 5) (gsCons (gN 6) gsNil)))) L_replayed_1) (mRet (mTup (aCons (mVar 2) (aCons (mVar 3) aNil))))))
noncomputable def g_replayed : FD := runB B_replayed 8
abbrev s_law_rights : Stmt := topS 12
theorem sc_law_rights : FnScope ["_law_flow_here", "_law_names_here", "_law_found"] ["_law_flow_here", "_law_names_here"] (defScope s_law_rights) := ⟨rfl, rfl, rfl, by decide +kernel, rfl, by decide +kernel, by decide +kernel⟩
/-- _law_rights(_law_flow_here, _law_names_here); slots: 0 _law_flow_here, 1 _law_names_here, 2 _law_found -/
noncomputable def B_law_rights : FS := (mSeq (mSet 2 (mCall (oSorted false) (aCons (mSl false (mFun 2 g_law_mixed [] (aCons (mVar 0) (aCons (mVar 1) aNil))) pNone (pSome (mOp (oAdd false) (mC (.int 1)) (mFun 2 g_law_draw [] (aCons (mVar 0) (aCons (mC (.int 4)) aNil)))))) aNil))) (mRet (mCall oTuple (aCons (mVar 2) aNil))))
noncomputable def g_law_rights : FD := runB B_law_rights 3
abbrev s_law_world : Stmt := topS 16
theorem sc_law_world : FnScope ["_law_flow_here", "_law_names_here", "_law_world_here", "_law_name"] ["_law_flow_here"] (defScope s_law_world) := ⟨rfl, rfl, rfl, by decide +kernel, rfl, by decide +kernel, by decide +kernel⟩
/-- _law_world(_law_flow_here); slots: 0 _law_flow_here, 1 _law_names_here, 2 _law_world_here, 3 _law_name -/
noncomputable def C_law_world_0 : FE := (mTup (aCons (mOp oIxA (mVar 1) (mC (.int 0))) (aCons (mVar 3) aNil)))
noncomputable def B_law_world : FS := (mSeq (mSet 1 (mFun 2 g_law_names [] (aCons (mVar 0) (aCons (mC (.int 14)) aNil)))) (mSeq (mSet 2 (mDisp [((mC (.str [104, 101, 114, 101])), (mOp oIxA (mVar 1) (mC (.int 0)))), ((mC (.str [104, 111, 109, 101, 115])), (mSl false (mVar 1) pNone (pSome (mC (.int 3))))), ((mC (.str [114, 105, 103, 104, 116, 115])), (mSl false (mVar 1) (pSome (mC (.int 7))) (pSome (mC (.int 12))))), ((mC (.str [119, 111, 114, 100, 115])), (mSl false (mVar 1) (pSome (mC (.int 12))) pNone)), ((mC (.str [108, 105, 110, 101, 115])), (mLst true aNil)), ((mC (.str [116, 105, 99, 107])), (mC (.int 0)))])) (mSeq (mAsg (mLc false [3] (iSq (mSl false (mVar 1) (pSome (mC (.int 3))) (pSome (mC (.int 6))))) (gN 3) tsYes C_law_world_0) (gIxA (mVar 2) (mC (.str [102, 111, 108, 107])))) (mSeq (mAsg (mTup (aCons mDNewN (aCons (mLst true aNil) (aCons (mC (.int 0)) (aCons (mLst true aNil) aNil))))) (gT 4 (gsCons (gIxA (mVar 2) (mC (.str [116, 104, 101, 114, 101]))) (gsCons (gIxA (mVar 2) (mC (.str [98, 111, 111, 107]))) (gsCons (gIxA (mVar 2) (mC (.str [97, 115, 107, 115]))) (gsCons (gIxA (mVar 2) (mC (.str [111, 112, 101, 110]))) gsNil)))))) (mSeq (mAsg (mTup (aCons (mC (.int 0)) (aCons (mLst true aNil) aNil))) (gT 2 (gsCons (gIxA (mVar 2) (mC (.str [99, 97, 109, 101]))) (gsCons (gIxA (mVar 2) (mC (.str [97, 115, 107, 101, 100]))) gsNil)))) (mRet (mVar 2)))))))
noncomputable def g_law_world : FD := runB B_law_world 4
abbrev s_table : Stmt := topS 4
theorem sc_table : FnScope ["rows", "being", "found", "things", "handle"] ["rows", "being"] (defScope s_table) := ⟨rfl, rfl, rfl, by decide +kernel, rfl, by decide +kernel, by decide +kernel⟩
/-- table(rows, being); slots: 0 rows, 1 being, 2 found, 3 things, 4 handle -/
noncomputable def C_table_0 : FE := (mOp (oAdd false) (mOp (oAdd false) (mTup (aCons (mVar 4) aNil)) (mMth 0 "leads" 2 g_Table_leads [] (mVar 2) (aCons (mVar 4) aNil))) (mOp oIxA (mVar 3) (mMth 0 "leads" 2 g_Table_leads [] (mVar 2) (aCons (mVar 4) aNil))))
noncomputable def B_table : FS := (mSeq (mAsg (mFun 2 g_replayed [] (aCons (mVar 0) (aCons (mVar 1) aNil))) (gT 2 (gsCons (gN 2) (gsCons (gN 3) gsNil)))) (mRet (mLc true [4] (iSq (mMth 0 "handles" 1 g_Table_handles [] (mVar 2) aNil)) (gN 4) tsYes C_table_0)))
noncomputable def g_table : FD := runB B_table 5
abbrev s_law_put_row : Stmt := topS 17
theorem sc_law_put_row : FnScope ["_law_flow_here", "_law_world_here", "_law_being", "_law_ask", "_law_place", "_law_home", "_law_things", "_law_number_here", "_law_rights_here"] ["_law_flow_here", "_law_world_here", "_law_being", "_law_ask"] (defScope s_law_put_row) := ⟨rfl, rfl, rfl, by decide +kernel, rfl, by decide +kernel, by decide +kernel⟩
/-- _law_put_row(_law_flow_here, _law_world_here, _law_being, _law_ask); slots: 0 _law_flow_here, 1 _law_world_here, 2 _law_being, 3 _law_ask, 4 _law_place, 5 _law_home, 6 _law_things, 7 _law_number_here, 8 _law_rights_here -/
noncomputable def T_law_put_row_0 : FT := (bOf (mOp (oInA false) (mTup (aCons (mVar 2) (aCons (mVar 4) aNil))) (mOp oIxA (mVar 1) (mC (.str [116, 104, 101, 114, 101])))))
noncomputable def L_law_put_row_1 : FS := (mSet 4 (mOp (oAdd false) (mVar 4) (mC (.int 1))))
noncomputable def B_law_put_row : FS := (mSeq (mAsg (mOp (oAdd false) (mOp oIxA (mVar 1) (mC (.str [99, 97, 109, 101]))) (mC (.int 1))) (gIxA (mVar 1) (mC (.str [99, 97, 109, 101])))) (mSeq (mSet 4 (mC (.int 0))) (mSeq (mWhile T_law_put_row_0 L_law_put_row_1) (mSeq (mAsg (mC (.bl true)) (gIxA (mOp oIxA (mVar 1) (mC (.str [116, 104, 101, 114, 101]))) (mTup (aCons (mVar 2) (aCons (mVar 4) aNil))))) (mSeq (mSet 5 (mOp oIxA (mOp oIxA (mVar 1) (mC (.str [104, 111, 109, 101, 115]))) (mFun 2 g_law_draw [] (aCons (mVar 0) (aCons (mC (.int 3)) aNil))))) (mSeq (mSet 6 (mTup (aCons (mVar 5) (aCons (mOp oIxA (mOp oIxA (mVar 1) (mC (.str [119, 111, 114, 100, 115]))) (mFun 2 g_law_draw [] (aCons (mVar 0) (aCons (mC (.int 2)) aNil)))) aNil)))) (mSeq (mSet 7 (mOp (oAdd false) (mOp oIxA (mLst false (aCons (mOp oIxA (mVar 1) (mC (.str [99, 97, 109, 101]))) (aCons (mOp oSub (mC (.int 1000)) (mOp oIxA (mVar 1) (mC (.str [99, 97, 109, 101])))) aNil))) (mFun 2 g_law_draw [] (aCons (mVar 0) (aCons (mC (.int 2)) aNil)))) (mOp (oMul false) (mC (.int 2000)) (mFun 2 g_law_draw [] (aCons (mVar 0) (aCons (mC (.int 2)) aNil)))))) (mSeq (mSet 8 (mFun 2 g_law_rights [] (aCons (mVar 0) (aCons (mOp oIxA (mVar 1) (mC (.str [114, 105, 103, 104, 116, 115]))) aNil)))) (mRet (mTup (aCons (mC (.str [112, 117, 116])) (aCons (mOp oIxA (mVar 1) (mC (.str [116, 105, 99, 107]))) (aCons (mVar 2) (aCons (mVar 5) (aCons (mVar 7) (aCons (mVar 6) (aCons (mVar 8) (aCons (mFun 2 g_law_draw [] (aCons (mVar 0) (aCons (mC (.int 9)) aNil))) (aCons (mVar 3) aNil)))))))))))))))))))
noncomputable def g_law_put_row : FD := runB B_law_put_row 9
abbrev s_law_grant_row : Stmt := topS 20
theorem sc_law_grant_row : FnScope ["_law_flow_here", "_law_world_here", "_law_ask", "_law_number_here", "_law_holder", "_law_far", "_law_k", "_law_grant", "_law_parent", "_law_place", "_law_few", "_law_elder"] ["_law_flow_here", "_law_world_here", "_law_ask"] (defScope s_law_grant_row) := ⟨rfl, rfl, rfl, by decide +kernel, rfl, by decide +kernel, by decide +kernel⟩
/-- _law_grant_row(_law_flow_here, _law_world_here, _law_ask); slots: 0 _law_flow_here, 1 _law_world_here, 2 _law_ask, 3 _law_number_here, 4 _law_holder, 5 _law_far, 6 _law_k, 7 _law_grant, 8 _law_parent, 9 _law_place, 10 _law_few, 11 _law_elder -/
noncomputable def T_law_grant_row_0 : FT := (bOf (mOp oGt (mOp oIxA (mVar 7) (mC (.int 3))) (mC (.int 0))))
noncomputable def C_law_grant_row_1 : FE := (mVar 6)
noncomputable def B_law_grant_row : FS := (mSeq (mPar 3 4 (aCons (mCall oLenA (aCons (mOp oIxA (mVar 1) (mC (.str [98, 111, 111, 107]))) aNil)) (aCons (mTup (aCons (mOp oIxA (mOp oIxA (mVar 1) (mC (.str [104, 111, 109, 101, 115]))) (mFun 2 g_law_draw [] (aCons (mVar 0) (aCons (mC (.int 3)) aNil)))) (aCons (mOp oIxA (mOp oIxA (mVar 1) (mC (.str [119, 111, 114, 100, 115]))) (mFun 2 g_law_draw [] (aCons (mVar 0) (aCons (mC (.int 2)) aNil)))) aNil))) aNil))) (mSeq (mSet 5 (mLc false [6, 7] (iEnumX (mOp oIxA (mVar 1) (mC (.str [98, 111, 111, 107])))) (gT 2 (gsCons (gN 6) (gsCons (gN 7) gsNil))) T_law_grant_row_0 C_law_grant_row_1)) (mSeq (mIfS (tAndM (bOf (mUn (oIsN true) (mVar 2))) (bOf (mOp (oEq false) (mVar 5) (mLst false aNil)))) (mRet (mTup (aCons (mC (.str [110, 111])) (aCons (mOp oIxA (mVar 1) (mC (.str [116, 105, 99, 107]))) (aCons (mVar 2) (aCons (mC (.str [103, 111, 110, 101])) aNil)))))) mPass) (mSeq (mSet 8 (mIf (tOrM (bOf (mOp (oEq false) (mVar 5) (mLst false aNil))) (tAndM (bOf (mUn (oIsN false) (mVar 2))) (bOf (mOp (oEq false) (mFun 2 g_law_draw [] (aCons (mVar 0) (aCons (mC (.int 2)) aNil))) (mC (.int 0)))))) (mC .non) (mOp oIxA (mVar 5) (mFun 2 g_law_draw [] (aCons (mVar 0) (aCons (mCall oLenA (aCons (mVar 5) aNil)) aNil)))))) (mSeq (mIfS (bOf (mUn (oIsN false) (mVar 8))) (mPar3 9 10 5 (aCons (mTup (aCons (mOp oIxA (mVar 1) (mC (.str [104, 101, 114, 101]))) (aCons (mOp oIxA (mOp oIxA (mVar 1) (mC (.str [119, 111, 114, 100, 115]))) (mFun 2 g_law_draw [] (aCons (mVar 0) (aCons (mC (.int 2)) aNil)))) aNil))) (aCons (mOp oIxA (mVar 1) (mC (.str [114, 105, 103, 104, 116, 115]))) (aCons (mOp (oAdd false) (mC (.int 1)) (mFun 2 g_law_draw [] (aCons (mVar 0) (aCons (mC (.int 8)) aNil)))) aNil)))) (mAsg (mSl false (mOp oIxA (mOp oIxA (mVar 1) (mC (.str [98, 111, 111, 107]))) (mVar 8)) pNone (pSome (mC (.int 4)))) (gT 4 (gsCons (gN 11) (gsCons (gN 9) (gsCons (gN 10) (gsCons (gN 5) gsNil))))))) (mSeq (mSet 7 (mTup (aCons (mVar 3) (aCons (mVar 9) (aCons (mFun 2 g_law_rights [] (aCons (mVar 0) (aCons (mVar 10) aNil))) (aCons (mFun 2 g_law_draw [] (aCons (mVar 0) (aCons (mVar 5) aNil))) (aCons (mVar 4) (aCons (mVar 8) aNil)))))))) (mSeq (mExpr (mMeth "list" oAppend (mOp oIxA (mVar 1) (mC (.str [98, 111, 111, 107]))) (aCons (mVar 7) aNil))) (mRet (mIf (bOf (mUn (oIsN false) (mVar 2))) (mOp (oAdd false) (mTup (aCons (mC (.str [114, 111, 111, 116])) (aCons (mOp oIxA (mVar 1) (mC (.str [116, 105, 99, 107]))) aNil))) (mVar 7)) (mOp (oAdd false) (mOp (oAdd false) (mTup (aCons (mC (.str [103, 114, 97, 110, 116])) (aCons (mOp oIxA (mVar 1) (mC (.str [116, 105, 99, 107]))) aNil))) (mVar 7)) (mTup (aCons (mVar 2) aNil))))))))))))
noncomputable def g_law_grant_row : FD := runB B_law_grant_row 12
abbrev s_law_part : Stmt := topS 14
theorem sc_law_part : FnScope ["_law_flow_here", "_law_names_here", "_law_form", "_law_k", "_law_lot", "_law_word", "_law_one"] ["_law_flow_here", "_law_names_here", "_law_form"] (defScope s_law_part) := ⟨rfl, rfl, rfl, by decide +kernel, rfl, by decide +kernel, by decide +kernel⟩
/-- _law_part(_law_flow_here, _law_names_here, _law_form); slots: 0 _law_flow_here, 1 _law_names_here, 2 _law_form, 3 _law_k, 4 _law_lot, 5 _law_word, 6 _law_one -/
noncomputable def C_law_part_0 (r : FD) : FE := (mFun 1 g_law_number [] (aCons (mVar 0) aNil))
noncomputable def C_law_part_1 (r : FD) : FE := (mFun 3 r [] (aCons (mVar 0) (aCons (mVar 1) (aCons (mVar 6) aNil))))
noncomputable def B_law_part (r : FD) : FS := (mSeq (mIfS (bOf (mOp (oEq false) (mOp oIxA (mVar 2) (mUn oNeg (mC (.int 1)))) (mC (.str [63])))) (mRet (mIf (bOf (mOp (oEq false) (mFun 2 g_law_draw [] (aCons (mVar 0) (aCons (mC (.int 2)) aNil))) (mC (.int 0)))) (mC .non) (mFun 3 r [] (aCons (mVar 0) (aCons (mVar 1) (aCons (mSl false (mVar 2) pNone (pSome (mUn oNeg (mC (.int 1))))) aNil)))))) mPass) (mSeq (mIfS (bOf (mOp (oEq false) (mVar 2) (mC (.str [99, 111, 117, 110, 116])))) (mRet (mFun 1 g_law_number [] (aCons (mVar 0) aNil))) mPass) (mSeq (mIfS (bOf (mOp (oEq false) (mVar 2) (mC (.str [110, 97, 109, 101])))) (mRet (mOp oIxA (mVar 1) (mFun 2 g_law_draw [] (aCons (mVar 0) (aCons (mCall oLenA (aCons (mVar 1) aNil)) aNil))))) mPass) (mSeq (mIfS (bOf (mOp (oEq false) (mVar 2) (mC (.str [112, 108, 97, 99, 101])))) (mRet (mTup (aCons (mOp oIxA (mVar 1) (mFun 2 g_law_draw [] (aCons (mVar 0) (aCons (mCall oLenA (aCons (mVar 1) aNil)) aNil)))) (aCons (mOp oIxA (mVar 1) (mFun 2 g_law_draw [] (aCons (mVar 0) (aCons (mCall oLenA (aCons (mVar 1) aNil)) aNil)))) aNil)))) mPass) (mSeq (mIfS (bOf (mOp (oEq false) (mVar 2) (mC (.str [97, 115, 107])))) (mRet (mTup (aCons (mOp oIxA (mVar 1) (mFun 2 g_law_draw [] (aCons (mVar 0) (aCons (mCall oLenA (aCons (mVar 1) aNil)) aNil)))) (aCons (mFun 1 g_law_number [] (aCons (mVar 0) aNil)) aNil)))) mPass) (mSeq (mIfS (bOf (mOp (oEq false) (mVar 2) (mC (.str [114, 105, 103, 104, 116, 115])))) (mRet (mFun 2 g_law_rights [] (aCons (mVar 0) (aCons (mVar 1) aNil)))) mPass) (mSeq (mIfS (bOf (mOp (oEq false) (mVar 2) (mC (.str [99, 104, 97, 105, 110])))) (mRet (mCall oTuple (aCons (mLc false [3] (iR1 (aCons (mOp (oAdd false) (mC (.int 1)) (mFun 2 g_law_draw [] (aCons (mVar 0) (aCons (mOp oIxA (mLst false (aCons (mC (.int 4)) (aCons (mC (.int 4)) (aCons (mC (.int 9)) aNil)))) (mFun 2 g_law_draw [] (aCons (mVar 0) (aCons (mC (.int 3)) aNil)))) aNil)))) aNil)) (gN 3) tsYes (C_law_part_0 r)) aNil))) mPass) (mSeq (mIfS (bOf (mOp (oEq false) (mVar 2) (mC (.str [116, 104, 105, 110, 103])))) (mRet (mOp oIxA (mLst false (aCons (mC .non) (aCons (mOp oIxA (mVar 1) (mFun 2 g_law_draw [] (aCons (mVar 0) (aCons (mCall oLenA (aCons (mVar 1) aNil)) aNil)))) (aCons (mFun 1 g_law_number [] (aCons (mVar 0) aNil)) aNil)))) (mFun 2 g_law_draw [] (aCons (mVar 0) (aCons (mC (.int 3)) aNil))))) mPass) (mSeq (mSet 4 (mOp oIxA (mFun 0 g_law_forms [] aNil) (mVar 2))) (mSeq (mSet 5 (mOp oIxA (mCall (oSortS false) (aCons (mVar 4) aNil)) (mFun 2 g_law_draw [] (aCons (mVar 0) (aCons (mCall oLenA (aCons (mVar 4) aNil)) aNil))))) (mRet (mOp (oAdd false) (mTup (aCons (mVar 5) aNil)) (mCall oTuple (aCons (mLc false [6] (iSq (mMeth "str" oWords (mOp oIxA (mVar 4) (mVar 5)) aNil)) (gN 6) tsYes (C_law_part_1 r)) aNil))))))))))))))
noncomputable def r_law_part : Nat → FD
  | 0 => fun _ _ => .no
  | n + 1 => gcB (B_law_part (r_law_part n)) 7
noncomputable def g_law_part : FD := r_law_part 24
abbrev s_law_deed_row : Stmt := topS 21
theorem sc_law_deed_row : FnScope ["_law_flow_here", "_law_world_here", "_law_by", "_law_ask", "_law_grant", "_law_chain", "_law_number_here", "_law_tick", "_law_size"] ["_law_flow_here", "_law_world_here", "_law_by", "_law_ask"] (defScope s_law_deed_row) := ⟨rfl, rfl, rfl, by decide +kernel, rfl, by decide +kernel, by decide +kernel⟩
/-- _law_deed_row(_law_flow_here, _law_world_here, _law_by, _law_ask); slots: 0 _law_flow_here, 1 _law_world_here, 2 _law_by, 3 _law_ask, 4 _law_grant, 5 _law_chain, 6 _law_number_here, 7 _law_tick, 8 _law_size -/
noncomputable def T_law_deed_row_0 (r : FD) : FT := (bOf (mUn (oIsN true) (mVar 6)))
noncomputable def L_law_deed_row_1 (r : FD) : FS := (mPar 5 6 (aCons (mOp (oAdd false) (mTup (aCons (mVar 6) aNil)) (mVar 5)) (aCons (mOp oIxA (mOp oIxA (mOp oIxA (mVar 1) (mC (.str [98, 111, 111, 107]))) (mVar 6)) (mC (.int 5))) aNil)))
noncomputable def B_law_deed_row (r : FD) : FS := (mSeq (mIfS (bOf (mOp (oEq false) (mOp oIxA (mVar 1) (mC (.str [98, 111, 111, 107]))) (mLst false aNil))) (mRet (mFun 3 r [] (aCons (mVar 0) (aCons (mVar 1) (aCons (mC (.int 1)) aNil))))) mPass) (mSeq (mSet 4 (mOp oIxA (mOp oIxA (mVar 1) (mC (.str [98, 111, 111, 107]))) (mFun 2 g_law_draw [] (aCons (mVar 0) (aCons (mCall oLenA (aCons (mOp oIxA (mVar 1) (mC (.str [98, 111, 111, 107]))) aNil)) aNil))))) (mSeq (mPar 5 6 (aCons (mTup aNil) (aCons (mOp oIxA (mVar 4) (mC (.int 0))) aNil))) (mSeq (mWhile (T_law_deed_row_0 r) (L_law_deed_row_1 r)) (mSeq (mPar 7 8 (aCons (mOp oIxA (mVar 1) (mC (.str [116, 105, 99, 107]))) (aCons (mCall oLenA (aCons (mOp oIxA (mVar 1) (mC (.str [108, 105, 110, 101, 115]))) aNil)) aNil))) (mRet (mTup (aCons (mC (.str [100, 101, 101, 100])) (aCons (mVar 7) (aCons (mOp oIxA (mVar 4) (mC (.int 4))) (aCons (mOp oIxA (mVar 4) (mC (.int 1))) (aCons (mOp oIxA (mOp oIxA (mVar 4) (mC (.int 2))) (mC (.int 0))) (aCons (mVar 5) (aCons (mVar 7) (aCons (mVar 8) (aCons (mVar 2) (aCons (mVar 3) aNil)))))))))))))))))
abbrev s_law_own_row : Stmt := topS 22
theorem sc_law_own_row : FnScope ["_law_flow_here", "_law_world_here", "_law_form", "_law_tick", "_law_count", "_law_taken", "_law_being", "_law_place"] ["_law_flow_here", "_law_world_here", "_law_form"] (defScope s_law_own_row) := ⟨rfl, rfl, rfl, by decide +kernel, rfl, by decide +kernel, by decide +kernel⟩
/-- _law_own_row(_law_flow_here, _law_world_here, _law_form); slots: 0 _law_flow_here, 1 _law_world_here, 2 _law_form, 3 _law_tick, 4 _law_count, 5 _law_taken, 6 _law_being, 7 _law_place -/
noncomputable def B_law_own_row (r : FD) : FS := (mSeq (mSet 3 (mOp oIxA (mVar 1) (mC (.str [116, 105, 99, 107])))) (mSeq (mIfS (tAndM (bOf (mOp (oEq false) (mVar 2) (mC (.int 0)))) (bOf (mOp (oEq true) (mOp oIxA (mVar 1) (mC (.str [111, 112, 101, 110]))) (mLst false aNil)))) (mSeq (mSet 4 (mMeth "list" oPopAt (mOp oIxA (mVar 1) (mC (.str [111, 112, 101, 110]))) (aCons (mFun 2 g_law_draw [] (aCons (mVar 0) (aCons (mCall oLenA (aCons (mOp oIxA (mVar 1) (mC (.str [111, 112, 101, 110]))) aNil)) aNil))) aNil))) (mRet (mTup (aCons (mC (.str [97, 110, 115, 119, 101, 114])) (aCons (mVar 3) (aCons (mVar 4) (aCons (mFun 3 g_law_part [] (aCons (mVar 0) (aCons (mOp oIxA (mVar 1) (mC (.str [104, 111, 109, 101, 115]))) (aCons (mC (.str [97, 110, 115, 119, 101, 114])) aNil)))) aNil))))))) mPass) (mSeq (mIfS (bOf (mOp oLt (mVar 2) (mC (.int 2)))) (mSeq (mAsg (mOp (oAdd false) (mOp oIxA (mVar 1) (mC (.str [97, 115, 107, 115]))) (mC (.int 1))) (gIxA (mVar 1) (mC (.str [97, 115, 107, 115])))) (mSeq (mExpr (mMeth "list" oAppend (mOp oIxA (mVar 1) (mC (.str [111, 112, 101, 110]))) (aCons (mOp oSub (mOp oIxA (mVar 1) (mC (.str [97, 115, 107, 115]))) (mC (.int 1))) aNil))) (mRet (mTup (aCons (mC (.str [97, 115, 107])) (aCons (mVar 3) (aCons (mOp oSub (mOp oIxA (mVar 1) (mC (.str [97, 115, 107, 115]))) (mC (.int 1))) (aCons (mFun 3 g_law_part [] (aCons (mVar 0) (aCons (mOp oIxA (mVar 1) (mC (.str [104, 111, 109, 101, 115]))) (aCons (mC (.str [119, 104, 97, 116])) aNil)))) aNil)))))))) mPass) (mSeq (mSet 5 (mCall (oSorted false) (aCons (mCall (oListA false) (aCons (mOp oIxA (mVar 1) (mC (.str [116, 104, 101, 114, 101]))) aNil)) aNil))) (mSeq (mIfS (tAndM (bOf (mOp (oEq false) (mVar 2) (mC (.int 2)))) (bOf (mOp (oEq true) (mVar 5) (mLst false aNil)))) (mSeq (mAsg (mOp oIxA (mVar 5) (mFun 2 g_law_draw [] (aCons (mVar 0) (aCons (mCall oLenA (aCons (mVar 5) aNil)) aNil)))) (gT 2 (gsCons (gN 6) (gsCons (gN 7) gsNil)))) (mSeq (mExpr (mMeth "dict" oPopE (mOp oIxA (mVar 1) (mC (.str [116, 104, 101, 114, 101]))) (aCons (mTup (aCons (mVar 6) (aCons (mVar 7) aNil))) aNil))) (mRet (mTup (aCons (mC (.str [100, 114, 111, 112])) (aCons (mVar 3) (aCons (mVar 6) (aCons (mVar 7) aNil)))))))) mPass) (mSeq (mIfS (tAndM (bOf (mOp (oEq false) (mVar 2) (mC (.int 3)))) (bOf (mOp (oEq true) (mOp oIxA (mVar 1) (mC (.str [98, 111, 111, 107]))) (mLst false aNil)))) (mRet (mTup (aCons (mC (.str [99, 117, 116])) (aCons (mVar 3) (aCons (mFun 2 g_law_draw [] (aCons (mVar 0) (aCons (mCall oLenA (aCons (mOp oIxA (mVar 1) (mC (.str [98, 111, 111, 107]))) aNil)) aNil))) aNil))))) mPass) (mRet (mFun 4 r [] (aCons (mVar 0) (aCons (mVar 1) (aCons (mC .non) (aCons (mC .non) aNil))))))))))))
noncomputable def r_law_deed_row : Nat → FD
  | 0 => fun _ _ => .no
  | n + 1 => runB (B_law_deed_row (runB (B_law_own_row (r_law_deed_row n)) 8)) 9
noncomputable def r_law_own_row (n : Nat) : FD := runB (B_law_own_row (r_law_deed_row n)) 8
noncomputable def g_law_deed_row : FD := r_law_deed_row 4
noncomputable def g_law_own_row : FD := r_law_own_row 4
abbrev s_law_said_row : Stmt := topS 19
theorem sc_law_said_row : FnScope ["_law_flow_here", "_law_world_here", "_law_form", "_law_lines", "_law_tick", "_law_opens", "_law_row", "_law_ask"] ["_law_flow_here", "_law_world_here", "_law_form"] (defScope s_law_said_row) := ⟨rfl, rfl, rfl, by decide +kernel, rfl, by decide +kernel, by decide +kernel⟩
/-- _law_said_row(_law_flow_here, _law_world_here, _law_form); slots: 0 _law_flow_here, 1 _law_world_here, 2 _law_form, 3 _law_lines, 4 _law_tick, 5 _law_opens, 6 _law_row, 7 _law_ask -/
noncomputable def T_law_said_row_0 : FT := (bOf (mOp (oEq false) (mOp oIxA (mVar 6) (mC (.int 0))) (mC (.str [111, 112, 101, 110]))))
noncomputable def C_law_said_row_1 : FE := (mOp oIxA (mVar 6) (mC (.int 2)))
noncomputable def T_law_said_row_2 : FT := (tAndM (bOf (mOp (oEq true) (mOp oIxA (mVar 6) (mC (.int 0))) (mC (.str [111, 112, 101, 110])))) (bOf (mOp (oInA false) (mVar 7) (mSl false (mVar 6) (pSome (mC (.int 2))) pNone))))
noncomputable def C_law_said_row_3 : FE := (mVar 6)
noncomputable def B_law_said_row : FS := (mSeq (mPar 3 4 (aCons (mOp oIxA (mVar 1) (mC (.str [108, 105, 110, 101, 115]))) (aCons (mOp oIxA (mVar 1) (mC (.str [116, 105, 99, 107]))) aNil))) (mSeq (mSet 5 (mLc false [6] (iSq (mVar 3)) (gN 6) T_law_said_row_0 C_law_said_row_1)) (mSeq (mSet 7 (mIf (tOrM (bOf (mOp (oEq false) (mVar 5) (mLst false aNil))) (tOrM (bOf (mOp (oEq false) (mVar 2) (mC (.int 0)))) (bOf (mOp oGt (mFun 2 g_law_draw [] (aCons (mVar 0) (aCons (mC (.int 3)) aNil))) (mC (.int 0)))))) (mFun 2 g_law_new_ask [] (aCons (mVar 0) (aCons (mVar 1) aNil))) (mOp oIxA (mVar 5) (mUn oNeg (mC (.int 1)))))) (mSeq (mIfS (bOf (mOp (oEq true) (mLc false [6] (iSq (mVar 3)) (gN 6) T_law_said_row_2 C_law_said_row_3) (mLst false aNil))) (mSet 7 (mFun 2 g_law_new_ask [] (aCons (mVar 0) (aCons (mVar 1) aNil)))) mPass) (mSeq (mIfS (bOf (mOp (oEq false) (mVar 2) (mC (.int 0)))) (mRet (mTup (aCons (mC (.str [111, 112, 101, 110])) (aCons (mVar 4) (aCons (mVar 7) aNil))))) mPass) (mSeq (mIfS (bOf (mOp (oEq false) (mVar 2) (mC (.int 1)))) (mRet (mTup (aCons (mC (.str [110, 111])) (aCons (mVar 4) (aCons (mVar 7) (aCons (mOp oIxA (mLst false (aCons (mC (.str [119, 97, 121])) (aCons (mC (.str [103, 111, 110, 101])) (aCons (mC (.str [111, 119, 110])) (aCons (mC (.str [119, 111, 114, 100])) (aCons (mC (.str [115, 104, 101, 108, 102])) aNil)))))) (mFun 2 g_law_draw [] (aCons (mVar 0) (aCons (mC (.int 5)) aNil)))) aNil)))))) mPass) (mSeq (mIfS (bOf (mOp (oEq false) (mVar 2) (mC (.int 2)))) (mRet (mFun 3 g_law_grant_row [] (aCons (mVar 0) (aCons (mVar 1) (aCons (mVar 7) aNil))))) mPass) (mRet (mFun 4 g_law_deed_row [] (aCons (mVar 0) (aCons (mVar 1) (aCons (mOp oIxA (mOp oIxA (mVar 1) (mC (.str [102, 111, 108, 107]))) (mC (.int 1))) (aCons (mVar 7) aNil)))))))))))))
noncomputable def g_law_said_row : FD := runB B_law_said_row 8
abbrev s_law_grown : Stmt := topS 24
theorem sc_law_grown : FnScope ["_law_flow_here", "_law_world_here", "_law_size", "_law_k", "_law_form", "_law_many", "_law_ask", "_law_row"] ["_law_flow_here", "_law_world_here", "_law_size"] (defScope s_law_grown) := ⟨rfl, rfl, rfl, by decide +kernel, rfl, by decide +kernel, by decide +kernel⟩
/-- _law_grown(_law_flow_here, _law_world_here, _law_size); slots: 0 _law_flow_here, 1 _law_world_here, 2 _law_size, 3 _law_k, 4 _law_form, 5 _law_many, 6 _law_ask, 7 _law_row -/
noncomputable def L_law_grown_0 : FS := (mSeq (mPar 4 5 (aCons (mFun 2 g_law_draw [] (aCons (mVar 0) (aCons (mC (.int 12)) aNil))) (aCons (mFun 2 g_law_draw [] (aCons (mVar 0) (aCons (mC (.int 4)) aNil))) aNil))) (mSeq (mAsg (mCall oMin (aCons (mC (.int 59)) (aCons (mOp (oAdd false) (mOp oIxA (mVar 1) (mC (.str [116, 105, 99, 107]))) (mOp (oMul false) (mFun 2 g_law_draw [] (aCons (mVar 0) (aCons (mC (.int 2)) aNil))) (mFun 2 g_law_draw [] (aCons (mVar 0) (aCons (mC (.int 3)) aNil))))) aNil))) (gIxA (mVar 1) (mC (.str [116, 105, 99, 107])))) (mSeq (mIfS (bOf (mOp oLt (mVar 4) (mC (.int 3)))) (mSeq (mSet 6 (mOp oIxA (mLst false (aCons (mC .non) (aCons (mFun 2 g_law_new_ask [] (aCons (mVar 0) (aCons (mVar 1) aNil))) aNil))) (mFun 2 g_law_draw [] (aCons (mVar 0) (aCons (mC (.int 2)) aNil))))) (mSet 7 (mFun 4 g_law_put_row [] (aCons (mVar 0) (aCons (mVar 1) (aCons (mOp oIxA (mOp oIxA (mVar 1) (mC (.str [102, 111, 108, 107]))) (mFun 2 g_law_draw [] (aCons (mVar 0) (aCons (mC (.int 3)) aNil)))) (aCons (mVar 6) aNil))))))) (mIfS (bOf (mOp oLt (mVar 4) (mC (.int 7)))) (mSet 7 (mFun 3 g_law_said_row [] (aCons (mVar 0) (aCons (mVar 1) (aCons (mVar 5) aNil))))) (mSet 7 (mFun 3 g_law_own_row [] (aCons (mVar 0) (aCons (mVar 1) (aCons (mOp oIxA (mLst false (aCons (mVar 5) (aCons (mVar 5) (aCons (mC (.int 2)) (aCons (mC (.int 3)) (aCons (mC (.int 4)) aNil)))))) (mOp oSub (mVar 4) (mC (.int 7)))) aNil))))))) (mExpr (mMeth "list" oAppend (mOp oIxA (mVar 1) (mC (.str [108, 105, 110, 101, 115]))) (aCons (mVar 7) aNil))))))
noncomputable def B_law_grown : FS := (mFor (iR1 (aCons (mVar 2) aNil)) (gN 3) L_law_grown_0)
noncomputable def g_law_grown : FD := runB B_law_grown 8
abbrev s_law_history : Stmt := topS 23
theorem sc_law_history : FnScope ["_law_flow_here", "_law_size", "_law_world_here", "_law_k"] ["_law_flow_here", "_law_size"] (defScope s_law_history) := ⟨rfl, rfl, rfl, by decide +kernel, rfl, by decide +kernel, by decide +kernel⟩
/-- _law_history(_law_flow_here, _law_size); slots: 0 _law_flow_here, 1 _law_size, 2 _law_world_here, 3 _law_k -/
noncomputable def L_law_history_0 : FS := (mExpr (mMeth "list" oAppend (mOp oIxA (mVar 2) (mC (.str [108, 105, 110, 101, 115]))) (aCons (mFun 3 g_law_grant_row [] (aCons (mVar 0) (aCons (mVar 2) (aCons (mC .non) aNil)))) aNil)))
noncomputable def B_law_history : FS := (mSeq (mSet 2 (mFun 1 g_law_world [] (aCons (mVar 0) aNil))) (mSeq (mFor (iR1 (aCons (mFun 2 g_law_draw [] (aCons (mVar 0) (aCons (mC (.int 4)) aNil))) aNil)) (gN 3) L_law_history_0) (mSeq (mExpr (mFun 3 g_law_grown [] (aCons (mVar 0) (aCons (mVar 2) (aCons (mVar 1) aNil))))) (mRet (mTup (aCons (mCall oTuple (aCons (mOp oIxA (mVar 2) (mC (.str [108, 105, 110, 101, 115]))) aNil)) (aCons (mOp oIxA (mVar 2) (mC (.str [102, 111, 108, 107]))) aNil)))))))
noncomputable def g_law_history : FD := gcB B_law_history 4
abbrev s_law : Stmt := topS 26
theorem sc_law : FnScope ["_law_script", "_law_k", "_law_flow_here", "_law_lines", "_law_folk", "_law_size", "_law_being", "_law_due_here", "_law_came", "_law_found", "_law_all_of"] ["_law_script"] (defScope s_law) := ⟨rfl, rfl, rfl, by decide +kernel, rfl, by decide +kernel, by decide +kernel⟩
/-- law(_law_script); slots: 0 _law_script, 1 _law_k, 2 _law_flow_here, 3 _law_lines, 4 _law_folk, 5 _law_size, 6 _law_being, 7 _law_due_here, 8 _law_came, 9 _law_found, 10 _law_all_of -/
noncomputable def L_law_0 : FS := (mSeq (mAsg (mFun 2 g_law_due [] (aCons (mSl false (mVar 3) pNone (pSome (mVar 5))) (aCons (mVar 6) aNil))) (gT 2 (gsCons (gN 7) (gsCons (gN 8) gsNil)))) (mSeq (mPar 9 10 (aCons (mFun 2 g_table [] (aCons (mSl false (mVar 3) pNone (pSome (mVar 5))) (aCons (mVar 6) aNil))) (aCons (mFun 2 g_ever [] (aCons (mCall (oList false) (aCons (mSl false (mVar 3) pNone (pSome (mVar 5))) aNil)) (aCons (mVar 6) aNil))) aNil))) (mSeq (mIfS (tOrM (tNotM (bOf (mUn (oIsi "list") (mVar 9)))) (bOf (mOp (oEq true) (mCall oRepr (aCons (mVar 9) aNil)) (mCall oRepr (aCons (mVar 7) aNil))))) (mRet (mC (.bl false))) mPass) (mSeq (mIfS (tOrM (tNotM (bOf (mUn (oIsi "list") (mVar 10)))) (bOf (mOp (oEq true) (mCall oRepr (aCons (mVar 10) aNil)) (mCall oRepr (aCons (mVar 8) aNil))))) (mRet (mC (.bl false))) mPass) (mSeq (mExpr (mMeth "list" oClear (mVar 9) aNil)) (mExpr (mMeth "list" oAppend (mVar 10) (aCons (mTup (aCons (mOp oIx (mVar 6) (mC (.int 0))) (aCons (mC (.int 0)) aNil))) aNil))))))))
noncomputable def L_law_1 : FS := (mFor (iSq (mOp (oAdd false) (mVar 4) (mLst false (aCons (mTup (aCons (mC (.str [122, 122, 122, 122, 122, 122])) (aCons (mC (.str [122, 122, 122, 122, 122, 122])) aNil))) aNil)))) (gN 6) L_law_0)
noncomputable def L_law_2 : FS := (mSeq (mSet 2 (mFun 2 g_law_flow [] (aCons (mVar 0) (aCons (mVar 1) aNil)))) (mSeq (mAsg (mFun 2 g_law_history [] (aCons (mVar 2) (aCons (mOp (oAdd false) (mC (.int 10)) (mFun 2 g_law_draw [] (aCons (mVar 2) (aCons (mC (.int 40)) aNil)))) aNil))) (gT 2 (gsCons (gN 3) (gsCons (gN 4) gsNil)))) (mFor (iSq (mLst false (aCons (mCall oLen (aCons (mVar 3) aNil)) (aCons (mFun 2 g_law_draw [] (aCons (mVar 2) (aCons (mOp (oAdd false) (mCall oLen (aCons (mVar 3) aNil)) (mC (.int 1))) aNil))) (aCons (mCall oLen (aCons (mVar 3) aNil)) aNil))))) (gN 5) L_law_1)))
noncomputable def B_law : FS := (mSeq (mFor (iR1 (aCons (mCall oMax (aCons (mC (.int 1)) (aCons (mCall oMin (aCons (mC (.int 4)) (aCons (mCall oLen (aCons (mVar 0) aNil)) aNil))) aNil))) aNil)) (gN 1) L_law_2) (mRet (mC (.bl true))))
noncomputable def g_law : FD := runB B_law 11
end K21
set_option Elab.async false
set_option linter.all false
set_option maxRecDepth 100000
set_option maxHeartbeats 4000000
namespace K21
open PySem PySem.Spec PyProof.Rows L2 Fn
local macro_rules | `(tactic| push_cast [$ls:simpLemma,*]) => `(tactic| simp -implicitDefEqProofs only [mSeq_eq, mIfS_eq, mSet_eq, mRet_eq, mRetN_eq, mExpr_eq, mPass_eq, mAsg_eq, mPar_eq, mAug_eq, bOf_eq, tOf_eq, tAndM_eq, tOrM_eq, tNotM_eq, tsYes_eq, mOp_eq, mUn_eq, mVar_eq, mC_eq, mCall_eq, mFun_eq, mFunKw_eq, mMeth_eq, mAnd_eq, mOr_eq, mNot_eq, mIf_eq, mChain_eq, mSl_eq, pNone_eq, pSome_eq, aCons_eq, aNil_eq, mTup_eq, mLst_eq, gN_eq, gT_eq, gsNil_eq, gsCons_eq, mkL_t, mkL_f, R.bind_ok, R.bind_no, R.nox_ok, List.getElem?_cons_zero, List.getElem?_cons_succ, List.set_cons_zero, List.set_cons_succ, List.length_cons, List.length_nil, List.append_nil, List.nil_append, List.cons_append, piApp_on, oLen_fz, oLen_lst, oLen_tup, oLt_int, oLe_int, oGt_int, oGe_int, oAdd_int, oSub_int, oIx_fz, oIx_lst, oIx_tup, oMax_int, oMin_int, oInt_bl, oInt_int, oIsi_bl, oNeg_int, oTuple_lst, oTuple_tup, iR1_eq, iR2_eq, iSq_eq, iStrM_eq, srcOf_tup, srcOf_lst, srcOf_fz, if_true, if_false, Bool.false_eq_true, Bool.true_eq_false, reduceIte, Nat.reduceAdd, Nat.reduceLeDiff, Nat.reduceEqDiff, Bool.not_true, Bool.not_false, decide_true, decide_false, and_self, and_true, true_and, $ls,*])
theorem cell_eq (ns : List Int) (k : Nat) (M : Mem) : g_law_cell [.fz (intsD ns), .int k] M = .ok (.int (cellV ns k)) M := runB_rt (cell_run ns k M)
theorem flow_eq (ns : List Int) (k : Nat) (M : Mem) (hk : k < 1000) : ∃ s : Fl, s.ok ∧ g_law_flow [.fz (intsD ns), .int k] M = .ok (.ref M.length) (M ++ [s.c]) := by
  obtain ⟨s, h1, h2⟩ := flow_run g_law_cell ns k M hk (cell_eq ns k M)
  exact ⟨s, h1, runB_rt h2⟩
theorem draw_eq {M0 M : Mem} {i : Nat} (h : FlAt M0 i M) (many : Int) (h0 : 0 < many) (h1 : many < 1000000000000000000000000) : ∃ (v : Nat) (M' : Mem), (v : Int) < many ∧ FlAt M0 i M' ∧ g_law_draw [.ref i, .int many] M = .ok (.int v) M' := by
  obtain ⟨s, hs, hM, hk⟩ := h.get
  obtain ⟨v, s', k0, k1, k2, k3⟩ := draw_run s hs i M many h0 h1 hM
  obtain ⟨n, rfl⟩ : ∃ n : Nat, v = (n : Int) := ⟨v.toNat, by omega⟩
  exact ⟨n, _, k1, hk s' k2, runB_rt k3⟩
abbrev abc : List Nat := [97, 98, 99, 100, 101, 102, 103, 104, 105, 106, 107, 108, 109, 110, 111, 112, 113, 114, 115, 116, 117, 118, 119, 120, 121, 122]
/-- letters -/
theorem abc_at (v : Int) (h : 0 ≤ v) (h2 : v < 26) : ∃ c, atI abc v = some c ∧ c ∈ abc := atI_some h (by simpa using h2)
theorem word_comp {M0 M : Mem} {i : Nat} (h : FlAt M0 i M) (n : Nat) (hn : n < 1000) (env : Fn.Env) (he : ∀ (x : D), (env.set 4 (some x))[2]? = some (some (.str abc)) ∧ (env.set 4 (some x))[0]? = some (some (.ref i)))
    (f : FE) (hf : f = mOp oIx (mVar 2) (mFun 2 g_law_draw [] (aCons (mVar 0) (aCons (mC (.int 26)) aNil)))) :
    ∃ (w : List Nat) (M' : Mem), w.length = n ∧ (∀ c ∈ w, c ∈ abc) ∧ FlAt M0 i M' ∧ compL (fun _ => True) (gN 4) tsYes f env (rngItems 0 n) M = .ok (w.map fun c => .str [c]) M' := by
  subst hf
  obtain ⟨ys, M2, e2, l2, y2, h2⟩ := compL_inv (g := gN 4) (f := mOp oIx (mVar 2) (mFun 2 g_law_draw [] (aCons (mVar 0) (aCons (mC (.int 26)) aNil)))) (env := env) (fun _ M => FlAt M0 i M) (fun _ _ y => ∃ c : Nat, y = .str [c] ∧ c ∈ abc) (rngItems 0 n) 0 M h fun k d M2 hk h2 => by
    obtain ⟨u, M3, u1, h3, e3⟩ := draw_eq h2 26 (by omega) (by omega)
    obtain ⟨c, hc, hm⟩ := abc_at u (by omega) (by omega)
    obtain ⟨q1, q2⟩ := he d
    refine ⟨.str [c], M3, ?_, ⟨c, rfl, hm⟩, h3⟩
    push_cast [q1, q2, e3, oIx_str (show abc.length ≤ 16777216 by decide) hc]
  have hl : ys.length = n := by rw [l2, rngItems_len]
  have hy : ∀ d ∈ ys, ∃ c : Nat, d = .str [c] ∧ c ∈ abc := fun d hd => allY l2 y2 hd
  obtain ⟨w, hw, lw, rfl⟩ := strsOf_of (l := ys) fun d hd => by obtain ⟨c, h, _⟩ := hy d hd; exact ⟨c, h⟩
  refine ⟨w, M2, by omega, fun c hc => ?_, h2, e2⟩
  obtain ⟨c', e, hm⟩ := hy (.str [c]) (List.mem_map.mpr ⟨c, hc, rfl⟩)
  cases e
  exact hm
theorem join_eq {w : List Nat} {M : Mem} (h : w.length < 10000) : oJoin (.str []) [.lst (w.map fun c => .str [c])] M = .ok (.str w) M := by
  have : strsOf (w.map fun c => D.str [c]) = some (w.map fun c => [c]) := by
    induction w with
    | nil => rfl
    | cons c r ih => simp only [List.map_cons, strsOf, ih (by simp at h; omega)]; rfl
  have hsum : ((w.map fun c => [c]).map (·.length)).sum + (w.map fun c => [c]).length * ([] : List Nat).length ≤ 16777216 := by rw [sum_ones]; simp; omega
  simp only [oJoin, seqOf, lstOf, Option.bind_some, this, hsum, if_true, join_signs]
def bw (n : Nat) (w : List Nat) : Prop := w.length ≤ n ∧ ∀ c ∈ w, c ∈ abc
noncomputable def snS2 : FS := (mIfS (bOf (mOp oGt (mOp (oMul false) (mVar 7) (mOp oMod (mVar 4) (mC (.int 2)))) (mC (.int 0)))) (mSet 9 (mOp (oAdd false) (mOp oIx (mVar 8) (mUn oNeg (mC (.int 1)))) (mOp oIx (mVar 2) (mOp oMod (mOp (oAdd false) (mVar 6) (mOp (oMul false) (mC (.int 7)) (mVar 4))) (mC (.int 26)))))) mPass)
theorem snames_turn {A : Mem} {N : Nat} (hA : A.length = N) (F : List (List Nat)) (k : Nat) (hF : ∀ w ∈ F, bw 6 w) (hE : k % 2 = 1 → ∀ F0 z, F = F0 ++ [z] → z.length ≤ 5) (hk : F.length = k) (hk2 : k < 100) (w : List Nat) (hw : w.length ≤ 4) (hwl : ∀ c ∈ w, c ∈ abc) (v2 v3 v4 : Nat) (h2 : v2 ≤ w.length) (x0 x1 x9 : Option D) :
    ∃ (n2 : List Nat), bw 6 n2 ∧ (k % 2 = 0 → n2.length ≤ 5) ∧ L_law_names_1 [x0, x1, some (.str abc), some (.str w), some (.int (0 + (k : Int))), some (.int v2), some (.int v3), some (.int v4), some (.ref N), x9] (A ++ [.lst (F.map .str)]) = .ok (.nx [x0, x1, some (.str abc), some (.str w), some (.int (0 + (k : Int))), some (.int v2), some (.int v3), some (.int v4), some (.ref N), some (.str n2)]) (A ++ [.lst ((F ++ [n2]).map .str)]) := by
  obtain ⟨c, hc1, hcm⟩ := abc_at ((v3 + 7 * (0 + (k : Int))) % 26) (Int.emod_nonneg _ (by omega)) (Int.emod_lt_of_pos _ (by omega))
  have t1 : cutD w none (some (v2 : Int)) = w.take v2 := cutD_take w v2
  have t2 : cutD w (some (v2 : Int)) none = w.drop v2 := cutD_drop w v2
  have ix : oIx (.str abc) (.int ((v3 + 7 * (0 + (k : Int))) % 26)) = fun M => R.ok (.str [c]) M := by
    funext M
    exact oIx_str (by decide) hc1
  have g8 : ∀ B, (A ++ [Cell.lst B])[N]? = some (.lst B) := fun B => app_get0 hA
  have s8 : ∀ B C, (A ++ [Cell.lst B]).set N (.lst C) = A ++ [.lst C] := fun B C => app_set0 hA
  obtain ⟨n1, hn1⟩ : ∃ n1, w.take v2 ++ [c] ++ w.drop v2 = n1 := ⟨_, rfl⟩
  have ln1 : n1.length = w.length + 1 := by rw [← hn1]; simp; omega
  have mn1 : ∀ x ∈ n1, x ∈ abc := fun x hx => by
    rw [← hn1] at hx
    simp only [List.mem_append, List.mem_singleton] at hx
    rcases hx with (hx | rfl) | hx
    · exact hwl x (List.mem_of_mem_take hx)
    · exact hcm
    · exact hwl x (List.mem_of_mem_drop hx)
  have a1 : ∀ M, oAdd false (.str (w.take v2)) (.str [c]) M = .ok (.str (w.take v2 ++ [c])) M := fun M => oAdd_str (by simp; omega)
  have a2 : ∀ M, oAdd false (.str (w.take v2 ++ [c])) (.str (w.drop v2)) M = .ok (.str n1) M := fun M => by rw [oAdd_str (by simp; omega), hn1]
  have hS : L_law_names_1 = mSeq (mSet 9 (mOp (oAdd false) (mOp (oAdd false) (mSl false (mVar 3) pNone (pSome (mVar 5))) (mOp oIx (mVar 2) (mOp oMod (mOp (oAdd false) (mVar 6) (mOp (oMul false) (mC (.int 7)) (mVar 4))) (mC (.int 26))))) (mSl false (mVar 3) (pSome (mVar 5)) pNone))) (mSeq snS2 (mExpr (mMeth "list" oAppend (mVar 8) (aCons (mVar 9) aNil)))) := rfl
  have mid : ∃ n2, bw 6 n2 ∧ (k % 2 = 0 → n2.length ≤ 5) ∧ snS2 [x0, x1, some (.str abc), some (.str w), some (.int (0 + (k : Int))), some (.int v2), some (.int v3), some (.int v4), some (.ref N), some (.str n1)] (A ++ [.lst (F.map .str)]) = .ok (.nx [x0, x1, some (.str abc), some (.str w), some (.int (0 + (k : Int))), some (.int v2), some (.int v3), some (.int v4), some (.ref N), some (.str n2)]) (A ++ [.lst (F.map .str)]) := by
    by_cases c1 : (0 : Int) < (v4 : Int) * ((0 + (k : Int)) % 2)
    · have k0 : 0 < k := by
        rcases Nat.eq_zero_or_pos k with h0 | h0
        · subst h0; simp at c1
        · exact h0
      obtain ⟨F0, z, hz⟩ := snoc_of (l := F) (by intro z; rw [z] at hk; simp at hk; omega)
      have hzm : z ∈ F := by rw [hz]; simp
      obtain ⟨z1, z3⟩ := hF z hzm
      have hlast : atI (F.map D.str) (-1) = some (.str z) := by
        rw [hz, List.map_append]
        exact atLast _ _
      obtain ⟨n2, hn2⟩ : ∃ n2, z ++ [c] = n2 := ⟨_, rfl⟩
      have a3 : ∀ M, oAdd false (.str z) (.str [c]) M = .ok (.str n2) M := fun M => by rw [oAdd_str (by simp; omega), hn2]
      have ko : k % 2 = 1 := by
        rcases Nat.mod_two_eq_zero_or_one k with q | q
        · have : ((0 : Int) + (k : Int)) % 2 = 0 := by omega
          rw [this] at c1; simp at c1
        · exact q
      have z5 := hE ko F0 z hz
      refine ⟨n2, ⟨by rw [← hn2]; simp; omega, fun x hx => ?_⟩, fun q => absurd q (by omega), ?_⟩
      · rw [← hn2] at hx
        simp only [List.mem_append, List.mem_singleton] at hx
        rcases hx with hx | rfl
        · exact z3 x hx
        · exact hcm
      · simp -implicitDefEqProofs (disch := first | assumption | omega | (simp only [List.length_cons, List.length_nil, List.length_append, List.length_map, List.length_take, List.length_drop, rngItems_len]; omega)) only [mSeq_eq, mIfS_eq, mSet_eq, mRet_eq, mRetN_eq, mExpr_eq, mPass_eq, mAsg_eq, mPar_eq, mAug_eq, bOf_eq, tOf_eq, tAndM_eq, tOrM_eq, tNotM_eq, tsYes_eq, mOp_eq, mUn_eq, mVar_eq, mC_eq, mCall_eq, mFun_eq, mFunKw_eq, mMeth_eq, mAnd_eq, mOr_eq, mNot_eq, mIf_eq, mChain_eq, mSl_eq, pNone_eq, pSome_eq, aCons_eq, aNil_eq, mTup_eq, mLst_eq, gN_eq, gT_eq, gsNil_eq, gsCons_eq, mkL_t, mkL_f, R.bind_ok, R.bind_no, R.nox_ok, List.getElem?_cons_zero, List.getElem?_cons_succ, List.set_cons_zero, List.set_cons_succ, List.length_cons, List.length_nil, List.append_nil, List.nil_append, List.cons_append, piApp_on, oLen_fz, oLen_lst, oLen_tup, oLt_int, oLe_int, oGt_int, oGe_int, oAdd_int, oSub_int, oIx_fz, oIx_lst, oIx_tup, oMax_int, oMin_int, oInt_bl, oInt_int, oIsi_bl, oNeg_int, oTuple_lst, oTuple_tup, iR1_eq, iR2_eq, iSq_eq, iStrM_eq, srcOf_tup, srcOf_lst, srcOf_fz, if_true, if_false, Bool.false_eq_true, Bool.true_eq_false, reduceIte, Nat.reduceAdd, Nat.reduceLeDiff, Nat.reduceEqDiff, Bool.not_true, Bool.not_false, decide_true, decide_false, and_self, and_true, true_and, oMod_int, oMul_r, oMul_l, oLen_str, oAdd_str, oSl_str, oSl_tup, oSl_lst, oSl_fz, rngOk_of, oEq_int, oEq_bl, beq_self_eq_true, Int.toNat_natCast, mFor_eq, mLc_eq, app_get0, app_get1, app_set0, app_set1, tyOk, oTuple_ref, oList_ref, oLen_refM, oIx_refM, oAppM, oExtM, srcOf_refM, ifLt24, ifLe24, snS2, decide_eq_true c1, g8, List.length_map, hlast, ix, a3]
    · refine ⟨n1, ⟨by omega, mn1⟩, fun _ => by omega, ?_⟩
      simp -implicitDefEqProofs (disch := first | assumption | omega | (simp only [List.length_cons, List.length_nil, List.length_append, List.length_map, List.length_take, List.length_drop, rngItems_len]; omega)) only [mSeq_eq, mIfS_eq, mSet_eq, mRet_eq, mRetN_eq, mExpr_eq, mPass_eq, mAsg_eq, mPar_eq, mAug_eq, bOf_eq, tOf_eq, tAndM_eq, tOrM_eq, tNotM_eq, tsYes_eq, mOp_eq, mUn_eq, mVar_eq, mC_eq, mCall_eq, mFun_eq, mFunKw_eq, mMeth_eq, mAnd_eq, mOr_eq, mNot_eq, mIf_eq, mChain_eq, mSl_eq, pNone_eq, pSome_eq, aCons_eq, aNil_eq, mTup_eq, mLst_eq, gN_eq, gT_eq, gsNil_eq, gsCons_eq, mkL_t, mkL_f, R.bind_ok, R.bind_no, R.nox_ok, List.getElem?_cons_zero, List.getElem?_cons_succ, List.set_cons_zero, List.set_cons_succ, List.length_cons, List.length_nil, List.append_nil, List.nil_append, List.cons_append, piApp_on, oLen_fz, oLen_lst, oLen_tup, oLt_int, oLe_int, oGt_int, oGe_int, oAdd_int, oSub_int, oIx_fz, oIx_lst, oIx_tup, oMax_int, oMin_int, oInt_bl, oInt_int, oIsi_bl, oNeg_int, oTuple_lst, oTuple_tup, iR1_eq, iR2_eq, iSq_eq, iStrM_eq, srcOf_tup, srcOf_lst, srcOf_fz, if_true, if_false, Bool.false_eq_true, Bool.true_eq_false, reduceIte, Nat.reduceAdd, Nat.reduceLeDiff, Nat.reduceEqDiff, Bool.not_true, Bool.not_false, decide_true, decide_false, and_self, and_true, true_and, oMod_int, oMul_r, oMul_l, oLen_str, oAdd_str, oSl_str, oSl_tup, oSl_lst, oSl_fz, rngOk_of, oEq_int, oEq_bl, beq_self_eq_true, Int.toNat_natCast, mFor_eq, mLc_eq, app_get0, app_get1, app_set0, app_set1, tyOk, oTuple_ref, oList_ref, oLen_refM, oIx_refM, oAppM, oExtM, srcOf_refM, ifLt24, ifLe24, snS2, decide_eq_false c1]
  obtain ⟨n2, nm2, ne2, em⟩ := mid
  refine ⟨n2, nm2, ne2, ?_⟩
  rw [hS]
  have hl : (F.map D.str).length < 16777216 := by rw [List.length_map]; omega
  simp -implicitDefEqProofs (disch := first | assumption | omega | (simp only [List.length_cons, List.length_nil, List.length_append, List.length_map, List.length_take, List.length_drop, rngItems_len]; omega)) only [mSeq_eq, mIfS_eq, mSet_eq, mRet_eq, mRetN_eq, mExpr_eq, mPass_eq, mAsg_eq, mPar_eq, mAug_eq, bOf_eq, tOf_eq, tAndM_eq, tOrM_eq, tNotM_eq, tsYes_eq, mOp_eq, mUn_eq, mVar_eq, mC_eq, mCall_eq, mFun_eq, mFunKw_eq, mMeth_eq, mAnd_eq, mOr_eq, mNot_eq, mIf_eq, mChain_eq, mSl_eq, pNone_eq, pSome_eq, aCons_eq, aNil_eq, mTup_eq, mLst_eq, gN_eq, gT_eq, gsNil_eq, gsCons_eq, mkL_t, mkL_f, R.bind_ok, R.bind_no, R.nox_ok, List.getElem?_cons_zero, List.getElem?_cons_succ, List.set_cons_zero, List.set_cons_succ, List.length_cons, List.length_nil, List.append_nil, List.nil_append, List.cons_append, piApp_on, oLen_fz, oLen_lst, oLen_tup, oLt_int, oLe_int, oGt_int, oGe_int, oAdd_int, oSub_int, oIx_fz, oIx_lst, oIx_tup, oMax_int, oMin_int, oInt_bl, oInt_int, oIsi_bl, oNeg_int, oTuple_lst, oTuple_tup, iR1_eq, iR2_eq, iSq_eq, iStrM_eq, srcOf_tup, srcOf_lst, srcOf_fz, if_true, if_false, Bool.false_eq_true, Bool.true_eq_false, reduceIte, Nat.reduceAdd, Nat.reduceLeDiff, Nat.reduceEqDiff, Bool.not_true, Bool.not_false, decide_true, decide_false, and_self, and_true, true_and, oMod_int, oMul_r, oMul_l, oLen_str, oAdd_str, oSl_str, oSl_tup, oSl_lst, oSl_fz, rngOk_of, oEq_int, oEq_bl, beq_self_eq_true, Int.toNat_natCast, mFor_eq, mLc_eq, app_get0, app_get1, app_set0, app_set1, tyOk, oTuple_ref, oList_ref, oLen_refM, oIx_refM, oAppM, oExtM, srcOf_refM, ifLt24, ifLe24, t1, t2, ix, a1, a2, em, g8, oAppend_at (g8 _) hl, s8]
  rw [List.map_append]
  all_goals rfl
theorem names_eq {M0 M : Mem} {i : Nat} (h : FlAt M0 i M) : ∃ (F : List (List Nat)) (M' : Mem), (∀ w ∈ F, bw 6 w) ∧ F.length = 14 ∧ FlAt M0 i M' ∧ g_law_names [.ref i, .int 14] M = .ok (.lst (F.map .str)) M' := by
  obtain ⟨v, M1, v1, h1, e1⟩ := draw_eq h.self 5 (by omega) (by omega)
  obtain ⟨w, M2, lw, aw, h2, e2⟩ := word_comp h1 v (by omega) (wipeE [some (.ref i), some (.int 14), some (.str abc), none, none, none, none, none, none, none] [4]) (fun x => ⟨rfl, rfl⟩) C_law_names_0 rfl
  obtain ⟨v2, M3, p2, h3, e3⟩ := draw_eq h2 (w.length + 1) (by omega) (by omega)
  obtain ⟨v3, M4, p3, h4, e4⟩ := draw_eq h3 26 (by omega) (by omega)
  obtain ⟨v4, A, p4, h5, e5⟩ := draw_eq h4 2 (by omega) (by omega)
  have hA : A.length = M.length := h5.len
  obtain ⟨env', m', e6, F, y4, y9, rfl, rfl, hF, _, hl⟩ := forL_inv (g := gN 4) (body := L_law_names_1) (fun k env M2 => ∃ (F : List (List Nat)) (y4 y9 : Option D), env = [some (.ref i), some (.int 14), some (.str abc), some (.str w), y4, some (.int v2), some (.int v3), some (.int v4), some (.ref M.length), y9] ∧ M2 = A ++ [.lst (F.map .str)] ∧ (∀ w ∈ F, bw 6 w) ∧ (k % 2 = 1 → ∀ F0 z, F = F0 ++ [z] → z.length ≤ 5) ∧ F.length = k) (rngItems 0 14) 0 [some (.ref i), some (.int 14), some (.str abc), some (.str w), none, some (.int v2), some (.int v3), some (.int v4), some (.ref M.length), none] (A ++ [.lst []])
    ⟨[], none, none, rfl, rfl, fun _ h => (by cases h), fun h => (by cases h), rfl⟩ (by
      rintro k d env M2 hk ⟨F, y4, y9, rfl, rfl, hF, hE, hl⟩
      obtain ⟨rfl, hkm⟩ := rngItems_get hk
      rw [Nat.zero_add] at hl hE ⊢
      obtain ⟨n2, hn2, he2, e⟩ := snames_turn hA F k hF hE hl (by omega) w (by omega) aw v2 v3 v4 (by omega) (some (.ref i)) (some (.int 14)) y9
      refine ⟨_, _, e, F ++ [n2], _, _, rfl, rfl, fun x hx => ?_, fun q F0 z hz => ?_, by rw [List.length_append, hl]; rfl⟩
      rcases List.mem_append.mp hx with z | z
      · exact hF x z
      · rw [List.mem_singleton.mp z]; exact hn2
      · obtain ⟨_, h2⟩ := List.append_inj' hz rfl
        rw [← (List.cons.inj h2).1]; exact he2 (by omega))
  rw [rngItems_len, Nat.zero_add] at hl
  refine ⟨F, A, hF, hl, h.trans h5, ?_⟩
  have hB : B_law_names [some (.ref i), some (.int 14), none, none, none, none, none, none, none, none] M = .ok (.rt (.ref M.length)) (A ++ [.lst (F.map .str)]) := by
    have hj : oJoin (.str []) [.lst (w.map fun c => .str [c])] M2 = .ok (.str w) M2 := join_eq (by omega)
    simp -implicitDefEqProofs (disch := first | assumption | omega | (simp only [List.length_cons, List.length_nil, List.length_append, List.length_map, List.length_take, List.length_drop, rngItems_len]; omega)) only [mSeq_eq, mIfS_eq, mSet_eq, mRet_eq, mRetN_eq, mExpr_eq, mPass_eq, mAsg_eq, mPar_eq, mAug_eq, bOf_eq, tOf_eq, tAndM_eq, tOrM_eq, tNotM_eq, tsYes_eq, mOp_eq, mUn_eq, mVar_eq, mC_eq, mCall_eq, mFun_eq, mFunKw_eq, mMeth_eq, mAnd_eq, mOr_eq, mNot_eq, mIf_eq, mChain_eq, mSl_eq, pNone_eq, pSome_eq, aCons_eq, aNil_eq, mTup_eq, mLst_eq, gN_eq, gT_eq, gsNil_eq, gsCons_eq, mkL_t, mkL_f, R.bind_ok, R.bind_no, R.nox_ok, List.getElem?_cons_zero, List.getElem?_cons_succ, List.set_cons_zero, List.set_cons_succ, List.length_cons, List.length_nil, List.append_nil, List.nil_append, List.cons_append, piApp_on, oLen_fz, oLen_lst, oLen_tup, oLt_int, oLe_int, oGt_int, oGe_int, oAdd_int, oSub_int, oIx_fz, oIx_lst, oIx_tup, oMax_int, oMin_int, oInt_bl, oInt_int, oIsi_bl, oNeg_int, oTuple_lst, oTuple_tup, iR1_eq, iR2_eq, iSq_eq, iStrM_eq, srcOf_tup, srcOf_lst, srcOf_fz, if_true, if_false, Bool.false_eq_true, Bool.true_eq_false, reduceIte, Nat.reduceAdd, Nat.reduceLeDiff, Nat.reduceEqDiff, Bool.not_true, Bool.not_false, decide_true, decide_false, and_self, and_true, true_and, oMod_int, oMul_r, oMul_l, oLen_str, oAdd_str, oSl_str, oSl_tup, oSl_lst, oSl_fz, rngOk_of, oEq_int, oEq_bl, beq_self_eq_true, Int.toNat_natCast, mFor_eq, mLc_eq, app_get0, app_get1, app_set0, app_set1, tyOk, oTuple_ref, oList_ref, oLen_refM, oIx_refM, oAppM, oExtM, srcOf_refM, ifLt24, ifLe24, B_law_names, e1, e2, hj, e3, e4, e5, mPar3_eq, hA, show Int.toNat 14 = 14 from rfl, e6]
  exact gc_flow (n := 0) h5 (runB_rt (N := 10) hB) (plL_str F)
theorem flApp {M0 M B : Mem} {i : Nat} (h : FlAt M0 i M) : FlAt (M0 ++ B) i (M ++ B) := by
  obtain ⟨s, hs, e⟩ := h.at_
  have hl := h.lt
  exact ⟨⟨s, hs, by rw [e, List.set_append_left _ _ hl]⟩, by rw [List.length_append]; omega⟩
theorem flUnapp {M0 M B : Mem} {i : Nat} (hi : i < M0.length) (h : FlAt (M0 ++ B) i M) : ∃ A, M = A ++ B ∧ FlAt M0 i A := by
  obtain ⟨s, hs, e⟩ := h.at_
  rw [List.set_append_left _ _ hi] at e
  exact ⟨_, e, ⟨s, hs, rfl⟩, hi⟩
theorem draw_app {M0 A B : Mem} {i : Nat} (h : FlAt M0 i A) (many : Int) (h0 : 0 < many) (h1 : many < 1000000000000000000000000) : ∃ (v : Nat) (A' : Mem), (v : Int) < many ∧ FlAt M0 i A' ∧ g_law_draw [.ref i, .int many] (A ++ B) = .ok (.int v) (A' ++ B) := by
  obtain ⟨v, M', hv, hf, e⟩ := draw_eq (flApp (B := B) h) many h0 h1
  obtain ⟨A', rfl, h'⟩ := flUnapp h.lt hf
  exact ⟨v, A', hv, h', e⟩
theorem smix_turn {M0 A : Mem} {i : Nat} (h : FlAt M0 i A) (x : D) (l acc : List D) (hl : l ≠ []) (hlen : l.length ≤ 100000) (ha : acc.length ≤ 100000) :
    ∃ (d : D) (l' : List D) (A' : Mem), (d :: l').Perm l ∧ FlAt M0 i A' ∧ L_law_mixed_1 [some (.ref i), some x, some (.ref A.length), some (.ref (A.length + 1))] (A ++ [.lst l, .lst acc]) = .ok (.nx [some (.ref i), some x, some (.ref A.length), some (.ref (A.length + 1))]) (A' ++ [.lst l', .lst (acc ++ [d])]) := by
  have hpos : 0 < l.length := List.length_pos_iff.mpr hl
  obtain ⟨k, A', k1, h2, k3⟩ := draw_app h (B := [.lst l, .lst acc]) (l.length : Int) (by omega) (by omega)
  have hk : k < l.length := by omega
  have eA : A'.length = A.length := by rw [h2.len, h.len]
  have g0 : ∀ {B : Mem} {c : Cell}, (A ++ c :: B)[A.length]? = some c := fun {B c} => app_get0 rfl
  have g1 : (A ++ [.lst l, .lst acc])[A.length + 1]? = some (.lst acc) := app_get1 rfl
  have g2 : (A' ++ [.lst l, .lst acc])[A.length]? = some (.lst l) := app_get0 eA
  have g3 : (A' ++ [.lst (l.eraseIdx k), .lst acc])[A.length + 1]? = some (.lst acc) := app_get1 eA
  have hp : oPopAt (.ref A.length) [.int k] (A' ++ [.lst l, .lst acc]) = .ok l[k] (A' ++ [.lst (l.eraseIdx k), .lst acc]) := by
    have e63 : (2 : Int) ^ 63 = 9223372036854775808 := by decide +kernel
    simp only [oPopAt, g2, ixN_nat hk, List.getElem?_eq_getElem hk, e63]
    rw [if_pos (by omega), app_set0 eA]
  refine ⟨l[k], l.eraseIdx k, A', erase_perm (List.getElem?_eq_getElem hk), h2, ?_⟩
  push_cast [L_law_mixed_1, tyOk_at g0, tyOk_at g1, oLen_ref g0, k3, hp, oAppend_at g3 (show acc.length < 16777216 by omega), app_set1 eA]
theorem smix_loop {M0 : Mem} {i n : Nat} (x : D) : ∀ (f : Nat) (A : Mem) (l acc : List D), FlAt M0 i A → PlL n l → l.length ≤ f → l.length + acc.length ≤ 100000 →
    ∃ (l' : List D) (A' : Mem), l'.Perm (acc ++ l) ∧ FlAt M0 i A' ∧ whileM T_law_mixed_0 L_law_mixed_1 (f + 1) [some (.ref i), some x, some (.ref M0.length), some (.ref (M0.length + 1))] (A ++ [.lst l, .lst acc]) = .ok (.nx [some (.ref i), some x, some (.ref M0.length), some (.ref (M0.length + 1))]) (A' ++ [.lst [], .lst l'])
  | f, A, l, acc, h, hp, hf, hn => by
    have eA := h.len
    have g0 : (A ++ [.lst l, .lst acc])[M0.length]? = some (.lst l) := app_get0 eA
    have ht : T_law_mixed_0 [some (.ref i), some x, some (.ref M0.length), some (.ref (M0.length + 1))] (A ++ [.lst l, .lst acc]) = .ok (true != l.isEmpty) (A ++ [.lst l, .lst acc]) := by
      push_cast [T_law_mixed_0, oEq_nil hp (lstOf_at g0)]
    rw [whileM_succ, ht, R.bind_ok]
    cases l with
    | nil => exact ⟨acc, A, by rw [List.append_nil], h, rfl⟩
    | cons d0 r =>
      rw [show (true != (d0 :: r).isEmpty) = true from rfl, if_pos rfl]
      obtain ⟨d, l', A', hperm, h', e⟩ := smix_turn h x (d0 :: r) acc (by intro z; cases z) (by omega) (by omega)
      rw [eA] at e
      rw [e, R.bind_ok]
      cases f with
      | zero => simp at hf
      | succ f =>
        have hll : l'.length + 1 = (d0 :: r).length := by
          have := hperm.length_eq
          simpa using this
        obtain ⟨l2, A2, p2, h2, e2⟩ := smix_loop x f A' l' (acc ++ [d]) h' (fun y hy => hp y (hperm.mem_iff.mp (List.mem_cons_of_mem _ hy))) (by omega) (by rw [List.length_append, List.length_cons, List.length_nil]; omega)
        refine ⟨l2, A2, p2.trans ?_, h2, e2⟩
        rw [List.append_assoc]
        exact List.Perm.append_left _ hperm
theorem mixed_eq {M0 M : Mem} {i n : Nat} (h : FlAt M0 i M) (X : D) (l : List D) (hX : ∀ M, oList true [X] M = .ok (.ref M.length) (M ++ [.lst l])) (hp : PlL n l) (hlen : l.length ≤ 100000) :
    ∃ (l' : List D) (M' : Mem), l'.Perm l ∧ FlAt M0 i M' ∧ g_law_mixed [.ref i, X] M = .ok (.lst l') M' := by
  obtain ⟨l', A', p1, h1, e1⟩ := smix_loop (n := n) X 999999999 M l [] h.self hp (by omega) (by simpa using hlen)
  have hB : B_law_mixed [some (.ref i), some X, none, none] M = .ok (.rt (.ref (M.length + 1))) (A' ++ [.lst [], .lst l']) := by
    have e0 := hX M
    push_cast [B_law_mixed, e0, List.length_append, List.append_assoc]
    unfold mWhile
    rw [show (1000000000 : Nat) = 999999999 + 1 from rfl, e1]
    rfl
  have hN : A'.length = M.length := h1.len
  have hpl : PlL n l' := fun y hy => hp y (by have := p1.mem_iff.mp hy; simpa using this)
  obtain ⟨ps, hps, _⟩ := hpl.py
  have hfz : frzD (A' ++ [.lst [], .lst l']) M.length (.ref (M.length + 1)) = .lst l' := by
    simp only [frzD]
    rw [if_neg (by omega), app_get1 hN]
  have hc : cutOk M (A' ++ [.lst [], .lst l']) (frzD (A' ++ [.lst [], .lst l']) M.length (.ref (M.length + 1))) := by
    rw [hfz]
    obtain ⟨s, _, e⟩ := h1.at_
    rw [e]
    exact cut_set (d := .lst l') (junk := [.lst [], .lst l']) (by simp only [bdD]; exact pyL_bd hps) rfl
  refine ⟨l', A', by simpa using p1, h.trans h1, ?_⟩
  show gcB B_law_mixed 4 _ M = _
  unfold gcB
  rw [runB_rt (N := 4) hB, gcR, if_pos hc, hfz, List.take_append_of_le_length (by omega), List.take_of_length_le (by omega)]
/-- a whole number: mostly small -/
theorem number_eq {M0 M : Mem} {i : Nat} (h : FlAt M0 i M) : ∃ (v : Int) (M' : Mem), 0 ≤ v ∧ v < 1000000000 ∧ FlAt M0 i M' ∧ g_law_number [.ref i] M = .ok (.int v) M' := by
  obtain ⟨f, M1, f1, h1, e1⟩ := draw_eq h 8 (by omega) (by omega)
  have p9 : ∀ M, oPow (.int 10) (.int 9) M = .ok (.int 1000000000) M := fun M => rfl
  by_cases c : (f : Int) < 6
  · obtain ⟨m, hm, m0, m1⟩ : ∃ m : Int, atI [D.int 2, .int 4, .int 10, .int 12, .int 100, .int 61] (f : Int) = some (.int m) ∧ 0 < m ∧ m < 1000 := by
      rcases (show f = 0 ∨ f = 1 ∨ f = 2 ∨ f = 3 ∨ f = 4 ∨ f = 5 by omega) with z | z | z | z | z | z <;> subst z <;> exact ⟨_, rfl, by omega, by omega⟩
    obtain ⟨v, M2, v1, h2, e2⟩ := draw_eq h1 m m0 (by omega)
    refine ⟨v, M2, by omega, by omega, h2, runB_rt (N := 2) (?_ : B_law_number [some (.ref i), none] M = _)⟩
    simp -implicitDefEqProofs (disch := first | assumption | omega | (simp only [List.length_cons, List.length_nil, List.length_append, List.length_map, List.length_take, List.length_drop, rngItems_len]; omega)) only [mSeq_eq, mIfS_eq, mSet_eq, mRet_eq, mRetN_eq, mExpr_eq, mPass_eq, mAsg_eq, mPar_eq, mAug_eq, bOf_eq, tOf_eq, tAndM_eq, tOrM_eq, tNotM_eq, tsYes_eq, mOp_eq, mUn_eq, mVar_eq, mC_eq, mCall_eq, mFun_eq, mFunKw_eq, mMeth_eq, mAnd_eq, mOr_eq, mNot_eq, mIf_eq, mChain_eq, mSl_eq, pNone_eq, pSome_eq, aCons_eq, aNil_eq, mTup_eq, mLst_eq, gN_eq, gT_eq, gsNil_eq, gsCons_eq, mkL_t, mkL_f, R.bind_ok, R.bind_no, R.nox_ok, List.getElem?_cons_zero, List.getElem?_cons_succ, List.set_cons_zero, List.set_cons_succ, List.length_cons, List.length_nil, List.append_nil, List.nil_append, List.cons_append, piApp_on, oLen_fz, oLen_lst, oLen_tup, oLt_int, oLe_int, oGt_int, oGe_int, oAdd_int, oSub_int, oIx_fz, oIx_lst, oIx_tup, oMax_int, oMin_int, oInt_bl, oInt_int, oIsi_bl, oNeg_int, oTuple_lst, oTuple_tup, iR1_eq, iR2_eq, iSq_eq, iStrM_eq, srcOf_tup, srcOf_lst, srcOf_fz, if_true, if_false, Bool.false_eq_true, Bool.true_eq_false, reduceIte, Nat.reduceAdd, Nat.reduceLeDiff, Nat.reduceEqDiff, Bool.not_true, Bool.not_false, decide_true, decide_false, and_self, and_true, true_and, oMod_int, oMul_r, oMul_l, oLen_str, oAdd_str, oSl_str, oSl_tup, oSl_lst, oSl_fz, rngOk_of, oEq_int, oEq_bl, beq_self_eq_true, Int.toNat_natCast, mFor_eq, mLc_eq, app_get0, app_get1, app_set0, app_set1, tyOk, oTuple_ref, oList_ref, oLen_refM, oIx_refM, oAppM, oExtM, srcOf_refM, ifLt24, ifLe24, B_law_number, e1, decide_eq_true c, hm, e2]
  · obtain ⟨v, M2, v1, h2, e2⟩ := draw_eq h1 1000000000 (by omega) (by omega)
    obtain ⟨u, M3, u1, h3, e3⟩ := draw_eq h2 2 (by omega) (by omega)
    have hs : oSub (.int 1000000000) (.int 1) M2 = .ok (.int 999999999) M2 := rfl
    rcases (show f = 6 ∨ f = 7 by omega) with z | z
    · subst z
      have hx : atI [D.int v, .int (1000000000 - 1 - (u : Int))] (((6 : Nat) : Int) - 6) = some (.int v) := rfl
      refine ⟨v, M3, by omega, by omega, h3, runB_rt (N := 2) (?_ : B_law_number [some (.ref i), none] M = _)⟩
      simp -implicitDefEqProofs (disch := first | assumption | omega | (simp only [List.length_cons, List.length_nil, List.length_append, List.length_map, List.length_take, List.length_drop, rngItems_len]; omega)) only [mSeq_eq, mIfS_eq, mSet_eq, mRet_eq, mRetN_eq, mExpr_eq, mPass_eq, mAsg_eq, mPar_eq, mAug_eq, bOf_eq, tOf_eq, tAndM_eq, tOrM_eq, tNotM_eq, tsYes_eq, mOp_eq, mUn_eq, mVar_eq, mC_eq, mCall_eq, mFun_eq, mFunKw_eq, mMeth_eq, mAnd_eq, mOr_eq, mNot_eq, mIf_eq, mChain_eq, mSl_eq, pNone_eq, pSome_eq, aCons_eq, aNil_eq, mTup_eq, mLst_eq, gN_eq, gT_eq, gsNil_eq, gsCons_eq, mkL_t, mkL_f, R.bind_ok, R.bind_no, R.nox_ok, List.getElem?_cons_zero, List.getElem?_cons_succ, List.set_cons_zero, List.set_cons_succ, List.length_cons, List.length_nil, List.append_nil, List.nil_append, List.cons_append, piApp_on, oLen_fz, oLen_lst, oLen_tup, oLt_int, oLe_int, oGt_int, oGe_int, oAdd_int, oSub_int, oIx_fz, oIx_lst, oIx_tup, oMax_int, oMin_int, oInt_bl, oInt_int, oIsi_bl, oNeg_int, oTuple_lst, oTuple_tup, iR1_eq, iR2_eq, iSq_eq, iStrM_eq, srcOf_tup, srcOf_lst, srcOf_fz, if_true, if_false, Bool.false_eq_true, Bool.true_eq_false, reduceIte, Nat.reduceAdd, Nat.reduceLeDiff, Nat.reduceEqDiff, Bool.not_true, Bool.not_false, decide_true, decide_false, and_self, and_true, true_and, oMod_int, oMul_r, oMul_l, oLen_str, oAdd_str, oSl_str, oSl_tup, oSl_lst, oSl_fz, rngOk_of, oEq_int, oEq_bl, beq_self_eq_true, Int.toNat_natCast, mFor_eq, mLc_eq, app_get0, app_get1, app_set0, app_set1, tyOk, oTuple_ref, oList_ref, oLen_refM, oIx_refM, oAppM, oExtM, srcOf_refM, ifLt24, ifLe24, B_law_number, e1, decide_eq_false c, p9, e2, e3, hx]
    · subst z
      have hx : atI [D.int v, .int (1000000000 - 1 - (u : Int))] (((7 : Nat) : Int) - 6) = some (.int (1000000000 - 1 - (u : Int))) := rfl
      refine ⟨1000000000 - 1 - (u : Int), M3, by omega, by omega, h3, runB_rt (N := 2) (?_ : B_law_number [some (.ref i), none] M = _)⟩
      simp -implicitDefEqProofs (disch := first | assumption | omega | (simp only [List.length_cons, List.length_nil, List.length_append, List.length_map, List.length_take, List.length_drop, rngItems_len]; omega)) only [mSeq_eq, mIfS_eq, mSet_eq, mRet_eq, mRetN_eq, mExpr_eq, mPass_eq, mAsg_eq, mPar_eq, mAug_eq, bOf_eq, tOf_eq, tAndM_eq, tOrM_eq, tNotM_eq, tsYes_eq, mOp_eq, mUn_eq, mVar_eq, mC_eq, mCall_eq, mFun_eq, mFunKw_eq, mMeth_eq, mAnd_eq, mOr_eq, mNot_eq, mIf_eq, mChain_eq, mSl_eq, pNone_eq, pSome_eq, aCons_eq, aNil_eq, mTup_eq, mLst_eq, gN_eq, gT_eq, gsNil_eq, gsCons_eq, mkL_t, mkL_f, R.bind_ok, R.bind_no, R.nox_ok, List.getElem?_cons_zero, List.getElem?_cons_succ, List.set_cons_zero, List.set_cons_succ, List.length_cons, List.length_nil, List.append_nil, List.nil_append, List.cons_append, piApp_on, oLen_fz, oLen_lst, oLen_tup, oLt_int, oLe_int, oGt_int, oGe_int, oAdd_int, oSub_int, oIx_fz, oIx_lst, oIx_tup, oMax_int, oMin_int, oInt_bl, oInt_int, oIsi_bl, oNeg_int, oTuple_lst, oTuple_tup, iR1_eq, iR2_eq, iSq_eq, iStrM_eq, srcOf_tup, srcOf_lst, srcOf_fz, if_true, if_false, Bool.false_eq_true, Bool.true_eq_false, reduceIte, Nat.reduceAdd, Nat.reduceLeDiff, Nat.reduceEqDiff, Bool.not_true, Bool.not_false, decide_true, decide_false, and_self, and_true, true_and, oMod_int, oMul_r, oMul_l, oLen_str, oAdd_str, oSl_str, oSl_tup, oSl_lst, oSl_fz, rngOk_of, oEq_int, oEq_bl, beq_self_eq_true, Int.toNat_natCast, mFor_eq, mLc_eq, app_get0, app_get1, app_set0, app_set1, tyOk, oTuple_ref, oList_ref, oLen_refM, oIx_refM, oAppM, oExtM, srcOf_refM, ifLt24, ifLe24, B_law_number, e1, decide_eq_false c, p9, e2, e3, hx]
/-- some of the names, sorted -/
theorem rights_eq {M0 M : Mem} {i : Nat} (h : FlAt M0 i M) (X : D) (F : List (List Nat)) (hX : ∀ M, oList true [X] M = .ok (.ref M.length) (M ++ [.lst (F.map .str)])) (h0 : 0 < F.length) (h8 : F.length ≤ 100) : ∃ (ws : List (List Nat)) (M' : Mem), (∀ w ∈ ws, w ∈ F) ∧ 0 < ws.length ∧ ws.length ≤ 4 ∧ FlAt M0 i M' ∧ g_law_rights [.ref i, X] M = .ok (.tup (ws.map .str)) M' := by
  obtain ⟨l', M1, p1, h1, e1⟩ := mixed_eq (n := 0) h X (F.map .str) hX (plL_str F) (by simp; omega)
  obtain ⟨G, lG, rfl⟩ : ∃ G : List (List Nat), G.Perm F ∧ l' = G.map D.str := by
    have : ∀ l' : List D, (∀ d ∈ l', ∃ w, d = D.str w) → ∃ G : List (List Nat), l' = G.map D.str := by
      intro l'
      induction l' with
      | nil => intro _; exact ⟨[], rfl⟩
      | cons d r ih =>
        intro hh
        obtain ⟨w, rfl⟩ := hh d (List.mem_cons_self ..)
        obtain ⟨G, rfl⟩ := ih fun y hy => hh y (List.mem_cons_of_mem _ hy)
        exact ⟨w :: G, rfl⟩
    obtain ⟨G, rfl⟩ := this l' fun d hd => by
      obtain ⟨w, _, rfl⟩ := List.mem_map.mp (p1.mem_iff.mp hd)
      exact ⟨w, rfl⟩
    refine ⟨G, ?_, rfl⟩
    have hinj : ∀ l : List (List Nat), (l.map D.str).filterMap (fun d => match d with | .str w => some w | _ => none) = l := fun l => by
      induction l with
      | nil => rfl
      | cons a r ih => simp only [List.map_cons, List.filterMap_cons, ih]
    have := p1.filterMap (fun d => match d with | .str w => some w | _ => none)
    rwa [hinj, hinj] at this
  obtain ⟨v, M2, v1, h2, e2⟩ := draw_eq h1 4 (by omega) (by omega)
  have t1 : Fn.cutD (G.map D.str) none (some (1 + (v : Int))) = (G.take (1 + v)).map D.str := by
    rw [show (1 + (v : Int)) = ((1 + v : Nat) : Int) by omega, cutD_take, List.map_take]
  refine ⟨(G.take (1 + v)).mergeSort fun a b => decide (a ≤ b), M2, fun w hw => ?_, by rw [List.length_mergeSort, List.length_take, lG.length_eq]; omega, ?_, h2, runB_rt (N := 3) (?_ : B_law_rights [some (.ref i), some X, none] M = _)⟩
  · exact lG.mem_iff.mp (List.mem_of_mem_take ((List.mergeSort_perm _ _).mem_iff.mp hw))
  · rw [List.length_mergeSort, List.length_take]; omega
  · have hl : (G.map D.str).length < 16777216 := by rw [List.length_map, lG.length_eq]; omega
    simp -implicitDefEqProofs (disch := first | assumption | omega | (simp only [List.length_cons, List.length_nil, List.length_append, List.length_map, List.length_take, List.length_drop, rngItems_len]; omega)) only [mSeq_eq, mIfS_eq, mSet_eq, mRet_eq, mRetN_eq, mExpr_eq, mPass_eq, mAsg_eq, mPar_eq, mAug_eq, bOf_eq, tOf_eq, tAndM_eq, tOrM_eq, tNotM_eq, tsYes_eq, mOp_eq, mUn_eq, mVar_eq, mC_eq, mCall_eq, mFun_eq, mFunKw_eq, mMeth_eq, mAnd_eq, mOr_eq, mNot_eq, mIf_eq, mChain_eq, mSl_eq, pNone_eq, pSome_eq, aCons_eq, aNil_eq, mTup_eq, mLst_eq, gN_eq, gT_eq, gsNil_eq, gsCons_eq, mkL_t, mkL_f, R.bind_ok, R.bind_no, R.nox_ok, List.getElem?_cons_zero, List.getElem?_cons_succ, List.set_cons_zero, List.set_cons_succ, List.length_cons, List.length_nil, List.append_nil, List.nil_append, List.cons_append, piApp_on, oLen_fz, oLen_lst, oLen_tup, oLt_int, oLe_int, oGt_int, oGe_int, oAdd_int, oSub_int, oIx_fz, oIx_lst, oIx_tup, oMax_int, oMin_int, oInt_bl, oInt_int, oIsi_bl, oNeg_int, oTuple_lst, oTuple_tup, iR1_eq, iR2_eq, iSq_eq, iStrM_eq, srcOf_tup, srcOf_lst, srcOf_fz, if_true, if_false, Bool.false_eq_true, Bool.true_eq_false, reduceIte, Nat.reduceAdd, Nat.reduceLeDiff, Nat.reduceEqDiff, Bool.not_true, Bool.not_false, decide_true, decide_false, and_self, and_true, true_and, oMod_int, oMul_r, oMul_l, oLen_str, oAdd_str, oSl_str, oSl_tup, oSl_lst, oSl_fz, rngOk_of, oEq_int, oEq_bl, beq_self_eq_true, Int.toNat_natCast, mFor_eq, mLc_eq, app_get0, app_get1, app_set0, app_set1, tyOk, oTuple_ref, oList_ref, oLen_refM, oIx_refM, oAppM, oExtM, srcOf_refM, ifLt24, ifLe24, B_law_rights, e1, e2, t1, oSorted_strs (show lstOf M2 (.lst ((G.take (1 + v)).map D.str)) = some ((G.take (1 + v)).map D.str) from rfl)]
def fr0 : List (KK × D) := mrgA [] [(.inr [114, 111, 111, 116], .str [99, 111, 117, 110, 116, 32, 99, 111, 117, 110, 116, 32, 112, 108, 97, 99, 101, 32, 114, 105, 103, 104, 116, 115, 32, 99, 111, 117, 110, 116, 32, 112, 108, 97, 99, 101, 32, 99, 111, 117, 110, 116, 63]), (.inr [99, 117, 116], .str [99, 111, 117, 110, 116, 32, 99, 111, 117, 110, 116]), (.inr [100, 114, 111, 112], .str [99, 111, 117, 110, 116, 32, 112, 108, 97, 99, 101, 32, 99, 111, 117, 110, 116])]
def fr1 : List (KK × D) := pA fr0 (.inr [103, 114, 97, 110, 116]) (.str [99, 111, 117, 110, 116, 32, 99, 111, 117, 110, 116, 32, 112, 108, 97, 99, 101, 32, 114, 105, 103, 104, 116, 115, 32, 99, 111, 117, 110, 116, 32, 112, 108, 97, 99, 101, 32, 99, 111, 117, 110, 116, 63, 32, 97, 115, 107])
def fr2 : List (KK × D) := pA fr1 (.inr [112, 117, 116]) (.str [99, 111, 117, 110, 116, 32, 112, 108, 97, 99, 101, 32, 110, 97, 109, 101, 32, 99, 111, 117, 110, 116, 32, 112, 108, 97, 99, 101, 32, 114, 105, 103, 104, 116, 115, 32, 99, 111, 117, 110, 116, 32, 97, 115, 107, 63])
def fr3 : List (KK × D) := pA fr2 (.inr [97, 115, 107]) (.str [99, 111, 117, 110, 116, 32, 99, 111, 117, 110, 116, 32, 119, 104, 97, 116])
def fr4 : List (KK × D) := pA fr3 (.inr [97, 110, 115, 119, 101, 114]) (.str [99, 111, 117, 110, 116, 32, 99, 111, 117, 110, 116, 32, 97, 110, 115, 119, 101, 114])
def fr5 : List (KK × D) := pA fr4 (.inr [111, 112, 101, 110]) (.str [99, 111, 117, 110, 116, 32, 97, 115, 107])
def fr6 : List (KK × D) := pA fr5 (.inr [110, 111]) (.str [99, 111, 117, 110, 116, 32, 97, 115, 107, 32, 110, 97, 109, 101])
def fr7 : List (KK × D) := pA fr6 (.inr [100, 101, 101, 100]) (.str [99, 111, 117, 110, 116, 32, 112, 108, 97, 99, 101, 32, 112, 108, 97, 99, 101, 32, 110, 97, 109, 101, 32, 99, 104, 97, 105, 110, 32, 99, 111, 117, 110, 116, 32, 99, 111, 117, 110, 116, 32, 112, 108, 97, 99, 101, 63, 32, 97, 115, 107, 63])
def fw0 : List (KK × D) := mrgA [] [(.inr [104, 97, 110, 100], .str [112, 108, 97, 99, 101, 32, 110, 97, 109, 101, 32, 99, 111, 117, 110, 116, 32, 114, 105, 103, 104, 116, 115, 32, 99, 111, 117, 110, 116, 32, 99, 111, 117, 110, 116, 32, 112, 108, 97, 99, 101]), (.inr [99, 117, 116], .str [112, 108, 97, 99, 101, 32, 110, 97, 109, 101, 32, 99, 111, 117, 110, 116, 32, 99, 111, 117, 110, 116])]
def fw1 : List (KK × D) := pA fw0 (.inr [99, 97, 108, 108]) (.str [112, 108, 97, 99, 101, 32, 99, 111, 117, 110, 116, 32, 112, 108, 97, 99, 101, 32, 110, 97, 109, 101, 32, 116, 104, 105, 110, 103])
def fa0 : List (KK × D) := mrgA [] [(.inr [116, 97, 107, 101, 110], .str [110, 97, 109, 101, 32, 99, 111, 117, 110, 116]), (.inr [103, 111, 110, 101], .str []), (.inr [100, 111, 110, 101], .str []), (.inr [102, 111, 117, 110, 100], .str [110, 97, 109, 101, 32, 99, 111, 117, 110, 116]), (.inr [110, 111], .str [110, 97, 109, 101])]
def fAll (n : Nat) : List (KK × D) := mrgA [] [(.inr [114, 111, 119], .ref n), (.inr [119, 104, 97, 116], .ref (n + 1)), (.inr [97, 110, 115, 119, 101, 114], .ref (n + 2))]
theorem sPut_end (A : Mem) (kvs : List (KK × D)) (x : List Nat) (v : D) (h : kvs.length < 16777216) {N : Nat} (hN : A.length = N) : sPut (A ++ [.dk false kvs]) (.ref N) (.str x) v = some (A ++ [.dk false (pA kvs (.inr x) v)]) := by
  rw [sPut_dkS (app_get0 hN) h, app_set0 hN]
theorem disp_at {fs : List (FE × FE)} {env : Fn.Env} {M : Mem} {ps : List (D × D)} {kvs : List (KK × D)} (h : mPairs fs env (M ++ [.dk false []]) = .ok ps (M ++ [.dk false []])) (hk : prsK ps = some kvs) (hl : kvs.length ≤ 15) : mDisp fs env M = .ok (.ref M.length) (M ++ [.dk false (mrgA [] kvs)]) := by
  unfold mDisp
  rw [h, R.bind_ok, app_get0 rfl, hk]
  show (if kvs.length ≤ 15 then R.ok (D.ref M.length) ((M ++ [Cell.dk false []]).set M.length (.dk false (mrgA [] kvs))) else .no) = _
  rw [if_pos hl, app_set0 rfl]
theorem forms_eq (M : Mem) : g_law_forms [] M = .ok (.ref (M.length + 3)) (M ++ [.dk false fr7, .dk false fw1, .dk false fa0, .dk false (fAll M.length)]) := by
  refine runB_rt (N := 3) (?_ : B_law_forms [none, none, none] M = _)
  have d0 : ∀ env M, mDisp [((mC (.str [114, 111, 111, 116])), (mC (.str [99, 111, 117, 110, 116, 32, 99, 111, 117, 110, 116, 32, 112, 108, 97, 99, 101, 32, 114, 105, 103, 104, 116, 115, 32, 99, 111, 117, 110, 116, 32, 112, 108, 97, 99, 101, 32, 99, 111, 117, 110, 116, 63]))), ((mC (.str [99, 117, 116])), (mC (.str [99, 111, 117, 110, 116, 32, 99, 111, 117, 110, 116]))), ((mC (.str [100, 114, 111, 112])), (mC (.str [99, 111, 117, 110, 116, 32, 112, 108, 97, 99, 101, 32, 99, 111, 117, 110, 116])))] env M = .ok (.ref M.length) (M ++ [.dk false fr0]) := fun env M => disp_at (ps := [(.str [114, 111, 111, 116], .str [99, 111, 117, 110, 116, 32, 99, 111, 117, 110, 116, 32, 112, 108, 97, 99, 101, 32, 114, 105, 103, 104, 116, 115, 32, 99, 111, 117, 110, 116, 32, 112, 108, 97, 99, 101, 32, 99, 111, 117, 110, 116, 63]), (.str [99, 117, 116], .str [99, 111, 117, 110, 116, 32, 99, 111, 117, 110, 116]), (.str [100, 114, 111, 112], .str [99, 111, 117, 110, 116, 32, 112, 108, 97, 99, 101, 32, 99, 111, 117, 110, 116])]) rfl rfl (by decide)
  have d1 : ∀ env M, mDisp [((mC (.str [104, 97, 110, 100])), (mC (.str [112, 108, 97, 99, 101, 32, 110, 97, 109, 101, 32, 99, 111, 117, 110, 116, 32, 114, 105, 103, 104, 116, 115, 32, 99, 111, 117, 110, 116, 32, 99, 111, 117, 110, 116, 32, 112, 108, 97, 99, 101]))), ((mC (.str [99, 117, 116])), (mC (.str [112, 108, 97, 99, 101, 32, 110, 97, 109, 101, 32, 99, 111, 117, 110, 116, 32, 99, 111, 117, 110, 116])))] env M = .ok (.ref M.length) (M ++ [.dk false fw0]) := fun env M => disp_at (ps := [(.str [104, 97, 110, 100], .str [112, 108, 97, 99, 101, 32, 110, 97, 109, 101, 32, 99, 111, 117, 110, 116, 32, 114, 105, 103, 104, 116, 115, 32, 99, 111, 117, 110, 116, 32, 99, 111, 117, 110, 116, 32, 112, 108, 97, 99, 101]), (.str [99, 117, 116], .str [112, 108, 97, 99, 101, 32, 110, 97, 109, 101, 32, 99, 111, 117, 110, 116, 32, 99, 111, 117, 110, 116])]) rfl rfl (by decide)
  have d2 : ∀ env M, mDisp [((mC (.str [116, 97, 107, 101, 110])), (mC (.str [110, 97, 109, 101, 32, 99, 111, 117, 110, 116]))), ((mC (.str [103, 111, 110, 101])), (mC (.str []))), ((mC (.str [100, 111, 110, 101])), (mC (.str []))), ((mC (.str [102, 111, 117, 110, 100])), (mC (.str [110, 97, 109, 101, 32, 99, 111, 117, 110, 116]))), ((mC (.str [110, 111])), (mC (.str [110, 97, 109, 101])))] env M = .ok (.ref M.length) (M ++ [.dk false fa0]) := fun env M => disp_at (ps := [(.str [116, 97, 107, 101, 110], .str [110, 97, 109, 101, 32, 99, 111, 117, 110, 116]), (.str [103, 111, 110, 101], .str []), (.str [100, 111, 110, 101], .str []), (.str [102, 111, 117, 110, 100], .str [110, 97, 109, 101, 32, 99, 111, 117, 110, 116]), (.str [110, 111], .str [110, 97, 109, 101])]) rfl rfl (by decide)
  have d3 : ∀ (m : Mem) (k : Nat), mDisp [((mC (.str [114, 111, 119])), (mVar 0)), ((mC (.str [119, 104, 97, 116])), (mVar 1)), ((mC (.str [97, 110, 115, 119, 101, 114])), (mVar 2))] [some (.ref k), some (.ref (k + 1)), some (.ref (k + 2))] m = .ok (.ref m.length) (m ++ [.dk false (fAll k)]) := fun m k => disp_at (ps := [(.str [114, 111, 119], .ref k), (.str [119, 104, 97, 116], .ref (k + 1)), (.str [97, 110, 115, 119, 101, 114], .ref (k + 2))]) rfl rfl (by simp)
  have s0 : sPut (M ++ [.dk false fr0]) (.ref M.length) (.str [103, 114, 97, 110, 116]) (.str [99, 111, 117, 110, 116, 32, 99, 111, 117, 110, 116, 32, 112, 108, 97, 99, 101, 32, 114, 105, 103, 104, 116, 115, 32, 99, 111, 117, 110, 116, 32, 112, 108, 97, 99, 101, 32, 99, 111, 117, 110, 116, 63, 32, 97, 115, 107]) = some (M ++ [.dk false fr1]) := sPut_end _ _ _ _ (by decide) rfl
  have s1 : sPut (M ++ [.dk false fr1]) (.ref M.length) (.str [112, 117, 116]) (.str [99, 111, 117, 110, 116, 32, 112, 108, 97, 99, 101, 32, 110, 97, 109, 101, 32, 99, 111, 117, 110, 116, 32, 112, 108, 97, 99, 101, 32, 114, 105, 103, 104, 116, 115, 32, 99, 111, 117, 110, 116, 32, 97, 115, 107, 63]) = some (M ++ [.dk false fr2]) := sPut_end _ _ _ _ (by decide) rfl
  have s2 : sPut (M ++ [.dk false fr2]) (.ref M.length) (.str [97, 115, 107]) (.str [99, 111, 117, 110, 116, 32, 99, 111, 117, 110, 116, 32, 119, 104, 97, 116]) = some (M ++ [.dk false fr3]) := sPut_end _ _ _ _ (by decide) rfl
  have s3 : sPut (M ++ [.dk false fr3]) (.ref M.length) (.str [97, 110, 115, 119, 101, 114]) (.str [99, 111, 117, 110, 116, 32, 99, 111, 117, 110, 116, 32, 97, 110, 115, 119, 101, 114]) = some (M ++ [.dk false fr4]) := sPut_end _ _ _ _ (by decide) rfl
  have s4 : sPut (M ++ [.dk false fr4]) (.ref M.length) (.str [111, 112, 101, 110]) (.str [99, 111, 117, 110, 116, 32, 97, 115, 107]) = some (M ++ [.dk false fr5]) := sPut_end _ _ _ _ (by decide) rfl
  have s5 : sPut (M ++ [.dk false fr5]) (.ref M.length) (.str [110, 111]) (.str [99, 111, 117, 110, 116, 32, 97, 115, 107, 32, 110, 97, 109, 101]) = some (M ++ [.dk false fr6]) := sPut_end _ _ _ _ (by decide) rfl
  have s6 : sPut (M ++ [.dk false fr6]) (.ref M.length) (.str [100, 101, 101, 100]) (.str [99, 111, 117, 110, 116, 32, 112, 108, 97, 99, 101, 32, 112, 108, 97, 99, 101, 32, 110, 97, 109, 101, 32, 99, 104, 97, 105, 110, 32, 99, 111, 117, 110, 116, 32, 99, 111, 117, 110, 116, 32, 112, 108, 97, 99, 101, 63, 32, 97, 115, 107, 63]) = some (M ++ [.dk false fr7]) := sPut_end _ _ _ _ (by decide) rfl
  have sw : sPut (M ++ [.dk false fr7] ++ [.dk false fw0]) (.ref (M.length + 1)) (.str [99, 97, 108, 108]) (.str [112, 108, 97, 99, 101, 32, 99, 111, 117, 110, 116, 32, 112, 108, 97, 99, 101, 32, 110, 97, 109, 101, 32, 116, 104, 105, 110, 103]) = some (M ++ [.dk false fr7] ++ [.dk false fw1]) := sPut_end _ _ _ _ (by decide) (by simp)
  have gr : oIxA (.ref M.length) (.str [114, 111, 111, 116]) (M ++ [.dk false fr0]) = .ok (.str [99, 111, 117, 110, 116, 32, 99, 111, 117, 110, 116, 32, 112, 108, 97, 99, 101, 32, 114, 105, 103, 104, 116, 115, 32, 99, 111, 117, 110, 116, 32, 112, 108, 97, 99, 101, 32, 99, 111, 117, 110, 116, 63]) (M ++ [.dk false fr0]) := oIxA_dkS (app_get0 rfl) rfl
  have ad : ∀ m, oAdd false (.str [99, 111, 117, 110, 116, 32, 99, 111, 117, 110, 116, 32, 112, 108, 97, 99, 101, 32, 114, 105, 103, 104, 116, 115, 32, 99, 111, 117, 110, 116, 32, 112, 108, 97, 99, 101, 32, 99, 111, 117, 110, 116, 63]) (.str [32, 97, 115, 107]) m = .ok (.str [99, 111, 117, 110, 116, 32, 99, 111, 117, 110, 116, 32, 112, 108, 97, 99, 101, 32, 114, 105, 103, 104, 116, 115, 32, 99, 111, 117, 110, 116, 32, 112, 108, 97, 99, 101, 32, 99, 111, 117, 110, 116, 63, 32, 97, 115, 107]) m := fun m => oAdd_str (by decide)
  have l1 : (M ++ [Cell.dk false fr7]).length = M.length + 1 := by simp
  have l2 : (M ++ [Cell.dk false fr7] ++ [Cell.dk false fw1]).length = M.length + 2 := by simp
  have l3 : (M ++ [Cell.dk false fr7] ++ [Cell.dk false fw1] ++ [Cell.dk false fa0]).length = M.length + 3 := by simp
  have fin : ∀ c : Cell, M ++ [Cell.dk false fr7] ++ [Cell.dk false fw1] ++ [Cell.dk false fa0] ++ [c] = M ++ [.dk false fr7, .dk false fw1, .dk false fa0, c] := fun c => by simp
  push_cast [B_law_forms, d0, gIxA_eq, gr, ad, s0, s1, s2, s3, s4, s5, s6, d1, l1, sw, d2, l2, d3, l3, fin]
structure Sh (w n : Nat) (p : PyData) : Prop where
  s : p.showable = true
  l : p.leavesShort 13 = true
  w : p.weight ≤ w
  d : p.depth ≤ n
  f : noL p = true
structure ShL (w n : Nat) (p : List PyData) : Prop where
  s : PyData.showableAll p = true
  l : PyData.leavesShortAll 13 p = true
  w : PyData.weightAll p ≤ w
  d : PyData.depthAll p ≤ n
  f : noLAll p = true
structure ShK (w n : Nat) (p : List (PyData × PyData)) : Prop where
  s : PyData.showableKv p = true
  l : PyData.leavesShortKv 13 p = true
  w : PyData.weightKv p ≤ w
  d : PyData.depthKv p ≤ n
  f : noLKv p = true
theorem Sh.ok {w n : Nat} {p : PyData} (h : Sh w n p) (hw : w ≤ 2 ^ 20) (hn : n ≤ 60) : showOk p := ⟨h.s, h.l, Nat.le_trans h.w hw, Nat.le_trans h.d hn, fun _ => h.f⟩
theorem Sh.mono {w n w' n' : Nat} {p : PyData} (h : Sh w n p) (hw : w ≤ w') (hn : n ≤ n') : Sh w' n' p := ⟨h.s, h.l, Nat.le_trans h.w hw, Nat.le_trans h.d hn, h.f⟩
theorem ShL.nil {n : Nat} : ShL 0 n [] := ⟨rfl, rfl, Nat.le_refl _, Nat.zero_le _, rfl⟩
theorem ShL.cons {w w' n : Nat} {p : PyData} {ps : List PyData} (h : Sh w n p) (t : ShL w' n ps) : ShL (w + 1 + w') n (p :: ps) :=
  ⟨by simp only [PyData.showableAll, h.s, t.s, Bool.and_self], by simp only [PyData.leavesShortAll, h.l, t.l, Bool.and_self], by have := h.w; have := t.w; simp only [PyData.weightAll]; omega, by have := h.d; have := t.d; simp only [PyData.depthAll]; omega, by simp only [noLAll, h.f, t.f, Bool.and_self]⟩
theorem ShK.nil {n : Nat} : ShK 0 n [] := ⟨rfl, rfl, Nat.le_refl _, Nat.zero_le _, rfl⟩
theorem ShK.cons {w w1 w' n : Nat} {k p : PyData} {ps : List (PyData × PyData)} (hk : Sh w1 n k) (h : Sh w n p) (t : ShK w' n ps) : ShK (w1 + w + 2 + w') n ((k, p) :: ps) :=
  ⟨by simp only [PyData.showableKv, hk.s, h.s, t.s, Bool.and_self], by simp only [PyData.leavesShortKv, hk.l, h.l, t.l, Bool.and_self], by have := h.w; have := hk.w; have := t.w; simp only [PyData.weightKv]; omega, by have := h.d; have := hk.d; have := t.d; simp only [PyData.depthKv]; omega, by simp only [noLKv, h.f, t.f, Bool.and_self]⟩
theorem Sh.tup {w n : Nat} {ps : List PyData} (h : ShL w n ps) : Sh w (n + 1) (.tuple ps) :=
  ⟨by simpa only [PyData.showable] using h.s, by simpa only [PyData.leavesShort] using h.l, by simpa only [PyData.weight] using h.w, by have := h.d; simp only [PyData.depth]; omega, by simpa only [noL] using h.f⟩
theorem Sh.dict {w n : Nat} {ps : List (PyData × PyData)} (h : ShK w n ps) : Sh w (n + 1) (.dict ps) :=
  ⟨by simpa only [PyData.showable] using h.s, by simpa only [PyData.leavesShort] using h.l, by simpa only [PyData.weight] using h.w, by have := h.d; simp only [PyData.depth]; omega, by simpa only [noL] using h.f⟩
theorem Sh.non : Sh 0 0 .none := ⟨rfl, rfl, Nat.le_refl _, Nat.le_refl _, rfl⟩
theorem log_le {i : Nat} (h : i < 2 ^ 31) : i.log2 < 31 := by
  rcases Nat.eq_zero_or_pos i with z | z
  · subst z; simp
  · exact (Nat.log2_lt (by omega)).mpr h
theorem Sh.int {i : Int} (h0 : 0 ≤ i) (h1 : i < 1000000000) : Sh 31 0 (.int i) := by
  have hn : i.natAbs < 2 ^ 31 := by omega
  have hl := log_le hn
  refine ⟨?_, ?_, ?_, Nat.le_refl _, rfl⟩
  · simp only [PyData.showable, decide_eq_true_eq]; omega
  · simp only [PyData.leavesShort, decide_eq_true_eq]
    exact PyData.shown_int_le (by omega)
  · simp only [PyData.weight]
    split <;> omega
theorem Sh.str {w : List Nat} {n : Nat} (h : w.length ≤ n) (hc : ∀ c ∈ w, c < 1000000) : Sh n 0 (.str (l2s w)) := by
  refine ⟨rfl, ?_, ?_, Nat.le_refl _, rfl⟩
  · simp only [PyData.leavesShort, l2s, List.all_eq_true, decide_eq_true_eq, List.toList_toArray]
    intro c hc'
    have := hc c hc'
    omega
  · simpa only [PyData.weight, l2s, List.size_toArray] using h
/-- what an exact thing shows, to a bound -/
def ShD (w n : Nat) (d : D) : Prop := ∃ p, (∀ k, pyGo k d = some p) ∧ Sh w n p
def ShLD (w n : Nat) (l : List D) : Prop := ∃ p, (∀ k, pyGoL k l = some p) ∧ ShL w n p
theorem ShD.mono {w n w' n' : Nat} {p : D} (h : ShD w n p) (hw : w ≤ w') (hn : n ≤ n') : ShD w' n' p := by
  obtain ⟨p, h1, h2⟩ := h; exact ⟨p, h1, h2.mono hw hn⟩
theorem ShLD.nil {n : Nat} : ShLD 0 n [] := ⟨[], fun _ => rfl, .nil⟩
theorem ShLD.cons {w w' n : Nat} {d : D} {l : List D} (h : ShD w n d) (t : ShLD w' n l) : ShLD (w + 1 + w') n (d :: l) := by
  obtain ⟨p, h1, h2⟩ := h
  obtain ⟨q, t1, t2⟩ := t
  exact ⟨p :: q, fun k => by simp only [pyGoL, h1, t1], ShL.cons h2 t2⟩
theorem ShD.tup {w n : Nat} {l : List D} (h : ShLD w n l) : ShD w (n + 1) (.tup l) := by
  obtain ⟨p, h1, h2⟩ := h
  exact ⟨.tuple p, fun k => by simp only [pyGo, h1, Option.map_some], .tup h2⟩
theorem ShD.int {i : Int} (h0 : 0 ≤ i) (h1 : i < 1000000000) : ShD 31 0 (.int i) := ⟨.int i, fun _ => rfl, .int h0 h1⟩
theorem ShD.non : ShD 0 0 .non := ⟨.none, fun _ => rfl, .non⟩
theorem ShD.str {w : List Nat} {n : Nat} (h : w.length ≤ n) (hc : ∀ c ∈ w, c < 1000000) : ShD n 0 (.str w) := ⟨_, fun _ => rfl, .str h hc⟩
theorem ShLD.all {w n m : Nat} {l : List D} (hl : l.length ≤ m) (h : ∀ d ∈ l, ShD w n d) : ShLD ((w + 1) * m) n l := by
  suffices ∀ l : List D, (∀ d ∈ l, ShD w n d) → ShLD ((w + 1) * l.length) n l by
    obtain ⟨p, h1, h2⟩ := this l h
    exact ⟨p, h1, ⟨h2.s, h2.l, Nat.le_trans h2.w (Nat.mul_le_mul_left _ hl), h2.d, h2.f⟩⟩
  intro l
  induction l with
  | nil => intro _; exact .nil
  | cons d r ih =>
    intro h
    have e := ShLD.cons (h d (List.mem_cons_self ..)) (ih fun y hy => h y (List.mem_cons_of_mem _ hy))
    rw [List.length_cons, Nat.mul_add, Nat.mul_one, Nat.add_comm]
    exact e
def Px (n : Nat) (d : D) : Prop := exD d = true ∧ dpD d ≤ n
def PxL (n : Nat) (l : List D) : Prop := ∀ d ∈ l, Px n d
theorem Px.pl {n : Nat} {d : D} (h : Px n d) : Pl n d := let ⟨p, h1, h2⟩ := ex_pl h.1; ⟨p, h1, Nat.le_trans h2 h.2⟩
theorem Px.mono {n m : Nat} {d : D} (h : Px n d) (k : n ≤ m) : Px m d := ⟨h.1, Nat.le_trans h.2 k⟩
theorem Px.int {n : Nat} (i : Int) : Px n (.int i) := ⟨rfl, by simp [dpD]⟩
theorem Px.str {n : Nat} (x : List Nat) : Px n (.str x) := ⟨rfl, by simp [dpD]⟩
theorem Px.non {n : Nat} : Px n .non := ⟨rfl, by simp [dpD]⟩
theorem PxL.nil {n : Nat} : PxL n [] := fun d h => by cases h
theorem PxL.cons {n : Nat} {d : D} {l : List D} (h : Px n d) (t : PxL n l) : PxL n (d :: l) := fun x hx => by
  rcases List.mem_cons.mp hx with rfl | hx
  · exact h
  · exact t x hx
theorem PxL.dp {n : Nat} : ∀ {l : List D}, PxL n l → dpL l ≤ n
  | [], _ => Nat.zero_le _
  | d :: r, h => by
    have h1 := (h d (List.mem_cons_self ..)).2
    have h2 := PxL.dp (l := r) fun x hx => h x (List.mem_cons_of_mem _ hx)
    simp only [dpL]
    omega
theorem Px.tup {n : Nat} {l : List D} (h : PxL n l) : Px (n + 1) (.tup l) := ⟨by simp only [exD]; exact exL_iff.mpr fun d hd => (h d hd).1, by have := h.dp; simp only [dpD]; omega⟩
theorem pxL_str {n : Nat} (ws : List (List Nat)) : PxL n (ws.map .str) := fun d hd => by
  obtain ⟨w, _, rfl⟩ := List.mem_map.mp hd
  exact Px.str w
def PartOk (i : Nat) (F : List (List Nat)) (n : Nat) (form : List Nat) (W dp : Nat) : Prop := ∀ M0 M, FlAt M0 i M → ∃ d M', FlAt M0 i M' ∧ ShD W dp d ∧ Px dp d ∧ r_law_part n [.ref i, .lst (F.map .str), .str form] M = .ok d M'
theorem PartOk.of {i n : Nat} {F : List (List Nat)} {form : List Nat} {W dp : Nat} (H : ∀ M0 M, FlAt M0 i M → ∃ d A J, FlAt M i A ∧ ShD W dp d ∧ Px dp d ∧ B_law_part (r_law_part n) [some (.ref i), some (.lst (F.map .str)), some (.str form), none, none, none, none] M = .ok (.rt d) (A ++ J)) : PartOk i F (n + 1) form W dp := fun M0 M h => by
  obtain ⟨d, A, J, h1, h2, h3, e⟩ := H M0 M h
  exact ⟨d, A, h.trans h1, h2, h3, gc_flowV (n := dp) h1 (runB_rt (N := 7) e) h3.pl⟩
theorem PartOk.mono {i n : Nat} {F : List (List Nat)} {form : List Nat} {W dp W' dp' : Nat} (h : PartOk i F n form W dp) (h1 : W ≤ W') (h2 : dp ≤ dp') : PartOk i F n form W' dp' := fun M0 M hf => by
  obtain ⟨d, A, a, b, c, e⟩ := h M0 M hf
  exact ⟨d, A, a, b.mono h1 h2, c.mono h2, e⟩
theorem sEqT (w : List Nat) (M : Mem) : oEq false (.str w) (.str w) M = .ok (.bl true) M := oEq_exT rfl (by simp [dpD])
theorem sEqF {w v : List Nat} (h : w ≠ v) (M : Mem) : oEq false (.str w) (.str v) M = .ok (.bl false) M := oEq_exF rfl rfl (by simp [dpD]) (fun e => h (D.str.inj e))
theorem abc_small {w : List Nat} (h : ∀ c ∈ w, c ∈ abc) : ∀ c ∈ w, c < 1000000 := fun c hc => by
  have : ∀ c ∈ abc, c < 1000000 := by decide
  exact this c (h c hc)
theorem ShD.nm {w : List Nat} {n : Nat} (h : bw 6 w) : ShD 13 n (.str w) := (ShD.str (n := 13) (Nat.le_trans h.1 (by omega)) (abc_small h.2)).mono (Nat.le_refl _) (Nat.zero_le _)
theorem nm_atF {F : List (List Nat)} (hw : ∀ w ∈ F, bw 6 w) (h8 : F.length = 3) (k : Nat) (h9 : (k : Int) < 3) : ∃ w, atI (F.map D.str) k = some (.str w) ∧ bw 6 w := by
  obtain ⟨d, hd, hm⟩ := atI_some (xs := F.map D.str) (i := (k : Int)) (by omega) (by rw [List.length_map]; omega)
  obtain ⟨w, h1, rfl⟩ := List.mem_map.mp hm
  exact ⟨w, hd, hw w h1⟩
theorem oLenA_F {F : List (List Nat)} (h8 : F.length = 3) (M : Mem) : oLenA [.lst (F.map .str)] M = .ok (.int 3) M := by
  rw [oLenA_lst, oLen_lst, List.length_map, h8]
  rfl
theorem wipe3 (x0 x1 x2 x3 x4 x5 x6 : Option D) : wipeE [x0, x1, x2, x3, x4, x5, x6] [3] = [x0, x1, x2, none, x4, x5, x6] := rfl
theorem wipe6 (x0 x1 x2 x3 x4 x5 x6 : Option D) : wipeE [x0, x1, x2, x3, x4, x5, x6] [6] = [x0, x1, x2, x3, x4, x5, none] := rfl
section
variable {i n : Nat} {F : List (List Nat)}
theorem part_count (hw : ∀ w ∈ F, bw 6 w) (h8 : F.length = 3) : PartOk i F (n + 1) [99, 111, 117, 110, 116] 300 1 := .of fun M0 M h => by
  have lx : ∀ M, oIx (.str [99, 111, 117, 110, 116]) (.int (-1)) M = .ok (.str [116]) M := fun M => rfl
  have q0 : ∀ M, oEq false (.str [116]) (.str [63]) M = .ok (.bl false) M := fun M => sEqF (by decide) M
  have q1 : ∀ M, oEq false (.str [99, 111, 117, 110, 116]) (.str [99, 111, 117, 110, 116]) M = .ok (.bl true) M := fun M => sEqT _ M
  obtain ⟨v, M1, v0, v1, h1, e1⟩ := number_eq h.self
  refine ⟨.int v, M1, [], h1, (ShD.int v0 v1).mono (by omega) (by omega), Px.int _, ?_⟩
  rw [List.append_nil]
  simp -implicitDefEqProofs (disch := first | assumption | omega | (simp only [List.length_cons, List.length_nil, List.length_append, List.length_map, List.length_take, List.length_drop, rngItems_len]; omega)) only [mSeq_eq, mIfS_eq, mSet_eq, mRet_eq, mRetN_eq, mExpr_eq, mPass_eq, mAsg_eq, mPar_eq, mAug_eq, bOf_eq, tOf_eq, tAndM_eq, tOrM_eq, tNotM_eq, tsYes_eq, mOp_eq, mUn_eq, mVar_eq, mC_eq, mCall_eq, mFun_eq, mFunKw_eq, mMeth_eq, mAnd_eq, mOr_eq, mNot_eq, mIf_eq, mChain_eq, mSl_eq, pNone_eq, pSome_eq, aCons_eq, aNil_eq, mTup_eq, mLst_eq, gN_eq, gT_eq, gsNil_eq, gsCons_eq, mkL_t, mkL_f, R.bind_ok, R.bind_no, R.nox_ok, List.getElem?_cons_zero, List.getElem?_cons_succ, List.set_cons_zero, List.set_cons_succ, List.length_cons, List.length_nil, List.append_nil, List.nil_append, List.cons_append, piApp_on, oLen_fz, oLen_lst, oLen_tup, oLt_int, oLe_int, oGt_int, oGe_int, oAdd_int, oSub_int, oIx_fz, oIx_lst, oIx_tup, oMax_int, oMin_int, oInt_bl, oInt_int, oIsi_bl, oNeg_int, oTuple_lst, oTuple_tup, iR1_eq, iR2_eq, iSq_eq, iStrM_eq, srcOf_tup, srcOf_lst, srcOf_fz, if_true, if_false, Bool.false_eq_true, Bool.true_eq_false, reduceIte, Nat.reduceAdd, Nat.reduceLeDiff, Nat.reduceEqDiff, Bool.not_true, Bool.not_false, decide_true, decide_false, and_self, and_true, true_and, oMod_int, oMul_r, oMul_l, oLen_str, oAdd_str, oSl_str, oSl_tup, oSl_lst, oSl_fz, rngOk_of, oEq_int, oEq_bl, beq_self_eq_true, Int.toNat_natCast, mFor_eq, mLc_eq, app_get0, app_get1, app_set0, app_set1, tyOk, oTuple_ref, oList_ref, oLen_refM, oIx_refM, oAppM, oExtM, srcOf_refM, ifLt24, ifLe24, B_law_part, oIxA_str, lx, q0, q1, e1]
theorem part_name (hw : ∀ w ∈ F, bw 6 w) (h8 : F.length = 3) : PartOk i F (n + 1) [110, 97, 109, 101] 300 1 := .of fun M0 M h => by
  have lx : ∀ M, oIx (.str [110, 97, 109, 101]) (.int (-1)) M = .ok (.str [101]) M := fun M => rfl
  have q0 : ∀ M, oEq false (.str [101]) (.str [63]) M = .ok (.bl false) M := fun M => sEqF (by decide) M
  have q1 : ∀ M, oEq false (.str [110, 97, 109, 101]) (.str [99, 111, 117, 110, 116]) M = .ok (.bl false) M := fun M => sEqF (by decide) M
  have q2 : ∀ M, oEq false (.str [110, 97, 109, 101]) (.str [110, 97, 109, 101]) M = .ok (.bl true) M := fun M => sEqT _ M
  obtain ⟨v, M1, v1, h1, e1⟩ := draw_eq h.self 3 (by omega) (by omega)
  obtain ⟨w, hw1, hb⟩ := nm_atF hw h8 v v1
  refine ⟨.str w, M1, [], h1, (ShD.nm (n := 1) hb).mono (by omega) (by omega), Px.str _, ?_⟩
  rw [List.append_nil]
  simp -implicitDefEqProofs (disch := first | assumption | omega | (simp only [List.length_cons, List.length_nil, List.length_append, List.length_map, List.length_take, List.length_drop, rngItems_len]; omega)) only [mSeq_eq, mIfS_eq, mSet_eq, mRet_eq, mRetN_eq, mExpr_eq, mPass_eq, mAsg_eq, mPar_eq, mAug_eq, bOf_eq, tOf_eq, tAndM_eq, tOrM_eq, tNotM_eq, tsYes_eq, mOp_eq, mUn_eq, mVar_eq, mC_eq, mCall_eq, mFun_eq, mFunKw_eq, mMeth_eq, mAnd_eq, mOr_eq, mNot_eq, mIf_eq, mChain_eq, mSl_eq, pNone_eq, pSome_eq, aCons_eq, aNil_eq, mTup_eq, mLst_eq, gN_eq, gT_eq, gsNil_eq, gsCons_eq, mkL_t, mkL_f, R.bind_ok, R.bind_no, R.nox_ok, List.getElem?_cons_zero, List.getElem?_cons_succ, List.set_cons_zero, List.set_cons_succ, List.length_cons, List.length_nil, List.append_nil, List.nil_append, List.cons_append, piApp_on, oLen_fz, oLen_lst, oLen_tup, oLt_int, oLe_int, oGt_int, oGe_int, oAdd_int, oSub_int, oIx_fz, oIx_lst, oIx_tup, oMax_int, oMin_int, oInt_bl, oInt_int, oIsi_bl, oNeg_int, oTuple_lst, oTuple_tup, iR1_eq, iR2_eq, iSq_eq, iStrM_eq, srcOf_tup, srcOf_lst, srcOf_fz, if_true, if_false, Bool.false_eq_true, Bool.true_eq_false, reduceIte, Nat.reduceAdd, Nat.reduceLeDiff, Nat.reduceEqDiff, Bool.not_true, Bool.not_false, decide_true, decide_false, and_self, and_true, true_and, oMod_int, oMul_r, oMul_l, oLen_str, oAdd_str, oSl_str, oSl_tup, oSl_lst, oSl_fz, rngOk_of, oEq_int, oEq_bl, beq_self_eq_true, Int.toNat_natCast, mFor_eq, mLc_eq, app_get0, app_get1, app_set0, app_set1, tyOk, oTuple_ref, oList_ref, oLen_refM, oIx_refM, oAppM, oExtM, srcOf_refM, ifLt24, ifLe24, B_law_part, oIxA_str, lx, q0, q1, q2, oLenA_F h8, e1, oIxA_lst, hw1]
theorem part_place (hw : ∀ w ∈ F, bw 6 w) (h8 : F.length = 3) : PartOk i F (n + 1) [112, 108, 97, 99, 101] 300 1 := .of fun M0 M h => by
  have lx : ∀ M, oIx (.str [112, 108, 97, 99, 101]) (.int (-1)) M = .ok (.str [101]) M := fun M => rfl
  have q0 : ∀ M, oEq false (.str [101]) (.str [63]) M = .ok (.bl false) M := fun M => sEqF (by decide) M
  have q1 : ∀ M, oEq false (.str [112, 108, 97, 99, 101]) (.str [99, 111, 117, 110, 116]) M = .ok (.bl false) M := fun M => sEqF (by decide) M
  have q2 : ∀ M, oEq false (.str [112, 108, 97, 99, 101]) (.str [110, 97, 109, 101]) M = .ok (.bl false) M := fun M => sEqF (by decide) M
  have q3 : ∀ M, oEq false (.str [112, 108, 97, 99, 101]) (.str [112, 108, 97, 99, 101]) M = .ok (.bl true) M := fun M => sEqT _ M
  obtain ⟨v, M1, v1, h1, e1⟩ := draw_eq h.self 3 (by omega) (by omega)
  obtain ⟨u, M2, u1, h2, e2⟩ := draw_eq h1 3 (by omega) (by omega)
  obtain ⟨w, hw1, hb⟩ := nm_atF hw h8 v v1
  obtain ⟨z, hz1, hz⟩ := nm_atF hw h8 u u1
  refine ⟨.tup [.str w, .str z], M2, [], h2, (ShD.tup (n := 0) (.cons (ShD.nm hb) (.cons (ShD.nm hz) .nil))).mono (by omega) (by omega), Px.tup (PxL.cons (Px.str _) (PxL.cons (Px.str _) PxL.nil)), ?_⟩
  rw [List.append_nil]
  simp -implicitDefEqProofs (disch := first | assumption | omega | (simp only [List.length_cons, List.length_nil, List.length_append, List.length_map, List.length_take, List.length_drop, rngItems_len]; omega)) only [mSeq_eq, mIfS_eq, mSet_eq, mRet_eq, mRetN_eq, mExpr_eq, mPass_eq, mAsg_eq, mPar_eq, mAug_eq, bOf_eq, tOf_eq, tAndM_eq, tOrM_eq, tNotM_eq, tsYes_eq, mOp_eq, mUn_eq, mVar_eq, mC_eq, mCall_eq, mFun_eq, mFunKw_eq, mMeth_eq, mAnd_eq, mOr_eq, mNot_eq, mIf_eq, mChain_eq, mSl_eq, pNone_eq, pSome_eq, aCons_eq, aNil_eq, mTup_eq, mLst_eq, gN_eq, gT_eq, gsNil_eq, gsCons_eq, mkL_t, mkL_f, R.bind_ok, R.bind_no, R.nox_ok, List.getElem?_cons_zero, List.getElem?_cons_succ, List.set_cons_zero, List.set_cons_succ, List.length_cons, List.length_nil, List.append_nil, List.nil_append, List.cons_append, piApp_on, oLen_fz, oLen_lst, oLen_tup, oLt_int, oLe_int, oGt_int, oGe_int, oAdd_int, oSub_int, oIx_fz, oIx_lst, oIx_tup, oMax_int, oMin_int, oInt_bl, oInt_int, oIsi_bl, oNeg_int, oTuple_lst, oTuple_tup, iR1_eq, iR2_eq, iSq_eq, iStrM_eq, srcOf_tup, srcOf_lst, srcOf_fz, if_true, if_false, Bool.false_eq_true, Bool.true_eq_false, reduceIte, Nat.reduceAdd, Nat.reduceLeDiff, Nat.reduceEqDiff, Bool.not_true, Bool.not_false, decide_true, decide_false, and_self, and_true, true_and, oMod_int, oMul_r, oMul_l, oLen_str, oAdd_str, oSl_str, oSl_tup, oSl_lst, oSl_fz, rngOk_of, oEq_int, oEq_bl, beq_self_eq_true, Int.toNat_natCast, mFor_eq, mLc_eq, app_get0, app_get1, app_set0, app_set1, tyOk, oTuple_ref, oList_ref, oLen_refM, oIx_refM, oAppM, oExtM, srcOf_refM, ifLt24, ifLe24, B_law_part, oIxA_str, lx, q0, q1, q2, q3, oLenA_F h8, e1, e2, oIxA_lst, hw1, hz1]
theorem part_ask (hw : ∀ w ∈ F, bw 6 w) (h8 : F.length = 3) : PartOk i F (n + 1) [97, 115, 107] 300 1 := .of fun M0 M h => by
  have lx : ∀ M, oIx (.str [97, 115, 107]) (.int (-1)) M = .ok (.str [107]) M := fun M => rfl
  have q0 : ∀ M, oEq false (.str [107]) (.str [63]) M = .ok (.bl false) M := fun M => sEqF (by decide) M
  have q1 : ∀ M, oEq false (.str [97, 115, 107]) (.str [99, 111, 117, 110, 116]) M = .ok (.bl false) M := fun M => sEqF (by decide) M
  have q2 : ∀ M, oEq false (.str [97, 115, 107]) (.str [110, 97, 109, 101]) M = .ok (.bl false) M := fun M => sEqF (by decide) M
  have q3 : ∀ M, oEq false (.str [97, 115, 107]) (.str [112, 108, 97, 99, 101]) M = .ok (.bl false) M := fun M => sEqF (by decide) M
  have q4 : ∀ M, oEq false (.str [97, 115, 107]) (.str [97, 115, 107]) M = .ok (.bl true) M := fun M => sEqT _ M
  obtain ⟨v, M1, v1, h1, e1⟩ := draw_eq h.self 3 (by omega) (by omega)
  obtain ⟨u, M2, u0, u1, h2, e2⟩ := number_eq h1
  obtain ⟨w, hw1, hb⟩ := nm_atF hw h8 v v1
  refine ⟨.tup [.str w, .int u], M2, [], h2, (ShD.tup (n := 0) (.cons (ShD.nm hb) (.cons (ShD.int u0 u1) .nil))).mono (by omega) (by omega), Px.tup (PxL.cons (Px.str _) (PxL.cons (Px.int _) PxL.nil)), ?_⟩
  rw [List.append_nil]
  simp -implicitDefEqProofs (disch := first | assumption | omega | (simp only [List.length_cons, List.length_nil, List.length_append, List.length_map, List.length_take, List.length_drop, rngItems_len]; omega)) only [mSeq_eq, mIfS_eq, mSet_eq, mRet_eq, mRetN_eq, mExpr_eq, mPass_eq, mAsg_eq, mPar_eq, mAug_eq, bOf_eq, tOf_eq, tAndM_eq, tOrM_eq, tNotM_eq, tsYes_eq, mOp_eq, mUn_eq, mVar_eq, mC_eq, mCall_eq, mFun_eq, mFunKw_eq, mMeth_eq, mAnd_eq, mOr_eq, mNot_eq, mIf_eq, mChain_eq, mSl_eq, pNone_eq, pSome_eq, aCons_eq, aNil_eq, mTup_eq, mLst_eq, gN_eq, gT_eq, gsNil_eq, gsCons_eq, mkL_t, mkL_f, R.bind_ok, R.bind_no, R.nox_ok, List.getElem?_cons_zero, List.getElem?_cons_succ, List.set_cons_zero, List.set_cons_succ, List.length_cons, List.length_nil, List.append_nil, List.nil_append, List.cons_append, piApp_on, oLen_fz, oLen_lst, oLen_tup, oLt_int, oLe_int, oGt_int, oGe_int, oAdd_int, oSub_int, oIx_fz, oIx_lst, oIx_tup, oMax_int, oMin_int, oInt_bl, oInt_int, oIsi_bl, oNeg_int, oTuple_lst, oTuple_tup, iR1_eq, iR2_eq, iSq_eq, iStrM_eq, srcOf_tup, srcOf_lst, srcOf_fz, if_true, if_false, Bool.false_eq_true, Bool.true_eq_false, reduceIte, Nat.reduceAdd, Nat.reduceLeDiff, Nat.reduceEqDiff, Bool.not_true, Bool.not_false, decide_true, decide_false, and_self, and_true, true_and, oMod_int, oMul_r, oMul_l, oLen_str, oAdd_str, oSl_str, oSl_tup, oSl_lst, oSl_fz, rngOk_of, oEq_int, oEq_bl, beq_self_eq_true, Int.toNat_natCast, mFor_eq, mLc_eq, app_get0, app_get1, app_set0, app_set1, tyOk, oTuple_ref, oList_ref, oLen_refM, oIx_refM, oAppM, oExtM, srcOf_refM, ifLt24, ifLe24, B_law_part, oIxA_str, lx, q0, q1, q2, q3, q4, oLenA_F h8, e1, e2, oIxA_lst, hw1]
theorem part_rights (hw : ∀ w ∈ F, bw 6 w) (h8 : F.length = 3) : PartOk i F (n + 1) [114, 105, 103, 104, 116, 115] 300 1 := .of fun M0 M h => by
  have lx : ∀ M, oIx (.str [114, 105, 103, 104, 116, 115]) (.int (-1)) M = .ok (.str [115]) M := fun M => rfl
  have q0 : ∀ M, oEq false (.str [115]) (.str [63]) M = .ok (.bl false) M := fun M => sEqF (by decide) M
  have q1 : ∀ M, oEq false (.str [114, 105, 103, 104, 116, 115]) (.str [99, 111, 117, 110, 116]) M = .ok (.bl false) M := fun M => sEqF (by decide) M
  have q2 : ∀ M, oEq false (.str [114, 105, 103, 104, 116, 115]) (.str [110, 97, 109, 101]) M = .ok (.bl false) M := fun M => sEqF (by decide) M
  have q3 : ∀ M, oEq false (.str [114, 105, 103, 104, 116, 115]) (.str [112, 108, 97, 99, 101]) M = .ok (.bl false) M := fun M => sEqF (by decide) M
  have q4 : ∀ M, oEq false (.str [114, 105, 103, 104, 116, 115]) (.str [97, 115, 107]) M = .ok (.bl false) M := fun M => sEqF (by decide) M
  have q5 : ∀ M, oEq false (.str [114, 105, 103, 104, 116, 115]) (.str [114, 105, 103, 104, 116, 115]) M = .ok (.bl true) M := fun M => sEqT _ M
  obtain ⟨ws, M1, w1, _, w2, h1, e1⟩ := rights_eq h.self (.lst (F.map .str)) F (fun M => rfl) (by omega) (by omega)
  refine ⟨.tup (ws.map .str), M1, [], h1, (ShD.tup (n := 0) (ShLD.all (w := 13) (m := 4) (by rw [List.length_map]; exact w2) fun d hd => by obtain ⟨w, hm, rfl⟩ := List.mem_map.mp hd; exact ShD.nm (hw w (w1 w hm)))).mono (by omega) (by omega), Px.tup (pxL_str ws), ?_⟩
  rw [List.append_nil]
  simp -implicitDefEqProofs (disch := first | assumption | omega | (simp only [List.length_cons, List.length_nil, List.length_append, List.length_map, List.length_take, List.length_drop, rngItems_len]; omega)) only [mSeq_eq, mIfS_eq, mSet_eq, mRet_eq, mRetN_eq, mExpr_eq, mPass_eq, mAsg_eq, mPar_eq, mAug_eq, bOf_eq, tOf_eq, tAndM_eq, tOrM_eq, tNotM_eq, tsYes_eq, mOp_eq, mUn_eq, mVar_eq, mC_eq, mCall_eq, mFun_eq, mFunKw_eq, mMeth_eq, mAnd_eq, mOr_eq, mNot_eq, mIf_eq, mChain_eq, mSl_eq, pNone_eq, pSome_eq, aCons_eq, aNil_eq, mTup_eq, mLst_eq, gN_eq, gT_eq, gsNil_eq, gsCons_eq, mkL_t, mkL_f, R.bind_ok, R.bind_no, R.nox_ok, List.getElem?_cons_zero, List.getElem?_cons_succ, List.set_cons_zero, List.set_cons_succ, List.length_cons, List.length_nil, List.append_nil, List.nil_append, List.cons_append, piApp_on, oLen_fz, oLen_lst, oLen_tup, oLt_int, oLe_int, oGt_int, oGe_int, oAdd_int, oSub_int, oIx_fz, oIx_lst, oIx_tup, oMax_int, oMin_int, oInt_bl, oInt_int, oIsi_bl, oNeg_int, oTuple_lst, oTuple_tup, iR1_eq, iR2_eq, iSq_eq, iStrM_eq, srcOf_tup, srcOf_lst, srcOf_fz, if_true, if_false, Bool.false_eq_true, Bool.true_eq_false, reduceIte, Nat.reduceAdd, Nat.reduceLeDiff, Nat.reduceEqDiff, Bool.not_true, Bool.not_false, decide_true, decide_false, and_self, and_true, true_and, oMod_int, oMul_r, oMul_l, oLen_str, oAdd_str, oSl_str, oSl_tup, oSl_lst, oSl_fz, rngOk_of, oEq_int, oEq_bl, beq_self_eq_true, Int.toNat_natCast, mFor_eq, mLc_eq, app_get0, app_get1, app_set0, app_set1, tyOk, oTuple_ref, oList_ref, oLen_refM, oIx_refM, oAppM, oExtM, srcOf_refM, ifLt24, ifLe24, B_law_part, oIxA_str, lx, q0, q1, q2, q3, q4, q5, e1]
theorem part_chain (hw : ∀ w ∈ F, bw 6 w) (h8 : F.length = 3) : PartOk i F (n + 1) [99, 104, 97, 105, 110] 300 1 := .of fun M0 M h => by
  have lx : ∀ M, oIx (.str [99, 104, 97, 105, 110]) (.int (-1)) M = .ok (.str [110]) M := fun M => rfl
  have q0 : ∀ M, oEq false (.str [110]) (.str [63]) M = .ok (.bl false) M := fun M => sEqF (by decide) M
  have q1 : ∀ M, oEq false (.str [99, 104, 97, 105, 110]) (.str [99, 111, 117, 110, 116]) M = .ok (.bl false) M := fun M => sEqF (by decide) M
  have q2 : ∀ M, oEq false (.str [99, 104, 97, 105, 110]) (.str [110, 97, 109, 101]) M = .ok (.bl false) M := fun M => sEqF (by decide) M
  have q3 : ∀ M, oEq false (.str [99, 104, 97, 105, 110]) (.str [112, 108, 97, 99, 101]) M = .ok (.bl false) M := fun M => sEqF (by decide) M
  have q4 : ∀ M, oEq false (.str [99, 104, 97, 105, 110]) (.str [97, 115, 107]) M = .ok (.bl false) M := fun M => sEqF (by decide) M
  have q5 : ∀ M, oEq false (.str [99, 104, 97, 105, 110]) (.str [114, 105, 103, 104, 116, 115]) M = .ok (.bl false) M := fun M => sEqF (by decide) M
  have q6 : ∀ M, oEq false (.str [99, 104, 97, 105, 110]) (.str [99, 104, 97, 105, 110]) M = .ok (.bl true) M := fun M => sEqT _ M
  obtain ⟨k, M1, k1, h1, e1⟩ := draw_eq h.self 3 (by omega) (by omega)
  obtain ⟨m, hm, m0, m1⟩ : ∃ m : Nat, atI [D.int 4, .int 4, .int 9] (k : Int) = some (.int m) ∧ 0 < m ∧ m < 10 := by
    rcases (show k = 0 ∨ k = 1 ∨ k = 2 by omega) with z | z | z <;> subst z
    · exact ⟨4, rfl, by omega, by omega⟩
    · exact ⟨4, rfl, by omega, by omega⟩
    · exact ⟨9, rfl, by omega, by omega⟩
  obtain ⟨v, M2, v1, h2, e2⟩ := draw_eq h1 (m : Int) (by omega) (by omega)
  obtain ⟨ys, M3, e3, l3, y3, h3⟩ := compL_inv (g := gN 3) (f := C_law_part_0 (r_law_part n)) (env := [some (.ref i), some (.lst (F.map .str)), some (.str [99, 104, 97, 105, 110]), none, none, none, none]) (fun _ M' => FlAt M i M') (fun _ _ y => ∃ u : Int, y = .int u ∧ 0 ≤ u ∧ u < 1000000000) (rngItems 0 (1 + v)) 0 M2 h2 fun k d M4 hk h4 => by
    obtain ⟨u, M5, u0, u1, h5, e5⟩ := number_eq h4
    refine ⟨.int u, M5, ?_, ⟨u, rfl, u0, u1⟩, h5⟩
    push_cast [C_law_part_0, e5]
  have hy : ∀ d ∈ ys, ∃ u : Int, d = .int u ∧ 0 ≤ u ∧ u < 1000000000 := fun d hd => allY l3 y3 hd
  have ly : ys.length ≤ 9 := by rw [l3, rngItems_len]; omega
  have tn : (1 + (v : Int)).toNat = 1 + v := by omega
  refine ⟨.tup ys, M3, [], h3, (ShD.tup (n := 0) (ShLD.all (w := 31) (m := 9) ly fun d hd => by obtain ⟨u, rfl, u0, u1⟩ := hy d hd; exact ShD.int u0 u1)).mono (by omega) (by omega), Px.tup (fun d hd => by obtain ⟨u, rfl, _, _⟩ := hy d hd; exact Px.int _), ?_⟩
  rw [List.append_nil]
  simp -implicitDefEqProofs (disch := first | assumption | omega | (simp only [List.length_cons, List.length_nil, List.length_append, List.length_map, List.length_take, List.length_drop, rngItems_len]; omega)) only [mSeq_eq, mIfS_eq, mSet_eq, mRet_eq, mRetN_eq, mExpr_eq, mPass_eq, mAsg_eq, mPar_eq, mAug_eq, bOf_eq, tOf_eq, tAndM_eq, tOrM_eq, tNotM_eq, tsYes_eq, mOp_eq, mUn_eq, mVar_eq, mC_eq, mCall_eq, mFun_eq, mFunKw_eq, mMeth_eq, mAnd_eq, mOr_eq, mNot_eq, mIf_eq, mChain_eq, mSl_eq, pNone_eq, pSome_eq, aCons_eq, aNil_eq, mTup_eq, mLst_eq, gN_eq, gT_eq, gsNil_eq, gsCons_eq, mkL_t, mkL_f, R.bind_ok, R.bind_no, R.nox_ok, List.getElem?_cons_zero, List.getElem?_cons_succ, List.set_cons_zero, List.set_cons_succ, List.length_cons, List.length_nil, List.append_nil, List.nil_append, List.cons_append, piApp_on, oLen_fz, oLen_lst, oLen_tup, oLt_int, oLe_int, oGt_int, oGe_int, oAdd_int, oSub_int, oIx_fz, oIx_lst, oIx_tup, oMax_int, oMin_int, oInt_bl, oInt_int, oIsi_bl, oNeg_int, oTuple_lst, oTuple_tup, iR1_eq, iR2_eq, iSq_eq, iStrM_eq, srcOf_tup, srcOf_lst, srcOf_fz, if_true, if_false, Bool.false_eq_true, Bool.true_eq_false, reduceIte, Nat.reduceAdd, Nat.reduceLeDiff, Nat.reduceEqDiff, Bool.not_true, Bool.not_false, decide_true, decide_false, and_self, and_true, true_and, oMod_int, oMul_r, oMul_l, oLen_str, oAdd_str, oSl_str, oSl_tup, oSl_lst, oSl_fz, rngOk_of, oEq_int, oEq_bl, beq_self_eq_true, Int.toNat_natCast, mFor_eq, mLc_eq, app_get0, app_get1, app_set0, app_set1, tyOk, oTuple_ref, oList_ref, oLen_refM, oIx_refM, oAppM, oExtM, srcOf_refM, ifLt24, ifLe24, B_law_part, oIxA_str, lx, q0, q1, q2, q3, q4, q5, q6, e1, oIxA_lst, hm, e2, tn, wipe3, e3]
theorem part_thing (hw : ∀ w ∈ F, bw 6 w) (h8 : F.length = 3) : PartOk i F (n + 1) [116, 104, 105, 110, 103] 300 1 := .of fun M0 M h => by
  have lx : ∀ M, oIx (.str [116, 104, 105, 110, 103]) (.int (-1)) M = .ok (.str [103]) M := fun M => rfl
  have q0 : ∀ M, oEq false (.str [103]) (.str [63]) M = .ok (.bl false) M := fun M => sEqF (by decide) M
  have q1 : ∀ M, oEq false (.str [116, 104, 105, 110, 103]) (.str [99, 111, 117, 110, 116]) M = .ok (.bl false) M := fun M => sEqF (by decide) M
  have q2 : ∀ M, oEq false (.str [116, 104, 105, 110, 103]) (.str [110, 97, 109, 101]) M = .ok (.bl false) M := fun M => sEqF (by decide) M
  have q3 : ∀ M, oEq false (.str [116, 104, 105, 110, 103]) (.str [112, 108, 97, 99, 101]) M = .ok (.bl false) M := fun M => sEqF (by decide) M
  have q4 : ∀ M, oEq false (.str [116, 104, 105, 110, 103]) (.str [97, 115, 107]) M = .ok (.bl false) M := fun M => sEqF (by decide) M
  have q5 : ∀ M, oEq false (.str [116, 104, 105, 110, 103]) (.str [114, 105, 103, 104, 116, 115]) M = .ok (.bl false) M := fun M => sEqF (by decide) M
  have q6 : ∀ M, oEq false (.str [116, 104, 105, 110, 103]) (.str [99, 104, 97, 105, 110]) M = .ok (.bl false) M := fun M => sEqF (by decide) M
  have q7 : ∀ M, oEq false (.str [116, 104, 105, 110, 103]) (.str [116, 104, 105, 110, 103]) M = .ok (.bl true) M := fun M => sEqT _ M
  obtain ⟨v, M1, v1, h1, e1⟩ := draw_eq h.self 3 (by omega) (by omega)
  obtain ⟨w, hw1, hb⟩ := nm_atF hw h8 v v1
  obtain ⟨u, M2, u0, u1, h2, e2⟩ := number_eq h1
  obtain ⟨k, M3, k1, h3, e3⟩ := draw_eq h2 3 (by omega) (by omega)
  obtain ⟨d, hd, hs, hp⟩ : ∃ d : D, atI [D.non, .str w, .int u] (k : Int) = some d ∧ ShD 300 1 d ∧ Px 1 d := by
    rcases (show k = 0 ∨ k = 1 ∨ k = 2 by omega) with z | z | z <;> subst z
    · exact ⟨_, rfl, ShD.non.mono (by omega) (by omega), Px.non⟩
    · exact ⟨_, rfl, (ShD.nm (n := 1) hb).mono (by omega) (by omega), Px.str _⟩
    · exact ⟨_, rfl, (ShD.int u0 u1).mono (by omega) (by omega), Px.int _⟩
  refine ⟨d, M3, [], h3, hs, hp, ?_⟩
  rw [List.append_nil]
  simp -implicitDefEqProofs (disch := first | assumption | omega | (simp only [List.length_cons, List.length_nil, List.length_append, List.length_map, List.length_take, List.length_drop, rngItems_len]; omega)) only [mSeq_eq, mIfS_eq, mSet_eq, mRet_eq, mRetN_eq, mExpr_eq, mPass_eq, mAsg_eq, mPar_eq, mAug_eq, bOf_eq, tOf_eq, tAndM_eq, tOrM_eq, tNotM_eq, tsYes_eq, mOp_eq, mUn_eq, mVar_eq, mC_eq, mCall_eq, mFun_eq, mFunKw_eq, mMeth_eq, mAnd_eq, mOr_eq, mNot_eq, mIf_eq, mChain_eq, mSl_eq, pNone_eq, pSome_eq, aCons_eq, aNil_eq, mTup_eq, mLst_eq, gN_eq, gT_eq, gsNil_eq, gsCons_eq, mkL_t, mkL_f, R.bind_ok, R.bind_no, R.nox_ok, List.getElem?_cons_zero, List.getElem?_cons_succ, List.set_cons_zero, List.set_cons_succ, List.length_cons, List.length_nil, List.append_nil, List.nil_append, List.cons_append, piApp_on, oLen_fz, oLen_lst, oLen_tup, oLt_int, oLe_int, oGt_int, oGe_int, oAdd_int, oSub_int, oIx_fz, oIx_lst, oIx_tup, oMax_int, oMin_int, oInt_bl, oInt_int, oIsi_bl, oNeg_int, oTuple_lst, oTuple_tup, iR1_eq, iR2_eq, iSq_eq, iStrM_eq, srcOf_tup, srcOf_lst, srcOf_fz, if_true, if_false, Bool.false_eq_true, Bool.true_eq_false, reduceIte, Nat.reduceAdd, Nat.reduceLeDiff, Nat.reduceEqDiff, Bool.not_true, Bool.not_false, decide_true, decide_false, and_self, and_true, true_and, oMod_int, oMul_r, oMul_l, oLen_str, oAdd_str, oSl_str, oSl_tup, oSl_lst, oSl_fz, rngOk_of, oEq_int, oEq_bl, beq_self_eq_true, Int.toNat_natCast, mFor_eq, mLc_eq, app_get0, app_get1, app_set0, app_set1, tyOk, oTuple_ref, oList_ref, oLen_refM, oIx_refM, oAppM, oExtM, srcOf_refM, ifLt24, ifLe24, B_law_part, oIxA_str, lx, q0, q1, q2, q3, q4, q5, q6, q7, oLenA_F h8, e1, oIxA_lst, hw1, e2, e3, hd]
end
theorem gA_strs {ks : List (List Nat × List Nat × List (List Nat))} {w : List Nat} (h : w ∈ ks.map (·.1)) : ∃ q ∈ ks, q.1 = w ∧ gA (ks.map fun q => ((.inr q.1 : KK), D.str q.2.1)) (.inr w) = some (.str q.2.1) := by
  induction ks with
  | nil => simp at h
  | cons a r ih =>
    by_cases e : a.1 = w
    · exact ⟨a, List.mem_cons_self .., e, by simp [gA, e]⟩
    · obtain ⟨q, h1, h2, h3⟩ := ih (by rw [List.map_cons, List.mem_cons] at h; exact h.resolve_left (fun z => e z.symm))
      refine ⟨q, List.mem_cons_of_mem _ h1, h2, ?_⟩
      rw [← h3]
      simp [gA, e]
theorem oAdd_tup1 (d : D) (l : List D) (h : l.length < 16777216) (M : Mem) : oAdd false (.tup [d]) (.tup l) M = .ok (.tup (d :: l)) M := by
  have e : oAdd false (.tup [d]) (.tup l) M = (if ([d] : List D).length + l.length ≤ 16777216 then R.ok (.tup ([d] ++ l)) M else .no) := rfl
  rw [e, if_pos (by simp; omega)]
  rfl
def bw' (w : List Nat) : Prop := w.length ≤ 13 ∧ ∀ c ∈ w, c < 1000000
abbrev leafs : List (List Nat) := [[99, 111, 117, 110, 116], [110, 97, 109, 101], [112, 108, 97, 99, 101], [97, 115, 107], [114, 105, 103, 104, 116, 115], [99, 104, 97, 105, 110], [116, 104, 105, 110, 103]]
def partKs (i : Nat) (F : List (List Nat)) (n W dp : Nat) (ks : List (List Nat × List Nat × List (List Nat))) : Prop := ∀ q ∈ ks, bw' q.1 ∧ q.2.1.length ≤ 1000 ∧ wordsL q.2.1 = q.2.2 ∧ q.2.2.length ≤ 12 ∧ ∀ x ∈ q.2.2, PartOk i F n x W dp
theorem part_comp {i n c : Nat} {F : List (List Nat)} {form : List Nat} {W dp k : Nat} {ks : List (List Nat × List Nat × List (List Nat))} {kvs : List (KK × D)}
    (hx : ∀ M, oIx (.str form) (.int (-1)) M = .ok (.str [c]) M) (hc2 : c ≠ 63) (hq : ∀ v ∈ leafs, form ≠ v) (hk : k < 3)
    (hall : ∀ N, gA (fAll N) (.inr form) = some (.ref (N + k)))
    (hcell : ∀ N : Nat, ([Cell.dk false fr7, .dk false fw1, .dk false fa0, .dk false (fAll N)] : Mem)[k]? = some (.dk false kvs)) (hkv : kvs = ks.map fun q => ((.inr q.1 : KK), D.str q.2.1)) (hn : 0 < ks.length) (hn2 : ks.length < 100)
    (hks : partKs i F n W dp ks) : PartOk i F (n + 1) form (14 + (W + 1) * 12) (dp + 1) := .of fun M0 M hf => by
  obtain ⟨J, hJ⟩ : ∃ J : Mem, [Cell.dk false fr7, .dk false fw1, .dk false fa0, .dk false (fAll M.length)] = J := ⟨_, rfl⟩
  have ef : g_law_forms [] M = .ok (.ref (M.length + 3)) (M ++ J) := by rw [← hJ]; exact forms_eq M
  have g3 : ∀ A : Mem, A.length = M.length → (A ++ J)[M.length + 3]? = some (.dk false (fAll M.length)) := fun A hA => by
    rw [List.getElem?_append_right (by omega), ← hJ, show M.length + 3 - A.length = 3 by omega]
    rfl
  have gk : ∀ A : Mem, A.length = M.length → (A ++ J)[M.length + k]? = some (.dk false kvs) := fun A hA => by
    rw [List.getElem?_append_right (by omega), show M.length + k - A.length = k by omega, ← hJ]
    exact hcell M.length
  have i1 : oIxA (.ref (M.length + 3)) (.str form) (M ++ J) = .ok (.ref (M.length + k)) (M ++ J) := oIxA_dkS (g3 M rfl) (hall M.length)
  have lk : kvs.length = ks.length := by rw [hkv, List.length_map]
  obtain ⟨ws, hws⟩ : ∃ ws, (ks.map (·.1)).mergeSort (fun a b => decide (a ≤ b)) = ws := ⟨_, rfl⟩
  have lws : ws.length = ks.length := by rw [← hws, List.length_mergeSort, List.length_map]
  have i2 : ∀ A : Mem, A.length = M.length → oSortS false [.ref (M.length + k)] (A ++ J) = .ok (.lst (ws.map .str)) (A ++ J) := fun A hA => by
    have e : kvs.map (fun kv => keyD kv.1) = (ks.map (·.1)).map D.str := by rw [hkv, List.map_map, List.map_map]; rfl
    simp only [oSortS, gk A hA, e, sortOk_strs, if_true, sortD_str, hws, mkL_f]
  have i3 : ∀ A : Mem, A.length = M.length → oLenA [.ref (M.length + k)] (A ++ J) = .ok (.int ks.length) (A ++ J) := fun A hA => by rw [oLenA_dk (gk A hA), lk]
  obtain ⟨v, A1, v1, h1, e1⟩ := draw_app (B := J) hf.self (ks.length : Int) (by omega) (by omega)
  have l1 : A1.length = M.length := h1.len
  obtain ⟨dw, hd, hm⟩ := atI_some (xs := ws.map D.str) (i := (v : Int)) (by omega) (by rw [List.length_map]; omega)
  obtain ⟨w, hmw, rfl⟩ := List.mem_map.mp hm
  have hmk : w ∈ ks.map (·.1) := by rw [← hws] at hmw; exact (List.mergeSort_perm _ _).mem_iff.mp hmw
  obtain ⟨q, hq1, hq2, hq3⟩ := gA_strs hmk
  obtain ⟨bq, lq, wq, nq, pq⟩ := hks q hq1
  have i4 : ∀ A : Mem, A.length = M.length → oIxA (.ref (M.length + k)) (.str w) (A ++ J) = .ok (.str q.2.1) (A ++ J) := fun A hA => oIxA_dkS (gk A hA) (by rw [hkv]; exact hq3)
  have i5 : ∀ m, oWords (.str q.2.1) [] m = .ok (.lst (q.2.2.map .str)) m := fun m => by
    simp only [oWords]
    rw [if_pos (by omega), wq]
  obtain ⟨ys, M3, e3, l3, y3, A3, rfl, h3⟩ := compL_inv (g := gN 6) (f := C_law_part_1 (r_law_part n)) (env := [some (.ref i), some (.lst (F.map .str)), some (.str form), none, some (.ref (M.length + k)), some (.str w), none]) (fun _ M' => ∃ A, M' = A ++ J ∧ FlAt M i A) (fun _ _ y => ShD W dp y ∧ Px dp y) (q.2.2.map .str) 0 (A1 ++ J) ⟨A1, rfl, h1⟩ (by
    rintro k d M4 hk ⟨A4, rfl, h4⟩
    rw [List.getElem?_map] at hk
    obtain ⟨x, hx1, rfl⟩ := Option.map_eq_some_iff.mp hk
    obtain ⟨d, M5, h5, s5, p5, e5⟩ := pq x (List.mem_of_getElem? hx1) _ _ (flApp (B := J) h4)
    obtain ⟨A5, rfl, h6⟩ := flUnapp h4.lt h5
    refine ⟨d, _, ?_, ⟨s5, p5⟩, A5, rfl, h6⟩
    push_cast [C_law_part_1, e5])
  have hy : ∀ d ∈ ys, ShD W dp d ∧ Px dp d := fun d hd => allY l3 y3 hd
  have ly : ys.length ≤ 12 := by rw [l3, List.length_map]; exact nq
  have hb : ShD 13 dp (.str w) := by rw [← hq2]; exact (ShD.str bq.1 bq.2).mono (Nat.le_refl _) (Nat.zero_le _)
  refine ⟨.tup (.str w :: ys), A3, J, h3, ?_, Px.tup (PxL.cons (Px.str _) fun d hd => (hy d hd).2), ?_⟩
  · exact (ShD.tup (.cons hb (ShLD.all (m := 12) ly fun d hd => (hy d hd).1))).mono (by omega) (Nat.le_refl _)
  · have q0 : ∀ M, oEq false (.str [c]) (.str [63]) M = .ok (.bl false) M := fun M => sEqF (by simp [hc2]) M
    have q1 : ∀ M, oEq false (.str form) (.str [99, 111, 117, 110, 116]) M = .ok (.bl false) M := fun M => sEqF (hq _ (by simp)) M
    have q2 : ∀ M, oEq false (.str form) (.str [110, 97, 109, 101]) M = .ok (.bl false) M := fun M => sEqF (hq _ (by simp)) M
    have q3 : ∀ M, oEq false (.str form) (.str [112, 108, 97, 99, 101]) M = .ok (.bl false) M := fun M => sEqF (hq _ (by simp)) M
    have q4 : ∀ M, oEq false (.str form) (.str [97, 115, 107]) M = .ok (.bl false) M := fun M => sEqF (hq _ (by simp)) M
    have q5 : ∀ M, oEq false (.str form) (.str [114, 105, 103, 104, 116, 115]) M = .ok (.bl false) M := fun M => sEqF (hq _ (by simp)) M
    have q6 : ∀ M, oEq false (.str form) (.str [99, 104, 97, 105, 110]) M = .ok (.bl false) M := fun M => sEqF (hq _ (by simp)) M
    have q7 : ∀ M, oEq false (.str form) (.str [116, 104, 105, 110, 103]) M = .ok (.bl false) M := fun M => sEqF (hq _ (by simp)) M
    have j2 := i2 M rfl
    have j3 := i3 M rfl
    have j4 := i4 A1 l1
    have a1 := oAdd_tup1 (.str w) ys (by omega) (A3 ++ J)
    simp -implicitDefEqProofs (disch := first | assumption | omega | (simp only [List.length_cons, List.length_nil, List.length_append, List.length_map, List.length_take, List.length_drop, rngItems_len]; omega)) only [mSeq_eq, mIfS_eq, mSet_eq, mRet_eq, mRetN_eq, mExpr_eq, mPass_eq, mAsg_eq, mPar_eq, mAug_eq, bOf_eq, tOf_eq, tAndM_eq, tOrM_eq, tNotM_eq, tsYes_eq, mOp_eq, mUn_eq, mVar_eq, mC_eq, mCall_eq, mFun_eq, mFunKw_eq, mMeth_eq, mAnd_eq, mOr_eq, mNot_eq, mIf_eq, mChain_eq, mSl_eq, pNone_eq, pSome_eq, aCons_eq, aNil_eq, mTup_eq, mLst_eq, gN_eq, gT_eq, gsNil_eq, gsCons_eq, mkL_t, mkL_f, R.bind_ok, R.bind_no, R.nox_ok, List.getElem?_cons_zero, List.getElem?_cons_succ, List.set_cons_zero, List.set_cons_succ, List.length_cons, List.length_nil, List.append_nil, List.nil_append, List.cons_append, piApp_on, oLen_fz, oLen_lst, oLen_tup, oLt_int, oLe_int, oGt_int, oGe_int, oAdd_int, oSub_int, oIx_fz, oIx_lst, oIx_tup, oMax_int, oMin_int, oInt_bl, oInt_int, oIsi_bl, oNeg_int, oTuple_lst, oTuple_tup, iR1_eq, iR2_eq, iSq_eq, iStrM_eq, srcOf_tup, srcOf_lst, srcOf_fz, if_true, if_false, Bool.false_eq_true, Bool.true_eq_false, reduceIte, Nat.reduceAdd, Nat.reduceLeDiff, Nat.reduceEqDiff, Bool.not_true, Bool.not_false, decide_true, decide_false, and_self, and_true, true_and, oMod_int, oMul_r, oMul_l, oLen_str, oAdd_str, oSl_str, oSl_tup, oSl_lst, oSl_fz, rngOk_of, oEq_int, oEq_bl, beq_self_eq_true, Int.toNat_natCast, mFor_eq, mLc_eq, app_get0, app_get1, app_set0, app_set1, tyOk, oTuple_ref, oList_ref, oLen_refM, oIx_refM, oAppM, oExtM, srcOf_refM, ifLt24, ifLe24, B_law_part, oIxA_str, hx, q0, q1, q2, q3, q4, q5, q6, q7, ef, i1, j2, j3, e1, oIxA_lst, hd, j4, i5, wipe6, e3, a1]
def ksWhat : List (List Nat × List Nat × List (List Nat)) := [([104, 97, 110, 100], [112, 108, 97, 99, 101, 32, 110, 97, 109, 101, 32, 99, 111, 117, 110, 116, 32, 114, 105, 103, 104, 116, 115, 32, 99, 111, 117, 110, 116, 32, 99, 111, 117, 110, 116, 32, 112, 108, 97, 99, 101], [[112, 108, 97, 99, 101], [110, 97, 109, 101], [99, 111, 117, 110, 116], [114, 105, 103, 104, 116, 115], [99, 111, 117, 110, 116], [99, 111, 117, 110, 116], [112, 108, 97, 99, 101]]), ([99, 117, 116], [112, 108, 97, 99, 101, 32, 110, 97, 109, 101, 32, 99, 111, 117, 110, 116, 32, 99, 111, 117, 110, 116], [[112, 108, 97, 99, 101], [110, 97, 109, 101], [99, 111, 117, 110, 116], [99, 111, 117, 110, 116]]), ([99, 97, 108, 108], [112, 108, 97, 99, 101, 32, 99, 111, 117, 110, 116, 32, 112, 108, 97, 99, 101, 32, 110, 97, 109, 101, 32, 116, 104, 105, 110, 103], [[112, 108, 97, 99, 101], [99, 111, 117, 110, 116], [112, 108, 97, 99, 101], [110, 97, 109, 101], [116, 104, 105, 110, 103]])]
def ksAns : List (List Nat × List Nat × List (List Nat)) := [([116, 97, 107, 101, 110], [110, 97, 109, 101, 32, 99, 111, 117, 110, 116], [[110, 97, 109, 101], [99, 111, 117, 110, 116]]), ([103, 111, 110, 101], [], []), ([100, 111, 110, 101], [], []), ([102, 111, 117, 110, 100], [110, 97, 109, 101, 32, 99, 111, 117, 110, 116], [[110, 97, 109, 101], [99, 111, 117, 110, 116]]), ([110, 111], [110, 97, 109, 101], [[110, 97, 109, 101]])]
theorem leaf_ok {i n : Nat} {F : List (List Nat)} (hw : ∀ w ∈ F, bw 6 w) (h8 : F.length = 3) : ∀ x ∈ leafs, PartOk i F (n + 1) x 300 1 := fun x hx => by
  simp only [List.mem_cons, List.not_mem_nil, or_false] at hx
  rcases hx with rfl | rfl | rfl | rfl | rfl | rfl | rfl
  · exact part_count hw h8
  · exact part_name hw h8
  · exact part_place hw h8
  · exact part_ask hw h8
  · exact part_rights hw h8
  · exact part_chain hw h8
  · exact part_thing hw h8
theorem what_ok {i n : Nat} {F : List (List Nat)} (hw : ∀ w ∈ F, bw 6 w) (h8 : F.length = 3) : PartOk i F (n + 2) [119, 104, 97, 116] 3626 2 :=
  part_comp (form := [119, 104, 97, 116]) (n := n + 1) (W := 300) (dp := 1) (k := 1) (ks := ksWhat) (kvs := fw1) (c := 116) (fun M => rfl) (by decide) (by decide) (by decide) (fun N => rfl) (fun N => rfl) rfl (by decide) (by decide) fun q hq => by
    have hc : ∀ q ∈ ksWhat, bw' q.1 ∧ q.2.1.length ≤ 1000 ∧ wordsL q.2.1 = q.2.2 ∧ q.2.2.length ≤ 12 ∧ ∀ x ∈ q.2.2, x ∈ leafs := by unfold bw'; decide +kernel
    obtain ⟨a, b, c, d, e⟩ := hc q hq
    exact ⟨a, b, c, d, fun x hx => leaf_ok hw h8 x (e x hx)⟩
theorem answer_ok {i n : Nat} {F : List (List Nat)} (hw : ∀ w ∈ F, bw 6 w) (h8 : F.length = 3) : PartOk i F (n + 2) [97, 110, 115, 119, 101, 114] 3626 2 :=
  part_comp (form := [97, 110, 115, 119, 101, 114]) (n := n + 1) (W := 300) (dp := 1) (k := 2) (ks := ksAns) (kvs := fa0) (c := 114) (fun M => rfl) (by decide) (by decide) (by decide) (fun N => rfl) (fun N => rfl) rfl (by decide) (by decide) fun q hq => by
    have hc : ∀ q ∈ ksAns, bw' q.1 ∧ q.2.1.length ≤ 1000 ∧ wordsL q.2.1 = q.2.2 ∧ q.2.2.length ≤ 12 ∧ ∀ x ∈ q.2.2, x ∈ leafs := by unfold bw'; decide +kernel
    obtain ⟨a, b, c, d, e⟩ := hc q hq
    exact ⟨a, b, c, d, fun x hx => leaf_ok hw h8 x (e x hx)⟩
abbrev Bn := List Nat × List Nat
abbrev Ak := List Nat × Int
def bnD (b : Bn) : D := .tup [.str b.1, .str b.2]
def akD (a : Ak) : D := .tup [.str a.1, .int a.2]
def opD {α : Type} (f : α → D) : Option α → D
  | none => .non
  | some a => f a
/-- a grant -/
structure Gr where
  n : Int
  p : Bn
  r : List (List Nat)
  f : Int
  h : Bn
  pa : Option Int
def grL (g : Gr) : List D := [.int g.n, bnD g.p, .tup (g.r.map .str), .int g.f, bnD g.h, opD .int g.pa]
def grD (g : Gr) : D := .tup (grL g)
abbrev wRoot : List Nat := [114, 111, 111, 116]
abbrev wGrant : List Nat := [103, 114, 97, 110, 116]
abbrev wCut : List Nat := [99, 117, 116]
abbrev wPut : List Nat := [112, 117, 116]
abbrev wDrop : List Nat := [100, 114, 111, 112]
abbrev wAsk : List Nat := [97, 115, 107]
abbrev wAnswer : List Nat := [97, 110, 115, 119, 101, 114]
abbrev wOpen : List Nat := [111, 112, 101, 110]
abbrev wNo : List Nat := [110, 111]
abbrev wDeed : List Nat := [100, 101, 101, 100]
inductive Rw where
  | root (t : Int) (g : Gr)
  | grant (t : Int) (g : Gr) (a : Ak)
  | cut (t n : Int)
  | put (t : Int) (b : Bn) (h : List Nat) (n : Int) (p : Bn) (r : List (List Nat)) (f : Int) (a : Option Ak)
  | drop (t : Int) (b : Bn) (p : Int)
  | ask (t c : Int) (x : D)
  | answer (t c : Int) (x : D)
  | opn (t : Int) (a : Ak)
  | no (t : Int) (a : Ak) (w : List Nat)
  | deed (t : Int) (d p : Bn) (r : List Nat) (ch : List Int) (gv st : Int) (b : Option Bn) (a : Option Ak)
def rwL : Rw → List D
  | .root t g => .str wRoot :: .int t :: grL g
  | .grant t g a => .str wGrant :: .int t :: (grL g ++ [akD a])
  | .cut t n => [.str wCut, .int t, .int n]
  | .put t b h n p r f a => [.str wPut, .int t, bnD b, .str h, .int n, bnD p, .tup (r.map .str), .int f, opD akD a]
  | .drop t b p => [.str wDrop, .int t, bnD b, .int p]
  | .ask t c x => [.str wAsk, .int t, .int c, x]
  | .answer t c x => [.str wAnswer, .int t, .int c, x]
  | .opn t a => [.str wOpen, .int t, akD a]
  | .no t a w => [.str wNo, .int t, akD a, .str w]
  | .deed t d p r ch gv st b a => [.str wDeed, .int t, bnD d, bnD p, .str r, .tup (ch.map .int), .int gv, .int st, opD bnD b, opD akD a]
def rwD (r : Rw) : D := .tup (rwL r)
/-- what stays -/
structure Wf where
  here : List Nat
  homes : List (List Nat)
  rights : List (List Nat)
  words : List (List Nat)
  folk : List Bn
structure WfOk (K : Wf) : Prop where
  here : bw 6 K.here
  homes : ∀ w ∈ K.homes, bw 6 w
  rights : ∀ w ∈ K.rights, bw 6 w
  words : ∀ w ∈ K.words, bw 6 w
  folk : ∀ p ∈ K.folk, bw 6 p.1 ∧ bw 6 p.2
  lh : K.homes.length = 3
  lr : K.rights.length = 5
  lw : K.words.length = 2
  lf : K.folk.length = 3
/-- what changes -/
structure Ws where
  lines : List Rw
  tick : Int
  there : List (Bn × Int)
  book : List Gr
  asks : Int
  opn : List Int
  came : Int
  asked : List Ak
def wkv (K : Wf) (b : Nat) (s : Ws) : List (KK × D) := [(.inr [104, 101, 114, 101], .str K.here), (.inr [104, 111, 109, 101, 115], .lst (K.homes.map .str)), (.inr [114, 105, 103, 104, 116, 115], .lst (K.rights.map .str)), (.inr [119, 111, 114, 100, 115], .lst (K.words.map .str)),
  (.inr [108, 105, 110, 101, 115], .ref (b + 1)), (.inr [116, 105, 99, 107], .int s.tick), (.inr [102, 111, 108, 107], .lst (K.folk.map bnD)), (.inr [116, 104, 101, 114, 101], .ref (b + 2)), (.inr [98, 111, 111, 107], .ref (b + 3)), (.inr [97, 115, 107, 115], .int s.asks), (.inr [111, 112, 101, 110], .ref (b + 4)), (.inr [99, 97, 109, 101], .int s.came), (.inr [97, 115, 107, 101, 100], .ref (b + 5))]
def thK (k : Bn × Int) : NK := .tup [.tup [.str k.1.1, .str k.1.2], .int k.2]
def thN (l : List (Bn × Int)) : List (NK × D) := l.map fun k => (thK k, .bl true)
def wC (K : Wf) (b : Nat) (s : Ws) : Mem := [.dk false (wkv K b s), .lst (s.lines.map rwD), .dn false (thN s.there), .lst (s.book.map grD), .lst (s.opn.map .int), .lst (s.asked.map akD)]
section
variable {A : Mem} {K : Wf} {b : Nat} {s : Ws}
theorem wG0 (h : A.length = b) : (A ++ wC K b s)[b]? = some (.dk false (wkv K b s)) := app_get0 h
theorem wGn {n : Nat} (h : A.length = b) : (A ++ wC K b s)[b + n]? = (wC K b s)[n]? := by
  rw [List.getElem?_append_right (by omega), show b + n - A.length = n by omega]
theorem wG1 (h : A.length = b) : (A ++ wC K b s)[b + 1]? = some (.lst (s.lines.map rwD)) := wGn h
theorem wG2 (h : A.length = b) : (A ++ wC K b s)[b + 2]? = some (.dn false (thN s.there)) := wGn h
theorem wG3 (h : A.length = b) : (A ++ wC K b s)[b + 3]? = some (.lst (s.book.map grD)) := wGn h
theorem wG4 (h : A.length = b) : (A ++ wC K b s)[b + 4]? = some (.lst (s.opn.map .int)) := wGn h
theorem wG5 (h : A.length = b) : (A ++ wC K b s)[b + 5]? = some (.lst (s.asked.map akD)) := wGn h
theorem wSn {n : Nat} {c : Cell} (h : A.length = b) : (A ++ wC K b s).set (b + n) c = A ++ (wC K b s).set n c := by
  rw [List.set_append_right _ _ (by omega), show b + n - A.length = n by omega]
theorem wS0 {c : Cell} (h : A.length = b) : (A ++ wC K b s).set b c = A ++ (wC K b s).set 0 c := wSn (n := 0) h
theorem wS1 {r : Rw} (h : A.length = b) : (A ++ wC K b s).set (b + 1) (.lst (s.lines.map rwD ++ [rwD r])) = A ++ wC K b { s with lines := s.lines ++ [r] } := by
  rw [wSn h]
  simp only [wC, wkv, List.set_cons_succ, List.set_cons_zero, List.map_append, List.map_cons, List.map_nil]
theorem wS2 {l : List (Bn × Int)} (h : A.length = b) : (A ++ wC K b s).set (b + 2) (.dn false (thN l)) = A ++ wC K b { s with there := l } := by
  rw [wSn h]
  simp only [wC, wkv, List.set_cons_succ, List.set_cons_zero]
theorem wS3 {g : Gr} (h : A.length = b) : (A ++ wC K b s).set (b + 3) (.lst (s.book.map grD ++ [grD g])) = A ++ wC K b { s with book := s.book ++ [g] } := by
  rw [wSn h]
  simp only [wC, wkv, List.set_cons_succ, List.set_cons_zero, List.map_append, List.map_cons, List.map_nil]
theorem wS4 {l : List Int} (h : A.length = b) : (A ++ wC K b s).set (b + 4) (.lst (l.map .int)) = A ++ wC K b { s with opn := l } := by
  rw [wSn h]
  simp only [wC, wkv, List.set_cons_succ, List.set_cons_zero]
theorem wS5 {a : Ak} (h : A.length = b) : (A ++ wC K b s).set (b + 5) (.lst (s.asked.map akD ++ [akD a])) = A ++ wC K b { s with asked := s.asked ++ [a] } := by
  rw [wSn h]
  simp only [wC, wkv, List.set_cons_succ, List.set_cons_zero, List.map_append, List.map_cons, List.map_nil]
theorem wI_here (h : A.length = b) : oIxA (.ref b) (.str [104, 101, 114, 101]) (A ++ wC K b s) = .ok (.str K.here) (A ++ wC K b s) := oIxA_dkS (wG0 h) rfl
theorem wI_homes (h : A.length = b) : oIxA (.ref b) (.str [104, 111, 109, 101, 115]) (A ++ wC K b s) = .ok (.lst (K.homes.map .str)) (A ++ wC K b s) := oIxA_dkS (wG0 h) rfl
theorem wI_rights (h : A.length = b) : oIxA (.ref b) (.str [114, 105, 103, 104, 116, 115]) (A ++ wC K b s) = .ok (.lst (K.rights.map .str)) (A ++ wC K b s) := oIxA_dkS (wG0 h) rfl
theorem wI_words (h : A.length = b) : oIxA (.ref b) (.str [119, 111, 114, 100, 115]) (A ++ wC K b s) = .ok (.lst (K.words.map .str)) (A ++ wC K b s) := oIxA_dkS (wG0 h) rfl
theorem wI_folk (h : A.length = b) : oIxA (.ref b) (.str [102, 111, 108, 107]) (A ++ wC K b s) = .ok (.lst (K.folk.map bnD)) (A ++ wC K b s) := oIxA_dkS (wG0 h) rfl
theorem wI_lines (h : A.length = b) : oIxA (.ref b) (.str [108, 105, 110, 101, 115]) (A ++ wC K b s) = .ok (.ref (b + 1)) (A ++ wC K b s) := oIxA_dkS (wG0 h) rfl
theorem wI_there (h : A.length = b) : oIxA (.ref b) (.str [116, 104, 101, 114, 101]) (A ++ wC K b s) = .ok (.ref (b + 2)) (A ++ wC K b s) := oIxA_dkS (wG0 h) rfl
theorem wI_book (h : A.length = b) : oIxA (.ref b) (.str [98, 111, 111, 107]) (A ++ wC K b s) = .ok (.ref (b + 3)) (A ++ wC K b s) := oIxA_dkS (wG0 h) rfl
theorem wI_open (h : A.length = b) : oIxA (.ref b) (.str [111, 112, 101, 110]) (A ++ wC K b s) = .ok (.ref (b + 4)) (A ++ wC K b s) := oIxA_dkS (wG0 h) rfl
theorem wI_asked (h : A.length = b) : oIxA (.ref b) (.str [97, 115, 107, 101, 100]) (A ++ wC K b s) = .ok (.ref (b + 5)) (A ++ wC K b s) := oIxA_dkS (wG0 h) rfl
theorem wI_tick (h : A.length = b) : oIxA (.ref b) (.str [116, 105, 99, 107]) (A ++ wC K b s) = .ok (.int s.tick) (A ++ wC K b s) := oIxA_dkS (wG0 h) rfl
theorem wI_asks (h : A.length = b) : oIxA (.ref b) (.str [97, 115, 107, 115]) (A ++ wC K b s) = .ok (.int s.asks) (A ++ wC K b s) := oIxA_dkS (wG0 h) rfl
theorem wI_came (h : A.length = b) : oIxA (.ref b) (.str [99, 97, 109, 101]) (A ++ wC K b s) = .ok (.int s.came) (A ++ wC K b s) := oIxA_dkS (wG0 h) rfl
theorem wP_tick {v : Int} (h : A.length = b) : sPut (A ++ wC K b s) (.ref b) (.str [116, 105, 99, 107]) (.int v) = some (A ++ wC K b { s with tick := v }) := by
  rw [sPut_dkS (wG0 h) (show 13 < 16777216 by omega), wS0 h]
  rfl
theorem wP_asks {v : Int} (h : A.length = b) : sPut (A ++ wC K b s) (.ref b) (.str [97, 115, 107, 115]) (.int v) = some (A ++ wC K b { s with asks := v }) := by
  rw [sPut_dkS (wG0 h) (show 13 < 16777216 by omega), wS0 h]
  rfl
theorem wP_came {v : Int} (h : A.length = b) : sPut (A ++ wC K b s) (.ref b) (.str [99, 97, 109, 101]) (.int v) = some (A ++ wC K b { s with came := v }) := by
  rw [sPut_dkS (wG0 h) (show 13 < 16777216 by omega), wS0 h]
  rfl
end
theorem num_le {α : Type} [DecidableEq α] {f : Nat → α} (hf : ∀ a b, f a = f b → a = b) : ∀ (n : Nat) (l : List α), (∀ q, q < n → f q ∈ l) → n ≤ l.length
  | 0, _, _ => Nat.zero_le _
  | n + 1, l, h => by
    have h1 := num_le hf n (l.filter fun e => decide (e ≠ f n)) fun q hq => List.mem_filter.mpr ⟨h q (by omega), by
      rw [decide_eq_true_eq]
      intro z
      have := hf _ _ z
      omega⟩
    have h2 : (l.filter fun e => decide (e ≠ f n)).length < l.length := by
      rw [List.length_filter_lt_length_iff_exists]
      exact ⟨f n, h n (by omega), by simp⟩
    omega
theorem num_free {α : Type} [DecidableEq α] {f : Nat → α} (hf : ∀ a b, f a = f b → a = b) (l : List α) : ∃ k, k ≤ l.length ∧ (∀ q, q < k → f q ∈ l) ∧ ¬ f k ∈ l := by
  have least : ∀ n, (∃ q, q ≤ n ∧ ¬ f q ∈ l) → ∃ k, (∀ q, q < k → f q ∈ l) ∧ ¬ f k ∈ l := by
    intro n
    induction n with
    | zero => rintro ⟨q, hq, h⟩; exact ⟨0, fun _ hh => absurd hh (by omega), by rw [show (0 : Nat) = q by omega]; exact h⟩
    | succ n ih =>
      rintro ⟨q, hq, h⟩
      by_cases hl : ∃ q, q ≤ n ∧ ¬ f q ∈ l
      · exact ih hl
      · refine ⟨q, fun q' hq' => ?_, h⟩
        by_cases hc : f q' ∈ l
        · exact hc
        · exact absurd ⟨q', by omega, hc⟩ hl
  have h0 : ∃ q, q ≤ l.length ∧ ¬ f q ∈ l := by
    by_cases hall : ∀ q, q < l.length + 1 → f q ∈ l
    · have := num_le hf _ _ hall; omega
    · simp only [Classical.not_forall] at hall
      obtain ⟨q, hq, hh⟩ := hall
      exact ⟨q, by omega, hh⟩
  obtain ⟨k, h1, h2⟩ := least _ h0
  exact ⟨k, num_le hf k l h1, h1, h2⟩
theorem while_run {T : FT} {L : FS} {f : Nat → Fn.Env} {M : Mem} : ∀ (n fuel p : Nat), n < fuel → (∀ q, p ≤ q → q < p + n → T (f q) M = .ok true M ∧ L (f q) M = .ok (.nx (f (q + 1))) M) → T (f (p + n)) M = .ok false M → whileM T L fuel (f p) M = .ok (.nx (f (p + n))) M
  | 0, fuel + 1, p, _, _, h2 => by
    rw [Nat.add_zero] at h2 ⊢
    rw [whileM_succ, h2, R.bind_ok]
    rfl
  | n + 1, fuel + 1, p, hf, h1, h2 => by
    obtain ⟨a, c⟩ := h1 p (Nat.le_refl _) (by omega)
    have ih := while_run (T := T) (L := L) (f := f) (M := M) n fuel (p + 1) (by omega) (fun q h3 h4 => h1 q (by omega) (by omega)) (by rw [show p + 1 + n = p + (n + 1) by omega]; exact h2)
    rw [whileM_succ, a, R.bind_ok, if_pos rfl, c, R.bind_ok]
    rw [show p + (n + 1) = p + 1 + n by omega]
    exact ih
theorem disp_at2 {fs : List (FE × FE)} {env : Fn.Env} {M B : Mem} {ps : List (D × D)} {kvs : List (KK × D)} (h : mPairs fs env (M ++ [.dk false []]) = .ok ps (M ++ .dk false [] :: B)) (hk : prsK ps = some kvs) (hl : kvs.length ≤ 15) : mDisp fs env M = .ok (.ref M.length) (M ++ .dk false (mrgA [] kvs) :: B) := by
  unfold mDisp
  rw [h, R.bind_ok, app_get0 rfl, hk]
  show (if kvs.length ≤ 15 then R.ok (D.ref M.length) ((M ++ Cell.dk false [] :: B).set M.length (.dk false (mrgA [] kvs))) else .no) = _
  rw [if_pos hl, app_set0 rfl]
theorem sPut_at (A B : Mem) (kvs : List (KK × D)) (x : List Nat) (v : D) (h : kvs.length < 16777216) {N : Nat} (hN : A.length = N) : sPut (A ++ .dk false kvs :: B) (.ref N) (.str x) v = some (A ++ .dk false (pA kvs (.inr x) v) :: B) := by
  rw [sPut_dkS (app_get0 hN) h, app_set0 hN]
theorem list14 {α : Type} {F : List α} (h : F.length = 14) : ∃ a0 a1 a2 a3 a4 a5 a6 a7 a8 a9 a10 a11 a12 a13, F = [a0, a1, a2, a3, a4, a5, a6, a7, a8, a9, a10, a11, a12, a13] := by
  match F, h with
  | [a0, a1, a2, a3, a4, a5, a6, a7, a8, a9, a10, a11, a12, a13], _ => exact ⟨_, _, _, _, _, _, _, _, _, _, _, _, _, _, rfl⟩
def ws0 : Ws := ⟨[], 0, [], [], 0, [], 0, []⟩
theorem world_eq {M0 M : Mem} {i : Nat} (h : FlAt M0 i M) : ∃ (K : Wf) (A : Mem), WfOk K ∧ FlAt M0 i A ∧ A.length = M.length ∧ g_law_world [.ref i] M = .ok (.ref M.length) (A ++ wC K M.length ws0) := by
  obtain ⟨F, A, hF, lF, h1, e1⟩ := names_eq h
  have hA : A.length = M.length := by rw [h1.len, h.len]
  obtain ⟨a0, a1, a2, a3, a4, a5, a6, a7, a8, a9, a10, a11, a12, a13, rfl⟩ := list14 lF
  refine ⟨⟨a0, [a0, a1, a2], [a7, a8, a9, a10, a11], [a12, a13], [(a0, a3), (a0, a4), (a0, a5)]⟩, A, ⟨hF _ (by simp), fun w hw => hF w ?_, fun w hw => hF w ?_, fun w hw => hF w ?_, fun p hp => ?_, rfl, rfl, rfl, rfl⟩, h1, hA, runB_rt (N := 4) (?_ : B_law_world [some (.ref i), none, none, none] M = _)⟩
  · simp only [List.mem_cons, List.not_mem_nil, or_false] at hw ⊢; rcases hw with z | z | z <;> simp [z]
  · simp only [List.mem_cons, List.not_mem_nil, or_false] at hw ⊢; rcases hw with z | z | z | z | z <;> simp [z]
  · simp only [List.mem_cons, List.not_mem_nil, or_false] at hw ⊢; rcases hw with z | z <;> simp [z]
  · simp only [List.mem_cons, List.not_mem_nil, or_false] at hp
    rcases hp with z | z | z <;> subst z <;> exact ⟨hF _ (by simp), hF _ (by simp)⟩
  · have hB : B_law_world = mSeq (mSet 1 (mFun 2 g_law_names [] (aCons (mVar 0) (aCons (mC (.int 14)) aNil)))) (mSeq (mSet 2 (mDisp [((mC (.str [104, 101, 114, 101])), (mOp oIxA (mVar 1) (mC (.int 0)))), ((mC (.str [104, 111, 109, 101, 115])), (mSl false (mVar 1) pNone (pSome (mC (.int 3))))), ((mC (.str [114, 105, 103, 104, 116, 115])), (mSl false (mVar 1) (pSome (mC (.int 7))) (pSome (mC (.int 12))))), ((mC (.str [119, 111, 114, 100, 115])), (mSl false (mVar 1) (pSome (mC (.int 12))) pNone)), ((mC (.str [108, 105, 110, 101, 115])), (mLst true aNil)), ((mC (.str [116, 105, 99, 107])), (mC (.int 0)))])) (mSeq (mAsg (mLc false [3] (iSq (mSl false (mVar 1) (pSome (mC (.int 3))) (pSome (mC (.int 6))))) (gN 3) tsYes C_law_world_0) (gIxA (mVar 2) (mC (.str [102, 111, 108, 107])))) (mSeq (mAsg (mTup (aCons mDNewN (aCons (mLst true aNil) (aCons (mC (.int 0)) (aCons (mLst true aNil) aNil))))) (gT 4 (gsCons (gIxA (mVar 2) (mC (.str [116, 104, 101, 114, 101]))) (gsCons (gIxA (mVar 2) (mC (.str [98, 111, 111, 107]))) (gsCons (gIxA (mVar 2) (mC (.str [97, 115, 107, 115]))) (gsCons (gIxA (mVar 2) (mC (.str [111, 112, 101, 110]))) gsNil)))))) (mSeq (mAsg (mTup (aCons (mC (.int 0)) (aCons (mLst true aNil) aNil))) (gT 2 (gsCons (gIxA (mVar 2) (mC (.str [99, 97, 109, 101]))) (gsCons (gIxA (mVar 2) (mC (.str [97, 115, 107, 101, 100]))) gsNil)))) (mRet (mVar 2)))))) := rfl
    have l2 : (A ++ [Cell.dk false []]).length = A.length + 1 := by simp
    have d1 : mDisp [((mC (.str [104, 101, 114, 101])), (mOp oIxA (mVar 1) (mC (.int 0)))), ((mC (.str [104, 111, 109, 101, 115])), (mSl false (mVar 1) pNone (pSome (mC (.int 3))))), ((mC (.str [114, 105, 103, 104, 116, 115])), (mSl false (mVar 1) (pSome (mC (.int 7))) (pSome (mC (.int 12))))), ((mC (.str [119, 111, 114, 100, 115])), (mSl false (mVar 1) (pSome (mC (.int 12))) pNone)), ((mC (.str [108, 105, 110, 101, 115])), (mLst true aNil)), ((mC (.str [116, 105, 99, 107])), (mC (.int 0)))] [some (.ref i), some (.lst ([a0, a1, a2, a3, a4, a5, a6, a7, a8, a9, a10, a11, a12, a13].map .str)), none, none] A
        = .ok (.ref A.length) (A ++ .dk false (mrgA [] [(.inr [104, 101, 114, 101], .str a0), (.inr [104, 111, 109, 101, 115], .lst ([a0, a1, a2].map .str)), (.inr [114, 105, 103, 104, 116, 115], .lst ([a7, a8, a9, a10, a11].map .str)), (.inr [119, 111, 114, 100, 115], .lst ([a12, a13].map .str)), (.inr [108, 105, 110, 101, 115], .ref (A.length + 1)), (.inr [116, 105, 99, 107], .int 0)]) :: [.lst []]) := by
      refine disp_at2 (ps := [(.str [104, 101, 114, 101], .str a0), (.str [104, 111, 109, 101, 115], .lst ([a0, a1, a2].map .str)), (.str [114, 105, 103, 104, 116, 115], .lst ([a7, a8, a9, a10, a11].map .str)), (.str [119, 111, 114, 100, 115], .lst ([a12, a13].map .str)), (.str [108, 105, 110, 101, 115], .ref (A.length + 1)), (.str [116, 105, 99, 107], .int 0)]) ?_ rfl (by simp)
      have x0 : atI ([a0, a1, a2, a3, a4, a5, a6, a7, a8, a9, a10, a11, a12, a13].map D.str) 0 = some (.str a0) := rfl
      have c1 : Fn.cutD ([a0, a1, a2, a3, a4, a5, a6, a7, a8, a9, a10, a11, a12, a13].map D.str) none (some 3) = [a0, a1, a2].map D.str := rfl
      have c2 : Fn.cutD ([a0, a1, a2, a3, a4, a5, a6, a7, a8, a9, a10, a11, a12, a13].map D.str) (some 7) (some 12) = [a7, a8, a9, a10, a11].map D.str := rfl
      have c3 : Fn.cutD ([a0, a1, a2, a3, a4, a5, a6, a7, a8, a9, a10, a11, a12, a13].map D.str) (some 12) none = [a12, a13].map D.str := rfl
      generalize [a0, a1, a2, a3, a4, a5, a6, a7, a8, a9, a10, a11, a12, a13].map D.str = FL at x0 c1 c2 c3 ⊢
      simp -implicitDefEqProofs (disch := first | assumption | omega | (simp only [List.length_cons, List.length_nil, List.length_append, List.length_map, List.length_take, List.length_drop, rngItems_len]; omega)) only [mSeq_eq, mIfS_eq, mSet_eq, mRet_eq, mRetN_eq, mExpr_eq, mPass_eq, mAsg_eq, mPar_eq, mAug_eq, bOf_eq, tOf_eq, tAndM_eq, tOrM_eq, tNotM_eq, tsYes_eq, mOp_eq, mUn_eq, mVar_eq, mC_eq, mCall_eq, mFun_eq, mFunKw_eq, mMeth_eq, mAnd_eq, mOr_eq, mNot_eq, mIf_eq, mChain_eq, mSl_eq, pNone_eq, pSome_eq, aCons_eq, aNil_eq, mTup_eq, mLst_eq, gN_eq, gT_eq, gsNil_eq, gsCons_eq, mkL_t, mkL_f, R.bind_ok, R.bind_no, R.nox_ok, List.getElem?_cons_zero, List.getElem?_cons_succ, List.set_cons_zero, List.set_cons_succ, List.length_cons, List.length_nil, List.append_nil, List.nil_append, List.cons_append, piApp_on, oLen_fz, oLen_lst, oLen_tup, oLt_int, oLe_int, oGt_int, oGe_int, oAdd_int, oSub_int, oIx_fz, oIx_lst, oIx_tup, oMax_int, oMin_int, oInt_bl, oInt_int, oIsi_bl, oNeg_int, oTuple_lst, oTuple_tup, iR1_eq, iR2_eq, iSq_eq, iStrM_eq, srcOf_tup, srcOf_lst, srcOf_fz, if_true, if_false, Bool.false_eq_true, Bool.true_eq_false, reduceIte, Nat.reduceAdd, Nat.reduceLeDiff, Nat.reduceEqDiff, Bool.not_true, Bool.not_false, decide_true, decide_false, and_self, and_true, true_and, oMod_int, oMul_r, oMul_l, oLen_str, oAdd_str, oSl_str, oSl_tup, oSl_lst, oSl_fz, rngOk_of, oEq_int, oEq_bl, beq_self_eq_true, Int.toNat_natCast, mFor_eq, mLc_eq, app_get0, app_get1, app_set0, app_set1, tyOk, oTuple_ref, oList_ref, oLen_refM, oIx_refM, oAppM, oExtM, srcOf_refM, ifLt24, ifLe24, mPairs, oIxA_lst, x0, c1, c2, c3, l2, List.append_assoc]
    have c4 : Fn.cutD ([a0, a1, a2, a3, a4, a5, a6, a7, a8, a9, a10, a11, a12, a13].map D.str) (some 3) (some 6) = [a3, a4, a5].map D.str := rfl
    have x0 : atI ([a0, a1, a2, a3, a4, a5, a6, a7, a8, a9, a10, a11, a12, a13].map D.str) 0 = some (.str a0) := rfl
    have e2 : ∀ (M : Mem) (y : Option D), compL (fun _ => True) (gN 3) tsYes C_law_world_0 [some (.ref i), some (.lst ([a0, a1, a2, a3, a4, a5, a6, a7, a8, a9, a10, a11, a12, a13].map .str)), y, none] ([a3, a4, a5].map D.str) M = .ok ([(a0, a3), (a0, a4), (a0, a5)].map bnD) M := fun M y => by
      have := compL_m (P := fun _ => True) (M := M) trivial (g := gN 3) (f := C_law_world_0) (env := [some (.ref i), some (.lst ([a0, a1, a2, a3, a4, a5, a6, a7, a8, a9, a10, a11, a12, a13].map .str)), y, none]) D.str (fun w => bnD (a0, w)) [a3, a4, a5] fun w hw => ⟨[some (.ref i), some (.lst ([a0, a1, a2, a3, a4, a5, a6, a7, a8, a9, a10, a11, a12, a13].map .str)), y, some (.str w)], rfl, by push_cast [C_law_world_0, oIxA_lst, x0]; rfl⟩
      exact this
    generalize [a0, a1, a2, a3, a4, a5, a6, a7, a8, a9, a10, a11, a12, a13].map D.str = FL at d1 c4 e2 e1 x0 ⊢
    rw [hB, ← hA]
    have w3 : ∀ (y0 y1 y2 y3 : Option D), wipeE [y0, y1, y2, y3] [3] = [y0, y1, y2, none] := fun _ _ _ _ => rfl
    have pA7 : ∀ (kv : List (KK × D)) (x : List Nat) (v : D) (B : Mem), kv.length < 14 → sPut (A ++ .dk false kv :: B) (.ref A.length) (.str x) v = some (A ++ .dk false (pA kv (.inr x) v) :: B) := fun kv x v B hl => sPut_at A B kv x v (by omega) rfl
    obtain ⟨K, hK⟩ : ∃ K : Wf, (⟨a0, [a0, a1, a2], [a7, a8, a9, a10, a11], [a12, a13], [(a0, a3), (a0, a4), (a0, a5)]⟩ : Wf) = K := ⟨_, rfl⟩
    have hk0 : mrgA [] [(.inr [104, 101, 114, 101], .str a0), (.inr [104, 111, 109, 101, 115], .lst ([a0, a1, a2].map .str)), (.inr [114, 105, 103, 104, 116, 115], .lst ([a7, a8, a9, a10, a11].map .str)), (.inr [119, 111, 114, 100, 115], .lst ([a12, a13].map .str)), (.inr [108, 105, 110, 101, 115], .ref (A.length + 1)), (.inr [116, 105, 99, 107], .int 0)] = (wkv K A.length ws0).take 6 := by rw [← hK]; rfl
    have hk1 : pA ((wkv K A.length ws0).take 6) (.inr [102, 111, 108, 107]) (.lst ([(a0, a3), (a0, a4), (a0, a5)].map bnD)) = (wkv K A.length ws0).take 7 := by rw [← hK]; rfl
    have hk2 : pA ((wkv K A.length ws0).take 7) (.inr [116, 104, 101, 114, 101]) (.ref (A.length + 2)) = (wkv K A.length ws0).take 8 := rfl
    have hk3 : pA ((wkv K A.length ws0).take 8) (.inr [98, 111, 111, 107]) (.ref (A.length + 3)) = (wkv K A.length ws0).take 9 := rfl
    have hk4 : pA ((wkv K A.length ws0).take 9) (.inr [97, 115, 107, 115]) (.int 0) = (wkv K A.length ws0).take 10 := rfl
    have hk5 : pA ((wkv K A.length ws0).take 10) (.inr [111, 112, 101, 110]) (.ref (A.length + 4)) = (wkv K A.length ws0).take 11 := rfl
    have hk6 : pA ((wkv K A.length ws0).take 11) (.inr [99, 97, 109, 101]) (.int 0) = (wkv K A.length ws0).take 12 := rfl
    have hfin : pA ((wkv K A.length ws0).take 12) (.inr [97, 115, 107, 101, 100]) (.ref (A.length + 5)) = wkv K A.length ws0 := rfl
    have q0 : ((wkv K A.length ws0).take 6).length = 6 := rfl
    have q1 : ((wkv K A.length ws0).take 7).length = 7 := rfl
    have q2 : ((wkv K A.length ws0).take 8).length = 8 := rfl
    have q3 : ((wkv K A.length ws0).take 9).length = 9 := rfl
    have q4 : ((wkv K A.length ws0).take 10).length = 10 := rfl
    have q5 : ((wkv K A.length ws0).take 11).length = 11 := rfl
    have q6 : ((wkv K A.length ws0).take 12).length = 12 := rfl
    rw [hk0] at d1
    generalize (wkv K A.length ws0).take 6 = k0 at *
    generalize (wkv K A.length ws0).take 7 = k1 at *
    generalize (wkv K A.length ws0).take 8 = k2 at *
    generalize (wkv K A.length ws0).take 9 = k3 at *
    generalize (wkv K A.length ws0).take 10 = k4 at *
    generalize (wkv K A.length ws0).take 11 = k5 at *
    generalize (wkv K A.length ws0).take 12 = k6 at *
    have hW : wC K A.length ws0 = [.dk false (wkv K A.length ws0), .lst [], .dn false [], .lst [], .lst [], .lst []] := rfl
    rw [hK, hW]
    generalize wkv K A.length ws0 = k7 at *
    have p0 : ∀ v B, sPut (A ++ .dk false k0 :: B) (.ref A.length) (.str [102, 111, 108, 107]) v = some (A ++ .dk false (pA k0 (.inr [102, 111, 108, 107]) v) :: B) := fun v B => pA7 _ _ v B (by omega)
    have p1 : ∀ v B, sPut (A ++ .dk false k1 :: B) (.ref A.length) (.str [116, 104, 101, 114, 101]) v = some (A ++ .dk false (pA k1 (.inr [116, 104, 101, 114, 101]) v) :: B) := fun v B => pA7 _ _ v B (by omega)
    have p2 : ∀ v B, sPut (A ++ .dk false k2 :: B) (.ref A.length) (.str [98, 111, 111, 107]) v = some (A ++ .dk false (pA k2 (.inr [98, 111, 111, 107]) v) :: B) := fun v B => pA7 _ _ v B (by omega)
    have p3 : ∀ v B, sPut (A ++ .dk false k3 :: B) (.ref A.length) (.str [97, 115, 107, 115]) v = some (A ++ .dk false (pA k3 (.inr [97, 115, 107, 115]) v) :: B) := fun v B => pA7 _ _ v B (by omega)
    have p4 : ∀ v B, sPut (A ++ .dk false k4 :: B) (.ref A.length) (.str [111, 112, 101, 110]) v = some (A ++ .dk false (pA k4 (.inr [111, 112, 101, 110]) v) :: B) := fun v B => pA7 _ _ v B (by omega)
    have p5 : ∀ v B, sPut (A ++ .dk false k5 :: B) (.ref A.length) (.str [99, 97, 109, 101]) v = some (A ++ .dk false (pA k5 (.inr [99, 97, 109, 101]) v) :: B) := fun v B => pA7 _ _ v B (by omega)
    have p6 : ∀ v B, sPut (A ++ .dk false k6 :: B) (.ref A.length) (.str [97, 115, 107, 101, 100]) v = some (A ++ .dk false (pA k6 (.inr [97, 115, 107, 101, 100]) v) :: B) := fun v B => pA7 _ _ v B (by omega)
    simp -implicitDefEqProofs (disch := first | assumption | omega | (simp only [List.length_cons, List.length_nil, List.length_append, List.length_map, List.length_take, List.length_drop, rngItems_len]; omega)) only [mSeq_eq, mIfS_eq, mSet_eq, mRet_eq, mRetN_eq, mExpr_eq, mPass_eq, mAsg_eq, mPar_eq, mAug_eq, bOf_eq, tOf_eq, tAndM_eq, tOrM_eq, tNotM_eq, tsYes_eq, mOp_eq, mUn_eq, mVar_eq, mC_eq, mCall_eq, mFun_eq, mFunKw_eq, mMeth_eq, mAnd_eq, mOr_eq, mNot_eq, mIf_eq, mChain_eq, mSl_eq, pNone_eq, pSome_eq, aCons_eq, aNil_eq, mTup_eq, mLst_eq, gN_eq, gT_eq, gsNil_eq, gsCons_eq, mkL_t, mkL_f, R.bind_ok, R.bind_no, R.nox_ok, List.getElem?_cons_zero, List.getElem?_cons_succ, List.set_cons_zero, List.set_cons_succ, List.length_cons, List.length_nil, List.append_nil, List.nil_append, List.cons_append, piApp_on, oLen_fz, oLen_lst, oLen_tup, oLt_int, oLe_int, oGt_int, oGe_int, oAdd_int, oSub_int, oIx_fz, oIx_lst, oIx_tup, oMax_int, oMin_int, oInt_bl, oInt_int, oIsi_bl, oNeg_int, oTuple_lst, oTuple_tup, iR1_eq, iR2_eq, iSq_eq, iStrM_eq, srcOf_tup, srcOf_lst, srcOf_fz, if_true, if_false, Bool.false_eq_true, Bool.true_eq_false, reduceIte, Nat.reduceAdd, Nat.reduceLeDiff, Nat.reduceEqDiff, Bool.not_true, Bool.not_false, decide_true, decide_false, and_self, and_true, true_and, oMod_int, oMul_r, oMul_l, oLen_str, oAdd_str, oSl_str, oSl_tup, oSl_lst, oSl_fz, rngOk_of, oEq_int, oEq_bl, beq_self_eq_true, Int.toNat_natCast, mFor_eq, mLc_eq, app_get0, app_get1, app_set0, app_set1, tyOk, oTuple_ref, oList_ref, oLen_refM, oIx_refM, oAppM, oExtM, srcOf_refM, ifLt24, ifLe24, e1, d1, e2, c4, w3, gIxA_eq, p0, hk1, mDNewN_eq, p1, hk2, p2, hk3, p3, hk4, p4, hk5, p5, hk6, p6, hfin, List.length_append, List.append_assoc]
    all_goals rfl
open Classical in
theorem any_ex : ∀ {l : List D} {ps : List PyData} {a : D} {p : PyData}, exL l = true → exD a = true → pyL l = some ps → pyD a = some p → (ps.any fun z => PyData.eqv z p) = decide (a ∈ l)
  | [], ps, a, p, _, _, h, _ => by cases h; simp
  | d :: r, ps, a, p, hl, ha, h, hp => by
    simp only [exL, Bool.and_eq_true] at hl
    simp only [pyL] at h
    split at h
    · rename_i x xs k1 k2
      cases h
      have h1 := eqv_ex d a x p hl.1 ha k1 hp
      have h2 := any_ex (a := a) (p := p) hl.2 ha k2 hp
      rw [List.any_cons, h2, Bool.eq_iff_iff]
      simp only [Bool.or_eq_true, decide_eq_true_eq, h1, List.mem_cons]
      constructor
      · rintro (h | h)
        · exact .inl h.symm
        · exact .inr h
      · rintro (h | h)
        · exact .inl h.symm
        · exact .inr h
    · cases h
open Classical in
theorem oInD_cell {neg : Bool} {a : D} {b : Nat} {l : List D} {M : Mem} (hb : M[b]? = some (.lst l)) (hl : exL l = true) (ha : exD a = true) (hd : dpD a ≤ 60) : oInD neg a (.ref b) M = .ok (.bl (neg != decide (a ∈ l))) M := by
  obtain ⟨p, p1, p2⟩ := ex_py a ha
  obtain ⟨ps, q1, q2⟩ := ex_pyL l hl
  have k1 : pyM M a = some p := pyGo_of p1
  have k2 : pyM M (.ref b) = some (.list ps) := by
    show kN M 4 b = _
    simp only [kN, hb, pyGoL_of q1, Option.map_some]
  simp only [oInD, k1, k2]
  rw [if_pos (by omega), any_ex hl ha q1 p1]
  cases neg <;> simp
theorem akD_inj {a b : Ak} (h : akD a = akD b) : a = b := by
  obtain ⟨a1, a2⟩ := a
  obtain ⟨b1, b2⟩ := b
  simp only [akD, D.tup.injEq, List.cons.injEq, D.str.injEq, D.int.injEq, and_true] at h
  rw [h.1, h.2]
theorem akD_mem {a : Ak} {l : List Ak} : akD a ∈ l.map akD ↔ a ∈ l := by
  rw [List.mem_map]
  exact ⟨fun ⟨b, h1, h2⟩ => akD_inj h2 ▸ h1, fun h => ⟨a, h, rfl⟩⟩
theorem exL_ak (l : List Ak) : exL (l.map akD) = true := exL_iff.mpr fun d hd => by
  obtain ⟨a, _, rfl⟩ := List.mem_map.mp hd
  rfl
/-- an ask's key, to a bound -/
def akB (a : Ak) : Prop := bw 6 a.1 ∧ 0 ≤ a.2 ∧ a.2 < 100000
theorem oInA_asked {A : Mem} {K : Wf} {b : Nat} {s : Ws} (h : A.length = b) (a : Ak) : oInA false (akD a) (.ref (b + 5)) (A ++ wC K b s) = .ok (.bl (decide (a ∈ s.asked))) (A ++ wC K b s) := by
  have e1 : dFind (A ++ wC K b s) (.ref (b + 5)) (akD a) = none := by simp only [dFind, wG5 h]
  simp only [oInA, e1]
  rw [oInD_cell (wG5 h) (exL_ak _) rfl (by simp [akD, dpD, dpL])]
  by_cases c : a ∈ s.asked
  · simp [akD_mem, c]
  · simp [akD_mem, c]
theorem bw_at {n : Nat} {l : List (List Nat)} (hl : ∀ w ∈ l, bw n w) (v : Nat) (hv : v < l.length) : ∃ w, w ∈ l ∧ bw n w ∧ atI (l.map D.str) (v : Int) = some (.str w) := by
  obtain ⟨d, hd, hm⟩ := atI_some (xs := l.map D.str) (i := (v : Int)) (by omega) (by rw [List.length_map]; omega)
  obtain ⟨w, h1, rfl⟩ := List.mem_map.mp hm
  exact ⟨w, h1, hl w h1, hd⟩
theorem new_ask_eq {M0 A : Mem} {i b : Nat} {K : Wf} {s : Ws} (hK : WfOk K) (h : FlAt M0 i A) (hb : A.length = b) (hs : s.asked.length ≤ 1000) : ∃ (a : Ak) (A' : Mem), akB a ∧ ¬ a ∈ s.asked ∧ FlAt M0 i A' ∧ A'.length = b ∧
    g_law_new_ask [.ref i, .ref b] (A ++ wC K b s) = .ok (akD a) (A' ++ wC K b { s with asked := s.asked ++ [a] }) := by
  obtain ⟨v, A1, v1, h1, e1⟩ := draw_app h (B := wC K b s) 3 (by omega) (by omega)
  obtain ⟨u, A2, u1, h2, e2⟩ := draw_app h1 (B := wC K b s) 60 (by omega) (by omega)
  have hb1 : A1.length = b := by rw [h1.len, ← h.len, hb]
  have hb2 : A2.length = b := by rw [h2.len, ← h.len, hb]
  obtain ⟨w, hw, hbw, hx⟩ := bw_at hK.homes v (by rw [hK.lh]; omega)
  obtain ⟨k, k1, k2, k3⟩ := num_free (f := fun q : Nat => ((w, (u : Int) + q) : Ak)) (fun a b h => by
    have := (Prod.mk.inj h).2
    omega) s.asked
  have hrun := while_run (T := T_law_new_ask_0) (L := L_law_new_ask_1) (f := fun q => [some (.ref i), some (.ref b), some (akD (w, (u : Int) + q))]) (M := A2 ++ wC K b s) k 1000000000 0 (by omega) (fun q _ hq => by
    have t := oInA_asked hb2 (K := K) (s := s) (w, (u : Int) + q)
    rw [decide_eq_true (k2 q (by omega))] at t
    constructor
    · simp -implicitDefEqProofs (disch := first | assumption | omega | (simp only [List.length_cons, List.length_nil, List.length_append, List.length_map, List.length_take, List.length_drop, rngItems_len]; omega)) only [mSeq_eq, mIfS_eq, mSet_eq, mRet_eq, mRetN_eq, mExpr_eq, mPass_eq, mAsg_eq, mPar_eq, mAug_eq, bOf_eq, tOf_eq, tAndM_eq, tOrM_eq, tNotM_eq, tsYes_eq, mOp_eq, mUn_eq, mVar_eq, mC_eq, mCall_eq, mFun_eq, mFunKw_eq, mMeth_eq, mAnd_eq, mOr_eq, mNot_eq, mIf_eq, mChain_eq, mSl_eq, pNone_eq, pSome_eq, aCons_eq, aNil_eq, mTup_eq, mLst_eq, gN_eq, gT_eq, gsNil_eq, gsCons_eq, mkL_t, mkL_f, R.bind_ok, R.bind_no, R.nox_ok, List.getElem?_cons_zero, List.getElem?_cons_succ, List.set_cons_zero, List.set_cons_succ, List.length_cons, List.length_nil, List.append_nil, List.nil_append, List.cons_append, piApp_on, oLen_fz, oLen_lst, oLen_tup, oLt_int, oLe_int, oGt_int, oGe_int, oAdd_int, oSub_int, oIx_fz, oIx_lst, oIx_tup, oMax_int, oMin_int, oInt_bl, oInt_int, oIsi_bl, oNeg_int, oTuple_lst, oTuple_tup, iR1_eq, iR2_eq, iSq_eq, iStrM_eq, srcOf_tup, srcOf_lst, srcOf_fz, if_true, if_false, Bool.false_eq_true, Bool.true_eq_false, reduceIte, Nat.reduceAdd, Nat.reduceLeDiff, Nat.reduceEqDiff, Bool.not_true, Bool.not_false, decide_true, decide_false, and_self, and_true, true_and, oMod_int, oMul_r, oMul_l, oLen_str, oAdd_str, oSl_str, oSl_tup, oSl_lst, oSl_fz, rngOk_of, oEq_int, oEq_bl, beq_self_eq_true, Int.toNat_natCast, mFor_eq, mLc_eq, app_get0, app_get1, app_set0, app_set1, tyOk, oTuple_ref, oList_ref, oLen_refM, oIx_refM, oAppM, oExtM, srcOf_refM, ifLt24, ifLe24, T_law_new_ask_0, wI_asked, t]
    · have x0 : atI [D.str w, .int ((u : Int) + q)] 0 = some (.str w) := rfl
      have x1 : atI [D.str w, .int ((u : Int) + q)] 1 = some (.int ((u : Int) + q)) := rfl
      have e : ((u : Int) + q) + 1 = (u : Int) + ((q + 1 : Nat) : Int) := by omega
      simp -implicitDefEqProofs (disch := first | assumption | omega | (simp only [List.length_cons, List.length_nil, List.length_append, List.length_map, List.length_take, List.length_drop, rngItems_len]; omega)) only [mSeq_eq, mIfS_eq, mSet_eq, mRet_eq, mRetN_eq, mExpr_eq, mPass_eq, mAsg_eq, mPar_eq, mAug_eq, bOf_eq, tOf_eq, tAndM_eq, tOrM_eq, tNotM_eq, tsYes_eq, mOp_eq, mUn_eq, mVar_eq, mC_eq, mCall_eq, mFun_eq, mFunKw_eq, mMeth_eq, mAnd_eq, mOr_eq, mNot_eq, mIf_eq, mChain_eq, mSl_eq, pNone_eq, pSome_eq, aCons_eq, aNil_eq, mTup_eq, mLst_eq, gN_eq, gT_eq, gsNil_eq, gsCons_eq, mkL_t, mkL_f, R.bind_ok, R.bind_no, R.nox_ok, List.getElem?_cons_zero, List.getElem?_cons_succ, List.set_cons_zero, List.set_cons_succ, List.length_cons, List.length_nil, List.append_nil, List.nil_append, List.cons_append, piApp_on, oLen_fz, oLen_lst, oLen_tup, oLt_int, oLe_int, oGt_int, oGe_int, oAdd_int, oSub_int, oIx_fz, oIx_lst, oIx_tup, oMax_int, oMin_int, oInt_bl, oInt_int, oIsi_bl, oNeg_int, oTuple_lst, oTuple_tup, iR1_eq, iR2_eq, iSq_eq, iStrM_eq, srcOf_tup, srcOf_lst, srcOf_fz, if_true, if_false, Bool.false_eq_true, Bool.true_eq_false, reduceIte, Nat.reduceAdd, Nat.reduceLeDiff, Nat.reduceEqDiff, Bool.not_true, Bool.not_false, decide_true, decide_false, and_self, and_true, true_and, oMod_int, oMul_r, oMul_l, oLen_str, oAdd_str, oSl_str, oSl_tup, oSl_lst, oSl_fz, rngOk_of, oEq_int, oEq_bl, beq_self_eq_true, Int.toNat_natCast, mFor_eq, mLc_eq, app_get0, app_get1, app_set0, app_set1, tyOk, oTuple_ref, oList_ref, oLen_refM, oIx_refM, oAppM, oExtM, srcOf_refM, ifLt24, ifLe24, L_law_new_ask_1, akD, oIxA_tup, x0, x1, e]) (by
    have t := oInA_asked hb2 (K := K) (s := s) (w, (u : Int) + (0 + k : Nat))
    rw [decide_eq_false (by rw [Nat.zero_add]; exact k3)] at t
    simp -implicitDefEqProofs (disch := first | assumption | omega | (simp only [List.length_cons, List.length_nil, List.length_append, List.length_map, List.length_take, List.length_drop, rngItems_len]; omega)) only [mSeq_eq, mIfS_eq, mSet_eq, mRet_eq, mRetN_eq, mExpr_eq, mPass_eq, mAsg_eq, mPar_eq, mAug_eq, bOf_eq, tOf_eq, tAndM_eq, tOrM_eq, tNotM_eq, tsYes_eq, mOp_eq, mUn_eq, mVar_eq, mC_eq, mCall_eq, mFun_eq, mFunKw_eq, mMeth_eq, mAnd_eq, mOr_eq, mNot_eq, mIf_eq, mChain_eq, mSl_eq, pNone_eq, pSome_eq, aCons_eq, aNil_eq, mTup_eq, mLst_eq, gN_eq, gT_eq, gsNil_eq, gsCons_eq, mkL_t, mkL_f, R.bind_ok, R.bind_no, R.nox_ok, List.getElem?_cons_zero, List.getElem?_cons_succ, List.set_cons_zero, List.set_cons_succ, List.length_cons, List.length_nil, List.append_nil, List.nil_append, List.cons_append, piApp_on, oLen_fz, oLen_lst, oLen_tup, oLt_int, oLe_int, oGt_int, oGe_int, oAdd_int, oSub_int, oIx_fz, oIx_lst, oIx_tup, oMax_int, oMin_int, oInt_bl, oInt_int, oIsi_bl, oNeg_int, oTuple_lst, oTuple_tup, iR1_eq, iR2_eq, iSq_eq, iStrM_eq, srcOf_tup, srcOf_lst, srcOf_fz, if_true, if_false, Bool.false_eq_true, Bool.true_eq_false, reduceIte, Nat.reduceAdd, Nat.reduceLeDiff, Nat.reduceEqDiff, Bool.not_true, Bool.not_false, decide_true, decide_false, and_self, and_true, true_and, oMod_int, oMul_r, oMul_l, oLen_str, oAdd_str, oSl_str, oSl_tup, oSl_lst, oSl_fz, rngOk_of, oEq_int, oEq_bl, beq_self_eq_true, Int.toNat_natCast, mFor_eq, mLc_eq, app_get0, app_get1, app_set0, app_set1, tyOk, oTuple_ref, oList_ref, oLen_refM, oIx_refM, oAppM, oExtM, srcOf_refM, ifLt24, ifLe24, T_law_new_ask_0, wI_asked, t])
  refine ⟨(w, (u : Int) + (0 + k : Nat)), A2, ⟨hbw, by simp; omega, by simp; omega⟩, by rw [Nat.zero_add]; exact k3, h2, hb2, runB_rt (N := 3) (?_ : B_law_new_ask [some (.ref i), some (.ref b), none] (A ++ wC K b s) = _)⟩
  have ew : mWhile T_law_new_ask_0 L_law_new_ask_1 [some (.ref i), some (.ref b), some (.tup [.str w, .int (u : Int)])] (A2 ++ wC K b s) = .ok (.nx [some (.ref i), some (.ref b), some (akD (w, (u : Int) + (0 + k : Nat)))]) (A2 ++ wC K b s) := by
    have e0 : (D.tup [.str w, .int (u : Int)]) = akD (w, (u : Int) + (0 : Nat)) := by simp [akD]
    rw [e0]
    exact hrun
  generalize ha : ((w, (u : Int) + (0 + k : Nat)) : Ak) = a at *
  have hl : (s.asked.map akD).length < 16777216 := by rw [List.length_map]; omega
  simp -implicitDefEqProofs (disch := first | assumption | omega | (simp only [List.length_cons, List.length_nil, List.length_append, List.length_map, List.length_take, List.length_drop, rngItems_len]; omega)) only [mSeq_eq, mIfS_eq, mSet_eq, mRet_eq, mRetN_eq, mExpr_eq, mPass_eq, mAsg_eq, mPar_eq, mAug_eq, bOf_eq, tOf_eq, tAndM_eq, tOrM_eq, tNotM_eq, tsYes_eq, mOp_eq, mUn_eq, mVar_eq, mC_eq, mCall_eq, mFun_eq, mFunKw_eq, mMeth_eq, mAnd_eq, mOr_eq, mNot_eq, mIf_eq, mChain_eq, mSl_eq, pNone_eq, pSome_eq, aCons_eq, aNil_eq, mTup_eq, mLst_eq, gN_eq, gT_eq, gsNil_eq, gsCons_eq, mkL_t, mkL_f, R.bind_ok, R.bind_no, R.nox_ok, List.getElem?_cons_zero, List.getElem?_cons_succ, List.set_cons_zero, List.set_cons_succ, List.length_cons, List.length_nil, List.append_nil, List.nil_append, List.cons_append, piApp_on, oLen_fz, oLen_lst, oLen_tup, oLt_int, oLe_int, oGt_int, oGe_int, oAdd_int, oSub_int, oIx_fz, oIx_lst, oIx_tup, oMax_int, oMin_int, oInt_bl, oInt_int, oIsi_bl, oNeg_int, oTuple_lst, oTuple_tup, iR1_eq, iR2_eq, iSq_eq, iStrM_eq, srcOf_tup, srcOf_lst, srcOf_fz, if_true, if_false, Bool.false_eq_true, Bool.true_eq_false, reduceIte, Nat.reduceAdd, Nat.reduceLeDiff, Nat.reduceEqDiff, Bool.not_true, Bool.not_false, decide_true, decide_false, and_self, and_true, true_and, oMod_int, oMul_r, oMul_l, oLen_str, oAdd_str, oSl_str, oSl_tup, oSl_lst, oSl_fz, rngOk_of, oEq_int, oEq_bl, beq_self_eq_true, Int.toNat_natCast, mFor_eq, mLc_eq, app_get0, app_get1, app_set0, app_set1, tyOk, oTuple_ref, oList_ref, oLen_refM, oIx_refM, oAppM, oExtM, srcOf_refM, ifLt24, ifLe24, B_law_new_ask, wI_homes, e1, oIxA_lst, hx, e2, ew, wI_asked, wG5, hl, wS5]
def inB (i : Int) : Prop := 0 ≤ i ∧ i < 1000000
def bnB (p : Bn) : Prop := bw 6 p.1 ∧ bw 6 p.2
def opB {α : Type} (P : α → Prop) : Option α → Prop
  | none => True
  | some a => P a
structure grB (g : Gr) : Prop where
  n : inB g.n
  p : bnB g.p
  r : ∀ w ∈ g.r, bw 6 w
  r0 : 0 < g.r.length
  r4 : g.r.length ≤ 4
  f : inB g.f
  h : bnB g.h
  pa : opB inB g.pa
def datB (x : D) : Prop := Px 2 x ∧ ShD 3626 2 x
def rwB : Rw → Prop
  | .root t g => inB t ∧ grB g
  | .grant t g a => inB t ∧ grB g ∧ akB a
  | .cut t n => inB t ∧ inB n
  | .put t b h n p r f a => inB t ∧ bnB b ∧ bw 6 h ∧ inB n ∧ bnB p ∧ (∀ w ∈ r, bw 6 w) ∧ r.length ≤ 4 ∧ inB f ∧ opB akB a
  | .drop t b p => inB t ∧ bnB b ∧ inB p
  | .ask t c x => inB t ∧ inB c ∧ datB x
  | .answer t c x => inB t ∧ inB c ∧ datB x
  | .opn t a => inB t ∧ akB a
  | .no t a w => inB t ∧ akB a ∧ bw 6 w
  | .deed t d p r ch gv st b a => inB t ∧ bnB d ∧ bnB p ∧ bw 6 r ∧ (∀ x ∈ ch, inB x) ∧ ch.length ≤ 100 ∧ inB gv ∧ inB st ∧ opB bnB b ∧ opB akB a
theorem thK_inj {a b : Bn × Int} (h : thK a = thK b) : a = b := by
  obtain ⟨⟨a1, a2⟩, a3⟩ := a
  obtain ⟨⟨b1, b2⟩, b3⟩ := b
  simp only [thK, NK.tup.injEq, List.cons.injEq, NK.str.injEq, NK.int.injEq, and_true] at h
  rw [h.1.1, h.1.2, h.2]
theorem keyNT_th (k : Bn × Int) : keyNT (.tup [bnD k.1, .int k.2]) = some (thK k) := by
  simp [keyNT, keyN, keyNL, bnD, thK, nkDep, nkDepL]
theorem gA_th (l : List (Bn × Int)) (k : Bn × Int) : (gA (thN l) (thK k)).isSome = decide (k ∈ l) := by
  induction l with
  | nil => rfl
  | cons x r ih =>
    unfold gA thN at ih ⊢
    by_cases e : x = k
    · subst e; simp
    · have e' : ¬ thK x = thK k := fun z => e (thK_inj z)
      have e2 : ¬ k = x := fun z => e z.symm
      simp only [List.map_cons, List.find?_cons, e', decide_false, List.mem_cons, e2, false_or]
      exact ih
theorem gA_thT {l : List (Bn × Int)} {k : Bn × Int} (h : k ∈ l) : gA (thN l) (thK k) = some (.bl true) := by
  induction l with
  | nil => cases h
  | cons x r ih =>
    unfold gA thN at ih ⊢
    by_cases e : x = k
    · subst e; simp
    · have e' : ¬ thK x = thK k := fun z => e (thK_inj z)
      simp only [List.map_cons, List.find?_cons, e', decide_false]
      exact ih ((List.mem_cons.mp h).resolve_left fun z => e z.symm)
theorem pA_th {l : List (Bn × Int)} {k : Bn × Int} (h : ¬ k ∈ l) : pA (thN l) (thK k) (.bl true) = thN (l ++ [k]) := by
  have e : ((thN l).any fun kv => decide (kv.1 = thK k)) = false := by
    rw [Bool.eq_false_iff]
    intro z
    obtain ⟨x, hx, hk⟩ := List.any_eq_true.mp z
    obtain ⟨y, hy, rfl⟩ := List.mem_map.mp hx
    exact h (thK_inj (of_decide_eq_true hk) ▸ hy)
  unfold pA
  rw [e]
  simp [thN]
theorem dA_th (l : List (Bn × Int)) (k : Bn × Int) : dA (thN l) (thK k) = thN (l.filter fun x => decide (x ≠ k)) := by
  unfold dA thN
  rw [List.filter_map]
  congr 1
  refine List.filter_congr fun x _ => ?_
  simp only [Function.comp, ne_eq, decide_not, Bool.not_eq_eq_eq_not, Bool.not_not]
  congr 1
  exact propext ⟨thK_inj, fun z => by rw [z]⟩
section
variable {A : Mem} {K : Wf} {b : Nat} {s : Ws}
theorem oInA_there (h : A.length = b) (k : Bn × Int) : oInA false (.tup [bnD k.1, .int k.2]) (.ref (b + 2)) (A ++ wC K b s) = .ok (.bl (decide (k ∈ s.there))) (A ++ wC K b s) := by
  rw [oInA_dn (wG2 h) (keyNT_th k), gA_th]
  all_goals (cases decide (k ∈ s.there) <;> rfl)
theorem sPut_there (h : A.length = b) {k : Bn × Int} (hk : ¬ k ∈ s.there) (hl : s.there.length < 1000000) : sPut (A ++ wC K b s) (.ref (b + 2)) (.tup [bnD k.1, .int k.2]) (.bl true) = some (A ++ wC K b { s with there := s.there ++ [k] }) := by
  rw [sPut_dn (wG2 h) (keyNT_th k) (by rw [thN, List.length_map]; omega), pA_th hk, wS2 h]
theorem oPop_there (h : A.length = b) {k : Bn × Int} (hk : k ∈ s.there) : oPopE (.ref (b + 2)) [.tup [bnD k.1, .int k.2]] (A ++ wC K b s) = .ok (.bl true) (A ++ wC K b { s with there := s.there.filter fun x => decide (x ≠ k) }) := by
  rw [oPopE_dn (wG2 h) (keyNT_th k) (gA_thT hk), dA_th, wS2 h]
end
theorem rights_app {M0 A B : Mem} {i : Nat} (h : FlAt M0 i A) (X : D) (F : List (List Nat)) (hX : ∀ M, oList true [X] M = .ok (.ref M.length) (M ++ [.lst (F.map .str)])) (h0 : 0 < F.length) (h8 : F.length ≤ 100) : ∃ (ws : List (List Nat)) (A' : Mem), (∀ w ∈ ws, w ∈ F) ∧ 0 < ws.length ∧ ws.length ≤ 4 ∧ FlAt M0 i A' ∧ g_law_rights [.ref i, X] (A ++ B) = .ok (.tup (ws.map .str)) (A' ++ B) := by
  obtain ⟨ws, M', w1, w2, w3, hf, e⟩ := rights_eq (flApp (B := B) h) X F hX h0 h8
  obtain ⟨A', rfl, h'⟩ := flUnapp h.lt hf
  exact ⟨ws, A', w1, w2, w3, h', e⟩
theorem what_app {M0 A B : Mem} {i : Nat} (h : FlAt M0 i A) (F : List (List Nat)) (hw : ∀ w ∈ F, bw 6 w) (h3 : F.length = 3) : ∃ (x : D) (A' : Mem), datB x ∧ FlAt M0 i A' ∧ g_law_part [.ref i, .lst (F.map .str), .str [119, 104, 97, 116]] (A ++ B) = .ok x (A' ++ B) := by
  obtain ⟨x, M', hf, s1, p1, e⟩ := what_ok (n := 22) (i := i) hw h3 _ _ (flApp (B := B) h)
  obtain ⟨A', rfl, h'⟩ := flUnapp h.lt hf
  exact ⟨x, A', ⟨p1, s1⟩, h', e⟩
theorem answer_app {M0 A B : Mem} {i : Nat} (h : FlAt M0 i A) (F : List (List Nat)) (hw : ∀ w ∈ F, bw 6 w) (h3 : F.length = 3) : ∃ (x : D) (A' : Mem), datB x ∧ FlAt M0 i A' ∧ g_law_part [.ref i, .lst (F.map .str), .str [97, 110, 115, 119, 101, 114]] (A ++ B) = .ok x (A' ++ B) := by
  obtain ⟨x, M', hf, s1, p1, e⟩ := answer_ok (n := 22) (i := i) hw h3 _ _ (flApp (B := B) h)
  obtain ⟨A', rfl, h'⟩ := flUnapp h.lt hf
  exact ⟨x, A', ⟨p1, s1⟩, h', e⟩
def numOf (c n : Int) : Prop := n = c ∨ n = 1000 - c ∨ n = 2000 + c ∨ n = 3000 - c
def akO (a : Option Ak) : D := opD akD a
theorem put_row_eq {M0 A : Mem} {i b : Nat} {K : Wf} {s : Ws} (hK : WfOk K) (h : FlAt M0 i A) (hb : A.length = b) (hs : s.there.length ≤ 1000) (hc : 0 ≤ s.came ∧ s.came < 400) (ht : inB s.tick) (be : Bn) (hbe : bnB be) (a : Option Ak) (ha : opB akB a) : ∃ (p : Nat) (hm w : List Nat) (n f : Int) (rs : List (List Nat)) (A' : Mem),
    (∀ q : Nat, q < p → (be, (q : Int)) ∈ s.there) ∧ ¬ (be, (p : Int)) ∈ s.there ∧ numOf (s.came + 1) n ∧ rwB (.put s.tick be hm n (hm, w) rs f a) ∧ p ≤ 1000 ∧ FlAt M0 i A' ∧ A'.length = b ∧
    g_law_put_row [.ref i, .ref b, bnD be, akO a] (A ++ wC K b s) = .ok (rwD (.put s.tick be hm n (hm, w) rs f a)) (A' ++ wC K b { s with came := s.came + 1, there := s.there ++ [(be, (p : Int))] }) := by
  obtain ⟨s1, hs1⟩ : ∃ s1 : Ws, { s with came := s.came + 1 } = s1 := ⟨_, rfl⟩
  obtain ⟨p, p1, p2, p3⟩ := num_free (f := fun q : Nat => ((be, (q : Int)) : Bn × Int)) (fun a b h => by
    have := (Prod.mk.inj h).2
    omega) s.there
  obtain ⟨s2, hs2⟩ : ∃ s2 : Ws, { s with came := s.came + 1, there := s.there ++ [(be, (p : Int))] } = s2 := ⟨_, rfl⟩
  obtain ⟨v1, A1, b1, h1, e1⟩ := draw_app h (B := wC K b s2) 3 (by omega) (by omega)
  obtain ⟨v2, A2, b2, h2, e2⟩ := draw_app h1 (B := wC K b s2) 2 (by omega) (by omega)
  obtain ⟨v3, A3, b3, h3, e3⟩ := draw_app h2 (B := wC K b s2) 2 (by omega) (by omega)
  obtain ⟨v4, A4, b4, h4, e4⟩ := draw_app h3 (B := wC K b s2) 2 (by omega) (by omega)
  obtain ⟨rs, A5, r1, r2, r3, h5, e5⟩ := rights_app h4 (B := wC K b s2) (.lst (K.rights.map .str)) K.rights (fun M => rfl) (by rw [hK.lr]; omega) (by rw [hK.lr]; omega)
  obtain ⟨v6, A6, b6, h6, e6⟩ := draw_app h5 (B := wC K b s2) 9 (by omega) (by omega)
  have l1 : A1.length = b := by rw [h1.len, ← h.len, hb]
  have l2 : A2.length = b := by rw [h2.len, ← h.len, hb]
  have l3 : A3.length = b := by rw [h3.len, ← h.len, hb]
  have l4 : A4.length = b := by rw [h4.len, ← h.len, hb]
  have l5 : A5.length = b := by rw [h5.len, ← h.len, hb]
  have l6 : A6.length = b := by rw [h6.len, ← h.len, hb]
  obtain ⟨hm, m1, m2, hx1⟩ := bw_at hK.homes v1 (by rw [hK.lh]; omega)
  obtain ⟨w, w1, w2, hx2⟩ := bw_at hK.words v2 (by rw [hK.lw]; omega)
  have c2 : s2.came = s.came + 1 := by rw [← hs2]
  have t2 : s2.tick = s.tick := by rw [← hs2]
  obtain ⟨n0, hn0, q0⟩ : ∃ n0, atI [D.int (s.came + 1), .int (1000 - (s.came + 1))] (v3 : Int) = some (.int n0) ∧ (n0 = s.came + 1 ∨ n0 = 1000 - (s.came + 1)) := by
    rcases (show v3 = 0 ∨ v3 = 1 by omega) with z | z <;> subst z
    · exact ⟨_, rfl, .inl rfl⟩
    · exact ⟨_, rfl, .inr rfl⟩
  have hrun := while_run (T := T_law_put_row_0) (L := L_law_put_row_1) (f := fun q => [some (.ref i), some (.ref b), some (bnD be), some (akO a), some (.int (q : Int)), none, none, none, none]) (M := A ++ wC K b s1) p 1000000000 0 (by omega) (fun q _ hq => by
    have t := oInA_there hb (K := K) (s := s1) (be, (q : Int))
    rw [decide_eq_true (by rw [← hs1]; exact p2 q (by omega))] at t
    constructor
    · simp -implicitDefEqProofs (disch := first | assumption | omega | (simp only [List.length_cons, List.length_nil, List.length_append, List.length_map, List.length_take, List.length_drop, rngItems_len]; omega)) only [mSeq_eq, mIfS_eq, mSet_eq, mRet_eq, mRetN_eq, mExpr_eq, mPass_eq, mAsg_eq, mPar_eq, mAug_eq, bOf_eq, tOf_eq, tAndM_eq, tOrM_eq, tNotM_eq, tsYes_eq, mOp_eq, mUn_eq, mVar_eq, mC_eq, mCall_eq, mFun_eq, mFunKw_eq, mMeth_eq, mAnd_eq, mOr_eq, mNot_eq, mIf_eq, mChain_eq, mSl_eq, pNone_eq, pSome_eq, aCons_eq, aNil_eq, mTup_eq, mLst_eq, gN_eq, gT_eq, gsNil_eq, gsCons_eq, mkL_t, mkL_f, R.bind_ok, R.bind_no, R.nox_ok, List.getElem?_cons_zero, List.getElem?_cons_succ, List.set_cons_zero, List.set_cons_succ, List.length_cons, List.length_nil, List.append_nil, List.nil_append, List.cons_append, piApp_on, oLen_fz, oLen_lst, oLen_tup, oLt_int, oLe_int, oGt_int, oGe_int, oAdd_int, oSub_int, oIx_fz, oIx_lst, oIx_tup, oMax_int, oMin_int, oInt_bl, oInt_int, oIsi_bl, oNeg_int, oTuple_lst, oTuple_tup, iR1_eq, iR2_eq, iSq_eq, iStrM_eq, srcOf_tup, srcOf_lst, srcOf_fz, if_true, if_false, Bool.false_eq_true, Bool.true_eq_false, reduceIte, Nat.reduceAdd, Nat.reduceLeDiff, Nat.reduceEqDiff, Bool.not_true, Bool.not_false, decide_true, decide_false, and_self, and_true, true_and, oMod_int, oMul_r, oMul_l, oLen_str, oAdd_str, oSl_str, oSl_tup, oSl_lst, oSl_fz, rngOk_of, oEq_int, oEq_bl, beq_self_eq_true, Int.toNat_natCast, mFor_eq, mLc_eq, app_get0, app_get1, app_set0, app_set1, tyOk, oTuple_ref, oList_ref, oLen_refM, oIx_refM, oAppM, oExtM, srcOf_refM, ifLt24, ifLe24, T_law_put_row_0, wI_there, t]
    · have e : ((q : Nat) : Int) + 1 = ((q + 1 : Nat) : Int) := by omega
      simp -implicitDefEqProofs (disch := first | assumption | omega | (simp only [List.length_cons, List.length_nil, List.length_append, List.length_map, List.length_take, List.length_drop, rngItems_len]; omega)) only [mSeq_eq, mIfS_eq, mSet_eq, mRet_eq, mRetN_eq, mExpr_eq, mPass_eq, mAsg_eq, mPar_eq, mAug_eq, bOf_eq, tOf_eq, tAndM_eq, tOrM_eq, tNotM_eq, tsYes_eq, mOp_eq, mUn_eq, mVar_eq, mC_eq, mCall_eq, mFun_eq, mFunKw_eq, mMeth_eq, mAnd_eq, mOr_eq, mNot_eq, mIf_eq, mChain_eq, mSl_eq, pNone_eq, pSome_eq, aCons_eq, aNil_eq, mTup_eq, mLst_eq, gN_eq, gT_eq, gsNil_eq, gsCons_eq, mkL_t, mkL_f, R.bind_ok, R.bind_no, R.nox_ok, List.getElem?_cons_zero, List.getElem?_cons_succ, List.set_cons_zero, List.set_cons_succ, List.length_cons, List.length_nil, List.append_nil, List.nil_append, List.cons_append, piApp_on, oLen_fz, oLen_lst, oLen_tup, oLt_int, oLe_int, oGt_int, oGe_int, oAdd_int, oSub_int, oIx_fz, oIx_lst, oIx_tup, oMax_int, oMin_int, oInt_bl, oInt_int, oIsi_bl, oNeg_int, oTuple_lst, oTuple_tup, iR1_eq, iR2_eq, iSq_eq, iStrM_eq, srcOf_tup, srcOf_lst, srcOf_fz, if_true, if_false, Bool.false_eq_true, Bool.true_eq_false, reduceIte, Nat.reduceAdd, Nat.reduceLeDiff, Nat.reduceEqDiff, Bool.not_true, Bool.not_false, decide_true, decide_false, and_self, and_true, true_and, oMod_int, oMul_r, oMul_l, oLen_str, oAdd_str, oSl_str, oSl_tup, oSl_lst, oSl_fz, rngOk_of, oEq_int, oEq_bl, beq_self_eq_true, Int.toNat_natCast, mFor_eq, mLc_eq, app_get0, app_get1, app_set0, app_set1, tyOk, oTuple_ref, oList_ref, oLen_refM, oIx_refM, oAppM, oExtM, srcOf_refM, ifLt24, ifLe24, L_law_put_row_1, e]) (by
    have t := oInA_there hb (K := K) (s := s1) (be, ((0 + p : Nat) : Int))
    rw [decide_eq_false (by rw [Nat.zero_add, ← hs1]; exact p3)] at t
    simp -implicitDefEqProofs (disch := first | assumption | omega | (simp only [List.length_cons, List.length_nil, List.length_append, List.length_map, List.length_take, List.length_drop, rngItems_len]; omega)) only [mSeq_eq, mIfS_eq, mSet_eq, mRet_eq, mRetN_eq, mExpr_eq, mPass_eq, mAsg_eq, mPar_eq, mAug_eq, bOf_eq, tOf_eq, tAndM_eq, tOrM_eq, tNotM_eq, tsYes_eq, mOp_eq, mUn_eq, mVar_eq, mC_eq, mCall_eq, mFun_eq, mFunKw_eq, mMeth_eq, mAnd_eq, mOr_eq, mNot_eq, mIf_eq, mChain_eq, mSl_eq, pNone_eq, pSome_eq, aCons_eq, aNil_eq, mTup_eq, mLst_eq, gN_eq, gT_eq, gsNil_eq, gsCons_eq, mkL_t, mkL_f, R.bind_ok, R.bind_no, R.nox_ok, List.getElem?_cons_zero, List.getElem?_cons_succ, List.set_cons_zero, List.set_cons_succ, List.length_cons, List.length_nil, List.append_nil, List.nil_append, List.cons_append, piApp_on, oLen_fz, oLen_lst, oLen_tup, oLt_int, oLe_int, oGt_int, oGe_int, oAdd_int, oSub_int, oIx_fz, oIx_lst, oIx_tup, oMax_int, oMin_int, oInt_bl, oInt_int, oIsi_bl, oNeg_int, oTuple_lst, oTuple_tup, iR1_eq, iR2_eq, iSq_eq, iStrM_eq, srcOf_tup, srcOf_lst, srcOf_fz, if_true, if_false, Bool.false_eq_true, Bool.true_eq_false, reduceIte, Nat.reduceAdd, Nat.reduceLeDiff, Nat.reduceEqDiff, Bool.not_true, Bool.not_false, decide_true, decide_false, and_self, and_true, true_and, oMod_int, oMul_r, oMul_l, oLen_str, oAdd_str, oSl_str, oSl_tup, oSl_lst, oSl_fz, rngOk_of, oEq_int, oEq_bl, beq_self_eq_true, Int.toNat_natCast, mFor_eq, mLc_eq, app_get0, app_get1, app_set0, app_set1, tyOk, oTuple_ref, oList_ref, oLen_refM, oIx_refM, oAppM, oExtM, srcOf_refM, ifLt24, ifLe24, T_law_put_row_0, wI_there, t])
  have ew : mWhile T_law_put_row_0 L_law_put_row_1 [some (.ref i), some (.ref b), some (bnD be), some (akO a), some (.int 0), none, none, none, none] (A ++ wC K b s1) = .ok (.nx [some (.ref i), some (.ref b), some (bnD be), some (akO a), some (.int (p : Int)), none, none, none, none]) (A ++ wC K b s1) := by
    have := hrun
    rw [Nat.zero_add] at this
    exact this
  have pt : sPut (A ++ wC K b s1) (.ref (b + 2)) (.tup [bnD be, .int (p : Int)]) (.bl true) = some (A ++ wC K b s2) := by
    have := sPut_there (K := K) (s := s1) hb (k := (be, (p : Int))) (by rw [← hs1]; exact p3) (by rw [← hs1]; show s.there.length < 1000000; omega)
    rw [this, ← hs2, ← hs1]
  refine ⟨p, hm, w, n0 + 2000 * (v4 : Int), v6, rs, A6, p2, p3, ?_, ⟨ht, hbe, m2, ⟨?_, ?_⟩, ⟨m2, w2⟩, fun x hx => hK.rights x (r1 x hx), r3, ⟨by omega, by omega⟩, ha⟩, by omega, h6, l6, runB_rt (N := 9) (?_ : B_law_put_row [some (.ref i), some (.ref b), some (bnD be), some (akO a), none, none, none, none, none] (A ++ wC K b s) = _)⟩
  · rcases (show v4 = 0 ∨ v4 = 1 by omega) with z | z <;> subst z <;> rcases q0 with q | q <;> subst q
    · left; omega
    · right; left; omega
    · right; right; left; omega
    · right; right; right; omega
  · rcases q0 with q | q <;> subst q <;> omega
  · rcases q0 with q | q <;> subst q <;> omega
  · have pc : sPut (A ++ wC K b s) (.ref b) (.str [99, 97, 109, 101]) (.int (s.came + 1)) = some (A ++ wC K b s1) := by rw [wP_came hb, hs1]
    rw [hs2]
    simp -implicitDefEqProofs (disch := first | assumption | omega | (simp only [List.length_cons, List.length_nil, List.length_append, List.length_map, List.length_take, List.length_drop, rngItems_len]; omega)) only [mSeq_eq, mIfS_eq, mSet_eq, mRet_eq, mRetN_eq, mExpr_eq, mPass_eq, mAsg_eq, mPar_eq, mAug_eq, bOf_eq, tOf_eq, tAndM_eq, tOrM_eq, tNotM_eq, tsYes_eq, mOp_eq, mUn_eq, mVar_eq, mC_eq, mCall_eq, mFun_eq, mFunKw_eq, mMeth_eq, mAnd_eq, mOr_eq, mNot_eq, mIf_eq, mChain_eq, mSl_eq, pNone_eq, pSome_eq, aCons_eq, aNil_eq, mTup_eq, mLst_eq, gN_eq, gT_eq, gsNil_eq, gsCons_eq, mkL_t, mkL_f, R.bind_ok, R.bind_no, R.nox_ok, List.getElem?_cons_zero, List.getElem?_cons_succ, List.set_cons_zero, List.set_cons_succ, List.length_cons, List.length_nil, List.append_nil, List.nil_append, List.cons_append, piApp_on, oLen_fz, oLen_lst, oLen_tup, oLt_int, oLe_int, oGt_int, oGe_int, oAdd_int, oSub_int, oIx_fz, oIx_lst, oIx_tup, oMax_int, oMin_int, oInt_bl, oInt_int, oIsi_bl, oNeg_int, oTuple_lst, oTuple_tup, iR1_eq, iR2_eq, iSq_eq, iStrM_eq, srcOf_tup, srcOf_lst, srcOf_fz, if_true, if_false, Bool.false_eq_true, Bool.true_eq_false, reduceIte, Nat.reduceAdd, Nat.reduceLeDiff, Nat.reduceEqDiff, Bool.not_true, Bool.not_false, decide_true, decide_false, and_self, and_true, true_and, oMod_int, oMul_r, oMul_l, oLen_str, oAdd_str, oSl_str, oSl_tup, oSl_lst, oSl_fz, rngOk_of, oEq_int, oEq_bl, beq_self_eq_true, Int.toNat_natCast, mFor_eq, mLc_eq, app_get0, app_get1, app_set0, app_set1, tyOk, oTuple_ref, oList_ref, oLen_refM, oIx_refM, oAppM, oExtM, srcOf_refM, ifLt24, ifLe24, B_law_put_row, wI_came, gIxA_eq, pc, ew, wI_there, pt, wI_homes, e1, oIxA_lst, hx1, wI_words, e2, hx2, c2, t2, e3, hn0, e4, wI_rights, e5, wI_tick, e6]
    all_goals rfl
theorem oIsN_non' {ne : Bool} {M : Mem} : oIsN ne .non M = .ok (.bl (!ne)) M := rfl
theorem oIsN_int' {ne : Bool} {i : Int} {M : Mem} : oIsN ne (.int i) M = .ok (.bl ne) M := by cases ne <;> rfl
theorem oAdd_tt {a b : List D} {M : Mem} (h : a.length + b.length ≤ 16777216) : oAdd false (.tup a) (.tup b) M = .ok (.tup (a ++ b)) M := by
  have e : oAdd false (.tup a) (.tup b) M = (if a.length + b.length ≤ 16777216 then R.ok (.tup (a ++ b)) M else .no) := rfl
  rw [e, if_pos h]
theorem numb_gr (l : List Gr) : numb (l.map grD) = l.zipIdx.map fun x => D.tup [.int ((x.2 : Nat) : Int), grD x.1] := by
  apply List.ext_getElem?
  intro k
  unfold numb
  rw [List.getElem?_zipWith, List.getElem?_map, List.getElem?_map, List.length_map, List.getElem?_zipIdx, Nat.zero_add]
  by_cases h : k < l.length
  · rw [List.getElem?_range h, List.getElem?_eq_getElem h]; rfl
  · rw [List.getElem?_eq_none (show l.length ≤ k by omega), List.getElem?_eq_none (by simp; omega)]; rfl
/-- grants that may be handed on -/
def farsL (l : List Gr) : List Nat := (l.zipIdx.filter fun x => decide (0 < x.1.f)).map (·.2)
theorem farsL_mem {l : List Gr} {k : Nat} (h : k ∈ farsL l) : ∃ g, l[k]? = some g ∧ 0 < g.f := by
  obtain ⟨⟨g, j⟩, hx, rfl⟩ := List.mem_map.mp h
  obtain ⟨h1, h2⟩ := List.mem_filter.mp hx
  exact ⟨g, List.mk_mem_zipIdx_iff_getElem?.mp h1, of_decide_eq_true h2⟩
theorem farsL_len (l : List Gr) : (farsL l).length ≤ l.length := by
  unfold farsL
  rw [List.length_map]
  exact Nat.le_trans (List.length_filter_le _ _) (by simp)
/-- a book of a house -/
def BkOk (l : List Gr) : Prop := ∀ (k : Nat) (g : Gr), l[k]? = some g → grB g ∧ g.n = k ∧ ∀ p, g.pa = some p → 0 ≤ p ∧ p < k
theorem BkOk.snoc {l : List Gr} {g : Gr} (h : BkOk l) (h1 : grB g) (h2 : g.n = l.length) (h3 : ∀ p, g.pa = some p → 0 ≤ p ∧ p < l.length) : BkOk (l ++ [g]) := fun k g' hk => by
  by_cases c : k < l.length
  · rw [List.getElem?_append_left c] at hk
    exact h k g' hk
  · have e : k = l.length := by
      have := (List.getElem?_eq_some_iff.mp hk).1
      simp at this
      omega
    subst e
    rw [List.getElem?_append_right (Nat.le_refl _), Nat.sub_self] at hk
    cases hk
    exact ⟨h1, h2, h3⟩
def rowG (t : Int) (g : Gr) : Option Ak → Rw
  | none => .root t g
  | some a => .grant t g a
noncomputable def grS5 : FS := (mIfS (bOf (mUn (oIsN false) (mVar 8))) (mPar3 9 10 5 (aCons (mTup (aCons (mOp oIxA (mVar 1) (mC (.str [104, 101, 114, 101]))) (aCons (mOp oIxA (mOp oIxA (mVar 1) (mC (.str [119, 111, 114, 100, 115]))) (mFun 2 g_law_draw [] (aCons (mVar 0) (aCons (mC (.int 2)) aNil)))) aNil))) (aCons (mOp oIxA (mVar 1) (mC (.str [114, 105, 103, 104, 116, 115]))) (aCons (mOp (oAdd false) (mC (.int 1)) (mFun 2 g_law_draw [] (aCons (mVar 0) (aCons (mC (.int 8)) aNil)))) aNil)))) (mAsg (mSl false (mOp oIxA (mOp oIxA (mVar 1) (mC (.str [98, 111, 111, 107]))) (mVar 8)) pNone (pSome (mC (.int 4)))) (gT 4 (gsCons (gN 11) (gsCons (gN 9) (gsCons (gN 10) (gsCons (gN 5) gsNil)))))))
noncomputable def grS6 : FS := (mSeq (mSet 7 (mTup (aCons (mVar 3) (aCons (mVar 9) (aCons (mFun 2 g_law_rights [] (aCons (mVar 0) (aCons (mVar 10) aNil))) (aCons (mFun 2 g_law_draw [] (aCons (mVar 0) (aCons (mVar 5) aNil))) (aCons (mVar 4) (aCons (mVar 8) aNil)))))))) (mSeq (mExpr (mMeth "list" oAppend (mOp oIxA (mVar 1) (mC (.str [98, 111, 111, 107]))) (aCons (mVar 7) aNil))) (mRet (mIf (bOf (mUn (oIsN false) (mVar 2))) (mOp (oAdd false) (mTup (aCons (mC (.str [114, 111, 111, 116])) (aCons (mOp oIxA (mVar 1) (mC (.str [116, 105, 99, 107]))) aNil))) (mVar 7)) (mOp (oAdd false) (mOp (oAdd false) (mTup (aCons (mC (.str [103, 114, 97, 110, 116])) (aCons (mOp oIxA (mVar 1) (mC (.str [116, 105, 99, 107]))) aNil))) (mVar 7)) (mTup (aCons (mVar 2) aNil)))))))
theorem plL_nat {n : Nat} (l : List Nat) : PlL n (l.map fun k : Nat => D.int (k : Int)) := fun d hd => by
  obtain ⟨k, _, rfl⟩ := List.mem_map.mp hd
  exact Pl.int _
theorem grant_end {M0 A : Mem} {i b : Nat} {K : Wf} {s : Ws} (h : FlAt M0 i A) (hb : A.length = b) (hbk : s.book.length ≤ 1000) (a : Option Ak) (n : Nat) (ho pl : Bn) (hho : bnB ho) (hpl : bnB pl) (F : List (List Nat)) (X : D) (hX : ∀ M, oList true [X] M = .ok (.ref M.length) (M ++ [.lst (F.map .str)])) (h0 : 0 < F.length) (h8 : F.length ≤ 100) (hF : ∀ w ∈ F, bw 6 w) (fr : Int) (f0 : 0 < fr) (f1 : fr < 1000) (pa : Option Int) (hpa : opB inB pa) (hn : n ≤ 1000) (y11 : Option D) :
    ∃ (g : Gr) (A' : Mem), grB g ∧ g.n = n ∧ g.pa = pa ∧ g.f < fr ∧ FlAt M0 i A' ∧ A'.length = b ∧
      grS6 [some (.ref i), some (.ref b), some (akO a), some (.int n), some (bnD ho), some (.int fr), none, none, some (opD .int pa), some (bnD pl), some X, y11] (A ++ wC K b s) = .ok (.rt (rwD (rowG s.tick g a))) (A' ++ wC K b { s with book := s.book ++ [g] }) := by
  obtain ⟨rs, A1, r1, r2, r3, h1, e1⟩ := rights_app h (B := wC K b s) X F hX h0 h8
  obtain ⟨v, A2, b2, h2, e2⟩ := draw_app h1 (B := wC K b s) fr f0 (by omega)
  have l2 : A2.length = b := by rw [h2.len, ← h.len, hb]
  obtain ⟨g, hg⟩ : ∃ g : Gr, (⟨n, pl, rs, v, ho, pa⟩ : Gr) = g := ⟨_, rfl⟩
  have hgd : D.tup [.int (n : Int), bnD pl, .tup (rs.map .str), .int (v : Int), bnD ho, opD .int pa] = grD g := by rw [← hg]; rfl
  have hl : (s.book.map grD).length < 16777216 := by rw [List.length_map]; omega
  refine ⟨g, A2, by rw [← hg]; exact ⟨⟨by simp, by simp; omega⟩, hpl, fun w hw => hF w (r1 w hw), r2, r3, ⟨by simp, by simp; omega⟩, hho, hpa⟩, by rw [← hg], by rw [← hg], by rw [← hg]; exact b2, h2, l2, ?_⟩
  have a1 : ∀ M, oAdd false (.tup [.str wRoot, .int s.tick]) (grD g) M = .ok (rwD (.root s.tick g)) M := fun M => oAdd_tt (by simp [grL])
  have a2 : ∀ M, oAdd false (.tup [.str wGrant, .int s.tick]) (grD g) M = .ok (.tup (.str wGrant :: .int s.tick :: grL g)) M := fun M => oAdd_tt (by simp [grL])
  have a3 : ∀ M a, oAdd false (.tup (.str wGrant :: .int s.tick :: grL g)) (.tup [akD a]) M = .ok (rwD (.grant s.tick g a)) M := fun M a => oAdd_tt (by simp [grL])
  have t2 : ({ s with book := s.book ++ [g] } : Ws).tick = s.tick := rfl
  cases a with
  | none =>
    have n0 : ∀ M, oIsN false (akO none) M = .ok (.bl true) M := fun M => rfl
    generalize akO none = z at n0 ⊢
    simp -implicitDefEqProofs (disch := first | assumption | omega | (simp only [List.length_cons, List.length_nil, List.length_append, List.length_map, List.length_take, List.length_drop, rngItems_len]; omega)) only [mSeq_eq, mIfS_eq, mSet_eq, mRet_eq, mRetN_eq, mExpr_eq, mPass_eq, mAsg_eq, mPar_eq, mAug_eq, bOf_eq, tOf_eq, tAndM_eq, tOrM_eq, tNotM_eq, tsYes_eq, mOp_eq, mUn_eq, mVar_eq, mC_eq, mCall_eq, mFun_eq, mFunKw_eq, mMeth_eq, mAnd_eq, mOr_eq, mNot_eq, mIf_eq, mChain_eq, mSl_eq, pNone_eq, pSome_eq, aCons_eq, aNil_eq, mTup_eq, mLst_eq, gN_eq, gT_eq, gsNil_eq, gsCons_eq, mkL_t, mkL_f, R.bind_ok, R.bind_no, R.nox_ok, List.getElem?_cons_zero, List.getElem?_cons_succ, List.set_cons_zero, List.set_cons_succ, List.length_cons, List.length_nil, List.append_nil, List.nil_append, List.cons_append, piApp_on, oLen_fz, oLen_lst, oLen_tup, oLt_int, oLe_int, oGt_int, oGe_int, oAdd_int, oSub_int, oIx_fz, oIx_lst, oIx_tup, oMax_int, oMin_int, oInt_bl, oInt_int, oIsi_bl, oNeg_int, oTuple_lst, oTuple_tup, iR1_eq, iR2_eq, iSq_eq, iStrM_eq, srcOf_tup, srcOf_lst, srcOf_fz, if_true, if_false, Bool.false_eq_true, Bool.true_eq_false, reduceIte, Nat.reduceAdd, Nat.reduceLeDiff, Nat.reduceEqDiff, Bool.not_true, Bool.not_false, decide_true, decide_false, and_self, and_true, true_and, oMod_int, oMul_r, oMul_l, oLen_str, oAdd_str, oSl_str, oSl_tup, oSl_lst, oSl_fz, rngOk_of, oEq_int, oEq_bl, beq_self_eq_true, Int.toNat_natCast, mFor_eq, mLc_eq, app_get0, app_get1, app_set0, app_set1, tyOk, oTuple_ref, oList_ref, oLen_refM, oIx_refM, oAppM, oExtM, srcOf_refM, ifLt24, ifLe24, grS6, e1, e2, hgd, wI_book, wG3, hl, wS3, n0, wI_tick, t2, a1]
    all_goals rfl
  | some a =>
    have n0 : ∀ M, oIsN false (akD a) M = .ok (.bl false) M := fun M => rfl
    show grS6 [some (.ref i), some (.ref b), some (akD a), some (.int n), some (bnD ho), some (.int fr), none, none, some (opD .int pa), some (bnD pl), some X, y11] (A ++ wC K b s) = _
    simp -implicitDefEqProofs (disch := first | assumption | omega | (simp only [List.length_cons, List.length_nil, List.length_append, List.length_map, List.length_take, List.length_drop, rngItems_len]; omega)) only [mSeq_eq, mIfS_eq, mSet_eq, mRet_eq, mRetN_eq, mExpr_eq, mPass_eq, mAsg_eq, mPar_eq, mAug_eq, bOf_eq, tOf_eq, tAndM_eq, tOrM_eq, tNotM_eq, tsYes_eq, mOp_eq, mUn_eq, mVar_eq, mC_eq, mCall_eq, mFun_eq, mFunKw_eq, mMeth_eq, mAnd_eq, mOr_eq, mNot_eq, mIf_eq, mChain_eq, mSl_eq, pNone_eq, pSome_eq, aCons_eq, aNil_eq, mTup_eq, mLst_eq, gN_eq, gT_eq, gsNil_eq, gsCons_eq, mkL_t, mkL_f, R.bind_ok, R.bind_no, R.nox_ok, List.getElem?_cons_zero, List.getElem?_cons_succ, List.set_cons_zero, List.set_cons_succ, List.length_cons, List.length_nil, List.append_nil, List.nil_append, List.cons_append, piApp_on, oLen_fz, oLen_lst, oLen_tup, oLt_int, oLe_int, oGt_int, oGe_int, oAdd_int, oSub_int, oIx_fz, oIx_lst, oIx_tup, oMax_int, oMin_int, oInt_bl, oInt_int, oIsi_bl, oNeg_int, oTuple_lst, oTuple_tup, iR1_eq, iR2_eq, iSq_eq, iStrM_eq, srcOf_tup, srcOf_lst, srcOf_fz, if_true, if_false, Bool.false_eq_true, Bool.true_eq_false, reduceIte, Nat.reduceAdd, Nat.reduceLeDiff, Nat.reduceEqDiff, Bool.not_true, Bool.not_false, decide_true, decide_false, and_self, and_true, true_and, oMod_int, oMul_r, oMul_l, oLen_str, oAdd_str, oSl_str, oSl_tup, oSl_lst, oSl_fz, rngOk_of, oEq_int, oEq_bl, beq_self_eq_true, Int.toNat_natCast, mFor_eq, mLc_eq, app_get0, app_get1, app_set0, app_set1, tyOk, oTuple_ref, oList_ref, oLen_refM, oIx_refM, oAppM, oExtM, srcOf_refM, ifLt24, ifLe24, grS6, e1, e2, hgd, wI_book, wG3, hl, wS3, n0, wI_tick, t2, a2, a3]
    all_goals rfl
theorem grS5_none {M0 A : Mem} {i b : Nat} {K : Wf} {s : Ws} (hK : WfOk K) (h : FlAt M0 i A) (hb : A.length = b) (x2 x3 x4 x5 : Option D) : ∃ (w : List Nat) (v : Nat) (A' : Mem), bw 6 w ∧ v < 8 ∧ FlAt M0 i A' ∧ A'.length = b ∧
    grS5 [some (.ref i), some (.ref b), x2, x3, x4, x5, none, none, some .non, none, none, none] (A ++ wC K b s) = .ok (.nx [some (.ref i), some (.ref b), x2, x3, x4, some (.int (1 + (v : Int))), none, none, some .non, some (bnD (K.here, w)), some (.lst (K.rights.map .str)), none]) (A' ++ wC K b s) := by
  obtain ⟨u, A1, u1, h1, e1⟩ := draw_app h (B := wC K b s) 2 (by omega) (by omega)
  obtain ⟨v, A2, v1, h2, e2⟩ := draw_app h1 (B := wC K b s) 8 (by omega) (by omega)
  have l1 : A1.length = b := by rw [h1.len, ← h.len, hb]
  have l2 : A2.length = b := by rw [h2.len, ← h.len, hb]
  obtain ⟨w, w1, w2, hx⟩ := bw_at hK.words u (by rw [hK.lw]; omega)
  refine ⟨w, v, A2, w2, by omega, h2, l2, ?_⟩
  simp -implicitDefEqProofs (disch := first | assumption | omega | (simp only [List.length_cons, List.length_nil, List.length_append, List.length_map, List.length_take, List.length_drop, rngItems_len]; omega)) only [mSeq_eq, mIfS_eq, mSet_eq, mRet_eq, mRetN_eq, mExpr_eq, mPass_eq, mAsg_eq, mPar_eq, mAug_eq, bOf_eq, tOf_eq, tAndM_eq, tOrM_eq, tNotM_eq, tsYes_eq, mOp_eq, mUn_eq, mVar_eq, mC_eq, mCall_eq, mFun_eq, mFunKw_eq, mMeth_eq, mAnd_eq, mOr_eq, mNot_eq, mIf_eq, mChain_eq, mSl_eq, pNone_eq, pSome_eq, aCons_eq, aNil_eq, mTup_eq, mLst_eq, gN_eq, gT_eq, gsNil_eq, gsCons_eq, mkL_t, mkL_f, R.bind_ok, R.bind_no, R.nox_ok, List.getElem?_cons_zero, List.getElem?_cons_succ, List.set_cons_zero, List.set_cons_succ, List.length_cons, List.length_nil, List.append_nil, List.nil_append, List.cons_append, piApp_on, oLen_fz, oLen_lst, oLen_tup, oLt_int, oLe_int, oGt_int, oGe_int, oAdd_int, oSub_int, oIx_fz, oIx_lst, oIx_tup, oMax_int, oMin_int, oInt_bl, oInt_int, oIsi_bl, oNeg_int, oTuple_lst, oTuple_tup, iR1_eq, iR2_eq, iSq_eq, iStrM_eq, srcOf_tup, srcOf_lst, srcOf_fz, if_true, if_false, Bool.false_eq_true, Bool.true_eq_false, reduceIte, Nat.reduceAdd, Nat.reduceLeDiff, Nat.reduceEqDiff, Bool.not_true, Bool.not_false, decide_true, decide_false, and_self, and_true, true_and, oMod_int, oMul_r, oMul_l, oLen_str, oAdd_str, oSl_str, oSl_tup, oSl_lst, oSl_fz, rngOk_of, oEq_int, oEq_bl, beq_self_eq_true, Int.toNat_natCast, mFor_eq, mLc_eq, app_get0, app_get1, app_set0, app_set1, tyOk, oTuple_ref, oList_ref, oLen_refM, oIx_refM, oAppM, oExtM, srcOf_refM, ifLt24, ifLe24, grS5, oIsN_non', wI_here, wI_words, e1, oIxA_lst, hx, wI_rights, e2, mPar3_eq]
  all_goals rfl
theorem grS5_some {A : Mem} {i b k : Nat} {K : Wf} {s : Ws} {g : Gr} (hb : A.length = b) (hg : s.book[k]? = some g) (x2 x3 x4 x5 : Option D) :
    grS5 [some (.ref i), some (.ref b), x2, x3, x4, x5, none, none, some (.int k), none, none, none] (A ++ wC K b s) = .ok (.nx [some (.ref i), some (.ref b), x2, x3, x4, some (.int g.f), none, none, some (.int k), some (bnD g.p), some (.tup (g.r.map .str)), some (.int g.n)]) (A ++ wC K b s) := by
  have hx : atI (s.book.map grD) (k : Int) = some (grD g) := by
    refine atI_nat ?_
    rw [List.getElem?_map, hg]
    rfl
  have c4 : Fn.cutD (grL g) none (some 4) = [.int g.n, bnD g.p, .tup (g.r.map .str), .int g.f] := rfl
  simp -implicitDefEqProofs (disch := first | assumption | omega | (simp only [List.length_cons, List.length_nil, List.length_append, List.length_map, List.length_take, List.length_drop, rngItems_len]; omega)) only [mSeq_eq, mIfS_eq, mSet_eq, mRet_eq, mRetN_eq, mExpr_eq, mPass_eq, mAsg_eq, mPar_eq, mAug_eq, bOf_eq, tOf_eq, tAndM_eq, tOrM_eq, tNotM_eq, tsYes_eq, mOp_eq, mUn_eq, mVar_eq, mC_eq, mCall_eq, mFun_eq, mFunKw_eq, mMeth_eq, mAnd_eq, mOr_eq, mNot_eq, mIf_eq, mChain_eq, mSl_eq, pNone_eq, pSome_eq, aCons_eq, aNil_eq, mTup_eq, mLst_eq, gN_eq, gT_eq, gsNil_eq, gsCons_eq, mkL_t, mkL_f, R.bind_ok, R.bind_no, R.nox_ok, List.getElem?_cons_zero, List.getElem?_cons_succ, List.set_cons_zero, List.set_cons_succ, List.length_cons, List.length_nil, List.append_nil, List.nil_append, List.cons_append, piApp_on, oLen_fz, oLen_lst, oLen_tup, oLt_int, oLe_int, oGt_int, oGe_int, oAdd_int, oSub_int, oIx_fz, oIx_lst, oIx_tup, oMax_int, oMin_int, oInt_bl, oInt_int, oIsi_bl, oNeg_int, oTuple_lst, oTuple_tup, iR1_eq, iR2_eq, iSq_eq, iStrM_eq, srcOf_tup, srcOf_lst, srcOf_fz, if_true, if_false, Bool.false_eq_true, Bool.true_eq_false, reduceIte, Nat.reduceAdd, Nat.reduceLeDiff, Nat.reduceEqDiff, Bool.not_true, Bool.not_false, decide_true, decide_false, and_self, and_true, true_and, oMod_int, oMul_r, oMul_l, oLen_str, oAdd_str, oSl_str, oSl_tup, oSl_lst, oSl_fz, rngOk_of, oEq_int, oEq_bl, beq_self_eq_true, Int.toNat_natCast, mFor_eq, mLc_eq, app_get0, app_get1, app_set0, app_set1, tyOk, oTuple_ref, oList_ref, oLen_refM, oIx_refM, oAppM, oExtM, srcOf_refM, ifLt24, ifLe24, grS5, oIsN_int', wI_book, oIxA_ref (wG3 hb), oIx_refM, wG3, hx, grD, c4]
  all_goals rfl
theorem wipe67 (y0 y1 y2 y3 y4 y5 y6 y7 y8 y9 y10 y11 : Option D) : wipeE [y0, y1, y2, y3, y4, y5, y6, y7, y8, y9, y10, y11] [6, 7] = [y0, y1, y2, y3, y4, y5, none, none, y8, y9, y10, y11] := rfl
theorem fars_comp {A : Mem} {b : Nat} {K : Wf} {s : Ws} (P : Mem → Prop) (hP : P (A ++ wC K b s)) (y0 y1 y2 y3 y4 y5 : Option D) : compL P (gT 2 (gsCons (gN 6) (gsCons (gN 7) gsNil))) T_law_grant_row_0 C_law_grant_row_1 [y0, y1, y2, y3, y4, y5, none, none, none, none, none, none] (numb (s.book.map grD)) (A ++ wC K b s) = .ok ((farsL s.book).map fun k : Nat => D.int (k : Int)) (A ++ wC K b s) := by
  rw [numb_gr, compL_fm hP (g := gT 2 (gsCons (gN 6) (gsCons (gN 7) gsNil))) (t := T_law_grant_row_0) (f := C_law_grant_row_1) (env := [y0, y1, y2, y3, y4, y5, none, none, none, none, none, none]) (fun x : Gr × Nat => D.tup [.int ((x.2 : Nat) : Int), grD x.1]) (fun x => decide (0 < x.1.f)) (fun x => .int ((x.2 : Nat) : Int)) s.book.zipIdx (fun x _ => ⟨[y0, y1, y2, y3, y4, y5, some (.int ((x.2 : Nat) : Int)), some (grD x.1), none, none, none, none], rfl, ?_, fun _ => rfl⟩), farsL, List.map_map]
  · rfl
  · have x3 : atI (grL x.1) 3 = some (.int x.1.f) := rfl
    simp -implicitDefEqProofs (disch := first | assumption | omega | (simp only [List.length_cons, List.length_nil, List.length_append, List.length_map, List.length_take, List.length_drop, rngItems_len]; omega)) only [mSeq_eq, mIfS_eq, mSet_eq, mRet_eq, mRetN_eq, mExpr_eq, mPass_eq, mAsg_eq, mPar_eq, mAug_eq, bOf_eq, tOf_eq, tAndM_eq, tOrM_eq, tNotM_eq, tsYes_eq, mOp_eq, mUn_eq, mVar_eq, mC_eq, mCall_eq, mFun_eq, mFunKw_eq, mMeth_eq, mAnd_eq, mOr_eq, mNot_eq, mIf_eq, mChain_eq, mSl_eq, pNone_eq, pSome_eq, aCons_eq, aNil_eq, mTup_eq, mLst_eq, gN_eq, gT_eq, gsNil_eq, gsCons_eq, mkL_t, mkL_f, R.bind_ok, R.bind_no, R.nox_ok, List.getElem?_cons_zero, List.getElem?_cons_succ, List.set_cons_zero, List.set_cons_succ, List.length_cons, List.length_nil, List.append_nil, List.nil_append, List.cons_append, piApp_on, oLen_fz, oLen_lst, oLen_tup, oLt_int, oLe_int, oGt_int, oGe_int, oAdd_int, oSub_int, oIx_fz, oIx_lst, oIx_tup, oMax_int, oMin_int, oInt_bl, oInt_int, oIsi_bl, oNeg_int, oTuple_lst, oTuple_tup, iR1_eq, iR2_eq, iSq_eq, iStrM_eq, srcOf_tup, srcOf_lst, srcOf_fz, if_true, if_false, Bool.false_eq_true, Bool.true_eq_false, reduceIte, Nat.reduceAdd, Nat.reduceLeDiff, Nat.reduceEqDiff, Bool.not_true, Bool.not_false, decide_true, decide_false, and_self, and_true, true_and, oMod_int, oMul_r, oMul_l, oLen_str, oAdd_str, oSl_str, oSl_tup, oSl_lst, oSl_fz, rngOk_of, oEq_int, oEq_bl, beq_self_eq_true, Int.toNat_natCast, mFor_eq, mLc_eq, app_get0, app_get1, app_set0, app_set1, tyOk, oTuple_ref, oList_ref, oLen_refM, oIx_refM, oAppM, oExtM, srcOf_refM, ifLt24, ifLe24, T_law_grant_row_0, grD, oIxA_tup, x3]
theorem grant_row_eq {M0 A : Mem} {i b : Nat} {K : Wf} {s : Ws} (hK : WfOk K) (h : FlAt M0 i A) (hb : A.length = b) (hbk : s.book.length ≤ 900) (hB : BkOk s.book) (hf : ∀ g ∈ s.book, g.f < 1000) (a : Option Ak) : ∃ A', FlAt M0 i A' ∧ A'.length = b ∧
    ((∃ g : Gr, grB g ∧ g.f < 1000 ∧ BkOk (s.book ++ [g]) ∧ g_law_grant_row [.ref i, .ref b, akO a] (A ++ wC K b s) = .ok (rwD (rowG s.tick g a)) (A' ++ wC K b { s with book := s.book ++ [g] })) ∨
     ∃ a', a = some a' ∧ g_law_grant_row [.ref i, .ref b, akO a] (A ++ wC K b s) = .ok (rwD (.no s.tick a' [103, 111, 110, 101])) (A' ++ wC K b s)) := by
  have hBd : B_law_grant_row = (mSeq (mPar 3 4 (aCons (mCall oLenA (aCons (mOp oIxA (mVar 1) (mC (.str [98, 111, 111, 107]))) aNil)) (aCons (mTup (aCons (mOp oIxA (mOp oIxA (mVar 1) (mC (.str [104, 111, 109, 101, 115]))) (mFun 2 g_law_draw [] (aCons (mVar 0) (aCons (mC (.int 3)) aNil)))) (aCons (mOp oIxA (mOp oIxA (mVar 1) (mC (.str [119, 111, 114, 100, 115]))) (mFun 2 g_law_draw [] (aCons (mVar 0) (aCons (mC (.int 2)) aNil)))) aNil))) aNil))) (mSeq (mSet 5 (mLc false [6, 7] (iEnumX (mOp oIxA (mVar 1) (mC (.str [98, 111, 111, 107])))) (gT 2 (gsCons (gN 6) (gsCons (gN 7) gsNil))) T_law_grant_row_0 C_law_grant_row_1)) (mSeq (mIfS (tAndM (bOf (mUn (oIsN true) (mVar 2))) (bOf (mOp (oEq false) (mVar 5) (mLst false aNil)))) (mRet (mTup (aCons (mC (.str [110, 111])) (aCons (mOp oIxA (mVar 1) (mC (.str [116, 105, 99, 107]))) (aCons (mVar 2) (aCons (mC (.str [103, 111, 110, 101])) aNil)))))) mPass) (mSeq (mSet 8 (mIf (tOrM (bOf (mOp (oEq false) (mVar 5) (mLst false aNil))) (tAndM (bOf (mUn (oIsN false) (mVar 2))) (bOf (mOp (oEq false) (mFun 2 g_law_draw [] (aCons (mVar 0) (aCons (mC (.int 2)) aNil))) (mC (.int 0)))))) (mC .non) (mOp oIxA (mVar 5) (mFun 2 g_law_draw [] (aCons (mVar 0) (aCons (mCall oLenA (aCons (mVar 5) aNil)) aNil)))))) (mSeq grS5 grS6))))) := rfl
  obtain ⟨v1, A1, b1, h1, e1⟩ := draw_app h (B := wC K b s) 3 (by omega) (by omega)
  obtain ⟨v2, A2, b2, h2, e2⟩ := draw_app h1 (B := wC K b s) 2 (by omega) (by omega)
  have l1 : A1.length = b := by rw [h1.len, ← h.len, hb]
  have l2 : A2.length = b := by rw [h2.len, ← h.len, hb]
  obtain ⟨hm, m1, m2, hx1⟩ := bw_at hK.homes v1 (by rw [hK.lh]; omega)
  obtain ⟨w, w1, w2, hx2⟩ := bw_at hK.words v2 (by rw [hK.lw]; omega)
  have hbn : D.tup [.str hm, .str w] = bnD (hm, w) := rfl
  have hen : enX (.ref (b + 3)) (A2 ++ wC K b s) = .ok ⟨numb (s.book.map grD), fun M' => M'[b + 3]? = some (.lst (s.book.map grD))⟩ (A2 ++ wC K b s) := enX_of (by rw [srcOf_refM, wG3 l2])
  have hfc := fars_comp (A := A2) (K := K) (b := b) (s := s) (fun M' => M'[b + 3]? = some (.lst (s.book.map grD))) (wG3 l2) (some (.ref i)) (some (.ref b)) (some (akO a)) (some (.int s.book.length)) (some (bnD (hm, w))) none
  have hll := farsL_len s.book
  have hnl : (numb (s.book.map grD)).length < 16777216 := by rw [numb_len, List.length_map]; omega
  have hmem := @farsL_mem s.book
  generalize farsL s.book = L at hfc hll hmem
  have q : ∀ M, oEq false (.lst (L.map fun k : Nat => D.int (k : Int))) (.lst []) M = .ok (.bl (false != (L.map fun k : Nat => D.int (k : Int)).isEmpty)) M := fun M => oEq_nil (n := 0) (plL_nat L) rfl
  have hlb : ∀ {A : Mem}, A.length = b → oLenA [.ref (b + 3)] (A ++ wC K b s) = .ok (.int s.book.length) (A ++ wC K b s) := fun {A} hA => by rw [oLenA_ref (wG3 hA), oLen_refM, wG3 hA]; simp
  have hlb' := hlb hb
  cases L with
  | nil =>
    have qn : ∀ M, oEq false (.lst []) (.lst []) M = .ok (.bl true) M := fun M => q M
    cases a with
    | some a =>
      refine ⟨A2, h2, l2, .inr ⟨a, rfl, runB_rt (N := 12) (?_ : B_law_grant_row [some (.ref i), some (.ref b), some (akO (some a)), none, none, none, none, none, none, none, none, none] (A ++ wC K b s) = _)⟩⟩
      have n0 : ∀ M, oIsN true (akO (some a)) M = .ok (.bl true) M := fun M => rfl
      have qt : (false != ([] : List Nat).isEmpty) = true := rfl
      rw [hBd]
      simp -implicitDefEqProofs (disch := first | assumption | omega | (simp only [List.length_cons, List.length_nil, List.length_append, List.length_map, List.length_take, List.length_drop, rngItems_len]; omega)) only [mSeq_eq, mIfS_eq, mSet_eq, mRet_eq, mRetN_eq, mExpr_eq, mPass_eq, mAsg_eq, mPar_eq, mAug_eq, bOf_eq, tOf_eq, tAndM_eq, tOrM_eq, tNotM_eq, tsYes_eq, mOp_eq, mUn_eq, mVar_eq, mC_eq, mCall_eq, mFun_eq, mFunKw_eq, mMeth_eq, mAnd_eq, mOr_eq, mNot_eq, mIf_eq, mChain_eq, mSl_eq, pNone_eq, pSome_eq, aCons_eq, aNil_eq, mTup_eq, mLst_eq, gN_eq, gT_eq, gsNil_eq, gsCons_eq, mkL_t, mkL_f, R.bind_ok, R.bind_no, R.nox_ok, List.getElem?_cons_zero, List.getElem?_cons_succ, List.set_cons_zero, List.set_cons_succ, List.length_cons, List.length_nil, List.append_nil, List.nil_append, List.cons_append, piApp_on, oLen_fz, oLen_lst, oLen_tup, oLt_int, oLe_int, oGt_int, oGe_int, oAdd_int, oSub_int, oIx_fz, oIx_lst, oIx_tup, oMax_int, oMin_int, oInt_bl, oInt_int, oIsi_bl, oNeg_int, oTuple_lst, oTuple_tup, iR1_eq, iR2_eq, iSq_eq, iStrM_eq, srcOf_tup, srcOf_lst, srcOf_fz, if_true, if_false, Bool.false_eq_true, Bool.true_eq_false, reduceIte, Nat.reduceAdd, Nat.reduceLeDiff, Nat.reduceEqDiff, Bool.not_true, Bool.not_false, decide_true, decide_false, and_self, and_true, true_and, oMod_int, oMul_r, oMul_l, oLen_str, oAdd_str, oSl_str, oSl_tup, oSl_lst, oSl_fz, rngOk_of, oEq_int, oEq_bl, beq_self_eq_true, Int.toNat_natCast, mFor_eq, mLc_eq, app_get0, app_get1, app_set0, app_set1, tyOk, oTuple_ref, oList_ref, oLen_refM, oIx_refM, oAppM, oExtM, srcOf_refM, ifLt24, ifLe24, wI_book, hlb', wI_homes, e1, oIxA_lst, hx1, wI_words, e2, hx2, hbn, iEnumX_eq, hen, hnl, wipe67, hfc, n0, qn, List.map_nil, wI_tick]
      all_goals rfl
    | none =>
      obtain ⟨w', v', A3, bw', v8, h3, l3, e3⟩ := grS5_none (K := K) (s := s) hK h2 l2 (some (akO none)) (some (.int s.book.length)) (some (bnD (hm, w))) (some (.lst []))
      obtain ⟨g, A4, g1, g2, g3, gf, h4, l4, e4⟩ := grant_end (K := K) (s := s) h3 l3 (by omega) none s.book.length (hm, w) (K.here, w') ⟨m2, w2⟩ ⟨hK.here, bw'⟩ K.rights (.lst (K.rights.map .str)) (fun M => rfl) (by rw [hK.lr]; omega) (by rw [hK.lr]; omega) hK.rights (1 + (v' : Int)) (by omega) (by omega) none trivial (by omega) none
      refine ⟨A4, h4, l4, .inl ⟨g, g1, ?_, hB.snoc g1 g2 (fun p hp => by rw [g3] at hp; cases hp), runB_rt (N := 12) (?_ : B_law_grant_row [some (.ref i), some (.ref b), some (akO none), none, none, none, none, none, none, none, none, none] (A ++ wC K b s) = _)⟩⟩
      · omega
      · have n0 : ∀ M, oIsN true (akO none) M = .ok (.bl false) M := fun M => rfl
        have e4' : grS6 [some (.ref i), some (.ref b), some (akO none), some (.int s.book.length), some (bnD (hm, w)), some (.int (1 + (v' : Int))), none, none, some .non, some (bnD (K.here, w')), some (.lst (K.rights.map .str)), none] (A3 ++ wC K b s) = _ := e4
        rw [hBd]
        simp -implicitDefEqProofs (disch := first | assumption | omega | (simp only [List.length_cons, List.length_nil, List.length_append, List.length_map, List.length_take, List.length_drop, rngItems_len]; omega)) only [mSeq_eq, mIfS_eq, mSet_eq, mRet_eq, mRetN_eq, mExpr_eq, mPass_eq, mAsg_eq, mPar_eq, mAug_eq, bOf_eq, tOf_eq, tAndM_eq, tOrM_eq, tNotM_eq, tsYes_eq, mOp_eq, mUn_eq, mVar_eq, mC_eq, mCall_eq, mFun_eq, mFunKw_eq, mMeth_eq, mAnd_eq, mOr_eq, mNot_eq, mIf_eq, mChain_eq, mSl_eq, pNone_eq, pSome_eq, aCons_eq, aNil_eq, mTup_eq, mLst_eq, gN_eq, gT_eq, gsNil_eq, gsCons_eq, mkL_t, mkL_f, R.bind_ok, R.bind_no, R.nox_ok, List.getElem?_cons_zero, List.getElem?_cons_succ, List.set_cons_zero, List.set_cons_succ, List.length_cons, List.length_nil, List.append_nil, List.nil_append, List.cons_append, piApp_on, oLen_fz, oLen_lst, oLen_tup, oLt_int, oLe_int, oGt_int, oGe_int, oAdd_int, oSub_int, oIx_fz, oIx_lst, oIx_tup, oMax_int, oMin_int, oInt_bl, oInt_int, oIsi_bl, oNeg_int, oTuple_lst, oTuple_tup, iR1_eq, iR2_eq, iSq_eq, iStrM_eq, srcOf_tup, srcOf_lst, srcOf_fz, if_true, if_false, Bool.false_eq_true, Bool.true_eq_false, reduceIte, Nat.reduceAdd, Nat.reduceLeDiff, Nat.reduceEqDiff, Bool.not_true, Bool.not_false, decide_true, decide_false, and_self, and_true, true_and, oMod_int, oMul_r, oMul_l, oLen_str, oAdd_str, oSl_str, oSl_tup, oSl_lst, oSl_fz, rngOk_of, oEq_int, oEq_bl, beq_self_eq_true, Int.toNat_natCast, mFor_eq, mLc_eq, app_get0, app_get1, app_set0, app_set1, tyOk, oTuple_ref, oList_ref, oLen_refM, oIx_refM, oAppM, oExtM, srcOf_refM, ifLt24, ifLe24, wI_book, hlb', wI_homes, e1, oIxA_lst, hx1, wI_words, e2, hx2, hbn, iEnumX_eq, hen, hnl, wipe67, hfc, n0, qn, List.map_nil, e3, e4']
        all_goals rfl
  | cons k0 L =>
    have some_case : ∀ (A2 : Mem) (X : D) (hX : X = akO a) (h2 : FlAt M0 i A2) (l2 : A2.length = b) (v : Nat) (hv : (v : Int) < (k0 :: L).length), ∃ (k : Nat) (g : Gr) (A4 : Mem), atI ((k0 :: L).map fun k : Nat => D.int (k : Int)) (v : Int) = some (.int k) ∧ grB g ∧ g.f < 1000 ∧ BkOk (s.book ++ [g]) ∧ FlAt M0 i A4 ∧ A4.length = b ∧
      ∃ env, grS5 [some (.ref i), some (.ref b), some X, some (.int s.book.length), some (bnD (hm, w)), some (.lst ((k0 :: L).map fun k : Nat => D.int (k : Int))), none, none, some (.int k), none, none, none] (A2 ++ wC K b s) = .ok (.nx env) (A2 ++ wC K b s) ∧ grS6 env (A2 ++ wC K b s) = .ok (.rt (rwD (rowG s.tick g a))) (A4 ++ wC K b { s with book := s.book ++ [g] }) := by
      intro A2 X hX h2 l2 v hv
      subst hX
      have hv' : v < (k0 :: L).length := by omega
      obtain ⟨gp, hgp, gpf⟩ := hmem (List.getElem_mem hv')
      have hat : atI ((k0 :: L).map fun k : Nat => D.int (k : Int)) (v : Int) = some (.int ((k0 :: L)[v])) := atI_nat (by rw [List.getElem?_map, List.getElem?_eq_getElem hv']; rfl)
      generalize (k0 :: L)[v] = k at hgp hat
      obtain ⟨gpb, gpn, _⟩ := hB k gp hgp
      have e5 := grS5_some (i := i) (K := K) l2 hgp (some (akO a)) (some (.int s.book.length)) (some (bnD (hm, w))) (some (.lst ((k0 :: L).map fun k : Nat => D.int (k : Int))))
      have kl : k < s.book.length := (List.getElem?_eq_some_iff.mp hgp).1
      obtain ⟨g, A4, g1, g2, g3, gf, h4, l4, e4⟩ := grant_end (K := K) (s := s) h2 l2 (by omega) a s.book.length (hm, w) gp.p ⟨m2, w2⟩ gpb.p gp.r (.tup (gp.r.map .str)) (fun M => rfl) gpb.r0 (by have := gpb.r4; omega) gpb.r gp.f gpf (hf gp (List.mem_of_getElem? hgp)) (some (k : Int)) ⟨by omega, by omega⟩ (by omega) (some (.int gp.n))
      exact ⟨k, g, A4, hat, g1, by have := hf gp (List.mem_of_getElem? hgp); omega, hB.snoc g1 g2 (fun p hp => by rw [g3] at hp; cases hp; omega), h4, l4, _, e5, e4⟩
    have q' : ∀ M, oEq false (.lst ((k0 :: L).map fun k : Nat => D.int (k : Int))) (.lst []) M = .ok (.bl false) M := fun M => by rw [q]; rfl
    have hlen : ∀ M, oLenA [.lst ((k0 :: L).map fun k : Nat => D.int (k : Int))] M = .ok (.int ((k0 :: L).length : Nat)) M := fun M => by rw [oLenA_lst, oLen_lst, List.length_map]
    have hpos : (0 : Int) < ((k0 :: L).length : Nat) := by rw [List.length_cons]; omega
    have hsm : (((k0 :: L).length : Nat) : Int) < 1000000000000000000000000 := by omega
    generalize hFL : (k0 :: L).map (fun k : Nat => D.int (k : Int)) = FL at *
    generalize (k0 :: L).length = nl at *
    cases a with
    | some a =>
      obtain ⟨v3, A3, b3, h3, e3⟩ := draw_app h2 (B := wC K b s) (nl : Int) hpos hsm
      have l3 : A3.length = b := by rw [h3.len, ← h.len, hb]
      obtain ⟨k, g, A4, hat, g1, g2, g3, h4, l4, env, e5, e6⟩ := some_case A3 (akO (some a)) rfl h3 l3 v3 b3
      refine ⟨A4, h4, l4, .inl ⟨g, g1, g2, g3, runB_rt (N := 12) (?_ : B_law_grant_row [some (.ref i), some (.ref b), some (akO (some a)), none, none, none, none, none, none, none, none, none] (A ++ wC K b s) = _)⟩⟩
      have n0 : ∀ M, oIsN true (akO (some a)) M = .ok (.bl true) M := fun M => rfl
      have n1 : ∀ M, oIsN false (akO (some a)) M = .ok (.bl false) M := fun M => rfl
      generalize akO (some a) = z at *
      rw [hBd]
      simp -implicitDefEqProofs (disch := first | assumption | omega | (simp only [List.length_cons, List.length_nil, List.length_append, List.length_map, List.length_take, List.length_drop, rngItems_len]; omega)) only [mSeq_eq, mIfS_eq, mSet_eq, mRet_eq, mRetN_eq, mExpr_eq, mPass_eq, mAsg_eq, mPar_eq, mAug_eq, bOf_eq, tOf_eq, tAndM_eq, tOrM_eq, tNotM_eq, tsYes_eq, mOp_eq, mUn_eq, mVar_eq, mC_eq, mCall_eq, mFun_eq, mFunKw_eq, mMeth_eq, mAnd_eq, mOr_eq, mNot_eq, mIf_eq, mChain_eq, mSl_eq, pNone_eq, pSome_eq, aCons_eq, aNil_eq, mTup_eq, mLst_eq, gN_eq, gT_eq, gsNil_eq, gsCons_eq, mkL_t, mkL_f, R.bind_ok, R.bind_no, R.nox_ok, List.getElem?_cons_zero, List.getElem?_cons_succ, List.set_cons_zero, List.set_cons_succ, List.length_cons, List.length_nil, List.append_nil, List.nil_append, List.cons_append, piApp_on, oLen_fz, oLen_lst, oLen_tup, oLt_int, oLe_int, oGt_int, oGe_int, oAdd_int, oSub_int, oIx_fz, oIx_lst, oIx_tup, oMax_int, oMin_int, oInt_bl, oInt_int, oIsi_bl, oNeg_int, oTuple_lst, oTuple_tup, iR1_eq, iR2_eq, iSq_eq, iStrM_eq, srcOf_tup, srcOf_lst, srcOf_fz, if_true, if_false, Bool.false_eq_true, Bool.true_eq_false, reduceIte, Nat.reduceAdd, Nat.reduceLeDiff, Nat.reduceEqDiff, Bool.not_true, Bool.not_false, decide_true, decide_false, and_self, and_true, true_and, oMod_int, oMul_r, oMul_l, oLen_str, oAdd_str, oSl_str, oSl_tup, oSl_lst, oSl_fz, rngOk_of, oEq_int, oEq_bl, beq_self_eq_true, Int.toNat_natCast, mFor_eq, mLc_eq, app_get0, app_get1, app_set0, app_set1, tyOk, oTuple_ref, oList_ref, oLen_refM, oIx_refM, oAppM, oExtM, srcOf_refM, ifLt24, ifLe24, wI_book, hlb', wI_homes, e1, oIxA_lst, hx1, wI_words, e2, hx2, hbn, iEnumX_eq, hen, hnl, wipe67, hfc, n0, n1, q', hlen, e3, hat, e5, e6]
    | none =>
      obtain ⟨u3, B3, c3, k3, d3⟩ := draw_app h2 (B := wC K b s) 2 (by omega) (by omega)
      have lB : B3.length = b := by rw [k3.len, ← h.len, hb]
      by_cases c : u3 = 0
      · subst c
        obtain ⟨w', v', A3, bw', v8, h3, l3, e3⟩ := grS5_none (K := K) (s := s) hK k3 lB (some (akO none)) (some (.int s.book.length)) (some (bnD (hm, w))) (some (.lst FL))
        obtain ⟨g, A4, g1, g2, g3, gf, h4, l4, e4⟩ := grant_end (K := K) (s := s) h3 l3 (by omega) none s.book.length (hm, w) (K.here, w') ⟨m2, w2⟩ ⟨hK.here, bw'⟩ K.rights (.lst (K.rights.map .str)) (fun M => rfl) (by rw [hK.lr]; omega) (by rw [hK.lr]; omega) hK.rights (1 + (v' : Int)) (by omega) (by omega) none trivial (by omega) none
        refine ⟨A4, h4, l4, .inl ⟨g, g1, by omega, hB.snoc g1 g2 (fun p hp => by rw [g3] at hp; cases hp), runB_rt (N := 12) (?_ : B_law_grant_row [some (.ref i), some (.ref b), some (akO none), none, none, none, none, none, none, none, none, none] (A ++ wC K b s) = _)⟩⟩
        have n0 : ∀ M, oIsN true (akO none) M = .ok (.bl false) M := fun M => rfl
        have n1 : ∀ M, oIsN false (akO none) M = .ok (.bl true) M := fun M => rfl
        have e4' : grS6 [some (.ref i), some (.ref b), some (akO none), some (.int s.book.length), some (bnD (hm, w)), some (.int (1 + (v' : Int))), none, none, some .non, some (bnD (K.here, w')), some (.lst (K.rights.map .str)), none] (A3 ++ wC K b s) = _ := e4
        have z0 : (((0 : Nat) : Int) == 0) = true := rfl
        generalize akO none = z at *
        rw [hBd]
        simp -implicitDefEqProofs (disch := first | assumption | omega | (simp only [List.length_cons, List.length_nil, List.length_append, List.length_map, List.length_take, List.length_drop, rngItems_len]; omega)) only [mSeq_eq, mIfS_eq, mSet_eq, mRet_eq, mRetN_eq, mExpr_eq, mPass_eq, mAsg_eq, mPar_eq, mAug_eq, bOf_eq, tOf_eq, tAndM_eq, tOrM_eq, tNotM_eq, tsYes_eq, mOp_eq, mUn_eq, mVar_eq, mC_eq, mCall_eq, mFun_eq, mFunKw_eq, mMeth_eq, mAnd_eq, mOr_eq, mNot_eq, mIf_eq, mChain_eq, mSl_eq, pNone_eq, pSome_eq, aCons_eq, aNil_eq, mTup_eq, mLst_eq, gN_eq, gT_eq, gsNil_eq, gsCons_eq, mkL_t, mkL_f, R.bind_ok, R.bind_no, R.nox_ok, List.getElem?_cons_zero, List.getElem?_cons_succ, List.set_cons_zero, List.set_cons_succ, List.length_cons, List.length_nil, List.append_nil, List.nil_append, List.cons_append, piApp_on, oLen_fz, oLen_lst, oLen_tup, oLt_int, oLe_int, oGt_int, oGe_int, oAdd_int, oSub_int, oIx_fz, oIx_lst, oIx_tup, oMax_int, oMin_int, oInt_bl, oInt_int, oIsi_bl, oNeg_int, oTuple_lst, oTuple_tup, iR1_eq, iR2_eq, iSq_eq, iStrM_eq, srcOf_tup, srcOf_lst, srcOf_fz, if_true, if_false, Bool.false_eq_true, Bool.true_eq_false, reduceIte, Nat.reduceAdd, Nat.reduceLeDiff, Nat.reduceEqDiff, Bool.not_true, Bool.not_false, decide_true, decide_false, and_self, and_true, true_and, oMod_int, oMul_r, oMul_l, oLen_str, oAdd_str, oSl_str, oSl_tup, oSl_lst, oSl_fz, rngOk_of, oEq_int, oEq_bl, beq_self_eq_true, Int.toNat_natCast, mFor_eq, mLc_eq, app_get0, app_get1, app_set0, app_set1, tyOk, oTuple_ref, oList_ref, oLen_refM, oIx_refM, oAppM, oExtM, srcOf_refM, ifLt24, ifLe24, wI_book, hlb', wI_homes, e1, oIxA_lst, hx1, wI_words, e2, hx2, hbn, iEnumX_eq, hen, hnl, wipe67, hfc, n0, n1, q', d3, z0, e3, e4']
      · obtain ⟨v3, A3, b3, h3, e3⟩ := draw_app k3 (B := wC K b s) (nl : Int) hpos hsm
        have l3 : A3.length = b := by rw [h3.len, ← h.len, hb]
        obtain ⟨k, g, A4, hat, g1, g2, g3, h4, l4, env, e5, e6⟩ := some_case A3 (akO none) rfl h3 l3 v3 b3
        refine ⟨A4, h4, l4, .inl ⟨g, g1, g2, g3, runB_rt (N := 12) (?_ : B_law_grant_row [some (.ref i), some (.ref b), some (akO none), none, none, none, none, none, none, none, none, none] (A ++ wC K b s) = _)⟩⟩
        have n0 : ∀ M, oIsN true (akO none) M = .ok (.bl false) M := fun M => rfl
        have n1 : ∀ M, oIsN false (akO none) M = .ok (.bl true) M := fun M => rfl
        have z0 : (((u3 : Nat) : Int) == 0) = false := by simp; omega
        generalize akO none = z at *
        rw [hBd]
        simp -implicitDefEqProofs (disch := first | assumption | omega | (simp only [List.length_cons, List.length_nil, List.length_append, List.length_map, List.length_take, List.length_drop, rngItems_len]; omega)) only [mSeq_eq, mIfS_eq, mSet_eq, mRet_eq, mRetN_eq, mExpr_eq, mPass_eq, mAsg_eq, mPar_eq, mAug_eq, bOf_eq, tOf_eq, tAndM_eq, tOrM_eq, tNotM_eq, tsYes_eq, mOp_eq, mUn_eq, mVar_eq, mC_eq, mCall_eq, mFun_eq, mFunKw_eq, mMeth_eq, mAnd_eq, mOr_eq, mNot_eq, mIf_eq, mChain_eq, mSl_eq, pNone_eq, pSome_eq, aCons_eq, aNil_eq, mTup_eq, mLst_eq, gN_eq, gT_eq, gsNil_eq, gsCons_eq, mkL_t, mkL_f, R.bind_ok, R.bind_no, R.nox_ok, List.getElem?_cons_zero, List.getElem?_cons_succ, List.set_cons_zero, List.set_cons_succ, List.length_cons, List.length_nil, List.append_nil, List.nil_append, List.cons_append, piApp_on, oLen_fz, oLen_lst, oLen_tup, oLt_int, oLe_int, oGt_int, oGe_int, oAdd_int, oSub_int, oIx_fz, oIx_lst, oIx_tup, oMax_int, oMin_int, oInt_bl, oInt_int, oIsi_bl, oNeg_int, oTuple_lst, oTuple_tup, iR1_eq, iR2_eq, iSq_eq, iStrM_eq, srcOf_tup, srcOf_lst, srcOf_fz, if_true, if_false, Bool.false_eq_true, Bool.true_eq_false, reduceIte, Nat.reduceAdd, Nat.reduceLeDiff, Nat.reduceEqDiff, Bool.not_true, Bool.not_false, decide_true, decide_false, and_self, and_true, true_and, oMod_int, oMul_r, oMul_l, oLen_str, oAdd_str, oSl_str, oSl_tup, oSl_lst, oSl_fz, rngOk_of, oEq_int, oEq_bl, beq_self_eq_true, Int.toNat_natCast, mFor_eq, mLc_eq, app_get0, app_get1, app_set0, app_set1, tyOk, oTuple_ref, oList_ref, oLen_refM, oIx_refM, oAppM, oExtM, srcOf_refM, ifLt24, ifLe24, wI_book, hlb', wI_homes, e1, oIxA_lst, hx1, wI_words, e2, hx2, hbn, iEnumX_eq, hen, hnl, wipe67, hfc, n0, n1, q', d3, z0, hlen, e3, hat, e5, e6]
structure WsOk (k : Nat) (s : Ws) : Prop where
  bk : BkOk s.book
  bf : ∀ g ∈ s.book, g.f < 1000
  lb : s.book.length ≤ k
  lt : s.there.length ≤ k
  lo : s.opn.length ≤ k
  c0 : 0 ≤ s.came
  ck : s.came ≤ k
  a0 : 0 ≤ s.asks
  ak : s.asks ≤ k
  tk : inB s.tick
  th : ∀ x ∈ s.there, bnB x.1 ∧ inB x.2
  ob : ∀ c ∈ s.opn, inB c
def RowEff (s s' : Ws) : Rw → Prop
  | .put _ b _ n _ _ _ _ => (∃ p : Nat, (∀ q : Nat, q < p → (b, (q : Int)) ∈ s.there) ∧ ¬ (b, (p : Int)) ∈ s.there ∧ s'.there = s.there ++ [(b, (p : Int))]) ∧ s'.came = s.came + 1 ∧ numOf s'.came n ∧ s'.opn = s.opn ∧ s'.asks = s.asks
  | .drop _ b p => (b, p) ∈ s.there ∧ s'.there = s.there.filter (fun x => decide (x ≠ (b, p))) ∧ s'.came = s.came ∧ s'.opn = s.opn ∧ s'.asks = s.asks
  | .ask _ c _ => c = s.asks ∧ s'.asks = s.asks + 1 ∧ s'.opn = s.opn ++ [c] ∧ s'.there = s.there ∧ s'.came = s.came
  | .answer _ c _ => c ∈ s.opn ∧ (∀ x ∈ s'.opn, x ∈ s.opn) ∧ s'.asks = s.asks ∧ s'.there = s.there ∧ s'.came = s.came
  | _ => s'.there = s.there ∧ s'.came = s.came ∧ s'.opn = s.opn ∧ s'.asks = s.asks
/-- a row is made: the world behind it (the row not yet among the lines) -/
structure RowSt (c k : Nat) (s s' : Ws) (r : Rw) : Prop where
  ln : s'.lines = s.lines
  tk : s'.tick = s.tick
  ok : rwB r
  ws : WsOk (k + 1) s'
  ef : RowEff s s' r
  ak : s'.asked.length ≤ s.asked.length + c
theorem WsOk.mono {k m : Nat} {s : Ws} (h : WsOk k s) (l : k ≤ m) : WsOk m s :=
  ⟨h.bk, h.bf, Nat.le_trans h.lb l, Nat.le_trans h.lt l, Nat.le_trans h.lo l, h.c0, by have := h.ck; omega, h.a0, by have := h.ak; omega, h.tk, h.th, h.ob⟩
def thD (k : Bn × Int) : D := .tup [bnD k.1, .int k.2]
theorem ndD_th (k : Bn × Int) : ndD (thK k) = thD k := by simp [ndD, ndL, thK, thD, bnD]
theorem sortOk_th (l : List (Bn × Int)) : sortOk (l.map thD) := by
  refine ⟨fun d hd => ?_, fun d hd d' hd' => ?_, .inl fun d hd => ?_⟩
  · obtain ⟨n, _, rfl⟩ := List.mem_map.mp hd
    refine ⟨rfl, ?_⟩
    show (PyData.tuple [.tuple [.str _, .str _], .int _]).depth ≤ 60
    simp [PyData.depth, PyData.depthAll]
  · obtain ⟨n, _, rfl⟩ := List.mem_map.mp hd
    obtain ⟨n', _, rfl⟩ := List.mem_map.mp hd'
    rfl
  · obtain ⟨n, _, rfl⟩ := List.mem_map.mp hd
    rfl
theorem map_inL {α : Type} {mk : α → D} {P : α → Prop} : ∀ {l : List D}, (∀ d ∈ l, ∃ x, P x ∧ d = mk x) → ∃ xs : List α, l = xs.map mk ∧ ∀ x ∈ xs, P x
  | [], _ => ⟨[], rfl, fun x h => by cases h⟩
  | d :: r, h => by
    obtain ⟨x, px, rfl⟩ := h d (List.mem_cons_self ..)
    obtain ⟨xs, rfl, pxs⟩ := map_inL (mk := mk) (P := P) (l := r) fun d hd => h d (List.mem_cons_of_mem _ hd)
    exact ⟨x :: xs, rfl, fun y hy => by
      rcases List.mem_cons.mp hy with rfl | hy
      · exact px
      · exact pxs y hy⟩
theorem sort_th (l : List (Bn × Int)) : ∃ xs : List (Bn × Int), sortD (l.map thD) = xs.map thD ∧ (∀ x ∈ xs, x ∈ l) ∧ xs.length = l.length := by
  have p := sortD_perm (l.map thD)
  obtain ⟨xs, e, h⟩ := map_inL (mk := thD) (P := fun x => x ∈ l) (l := sortD (l.map thD)) fun d hd => by
    obtain ⟨x, hx, rfl⟩ := List.mem_map.mp (p.mem_iff.mp hd)
    exact ⟨x, hx, rfl⟩
  refine ⟨xs, e, h, ?_⟩
  have := p.length_eq
  rw [e, List.length_map, List.length_map] at this
  exact this
theorem plL_th (l : List (Bn × Int)) : PlL 2 (l.map thD) := fun d hd => by
  obtain ⟨x, _, rfl⟩ := List.mem_map.mp hd
  exact (Px.tup (n := 1) (PxL.cons (Px.tup (n := 0) (PxL.cons (Px.str _) (PxL.cons (Px.str _) PxL.nil))) (PxL.cons (Px.int _) PxL.nil))).pl
theorem plL_grs (l : List Gr) : ∃ n, PlL n (l.map grD) := ⟨2, fun d hd => by
  obtain ⟨g, _, rfl⟩ := List.mem_map.mp hd
  refine (Px.tup (n := 1) (PxL.cons (Px.int _) (PxL.cons (Px.tup (n := 0) (PxL.cons (Px.str _) (PxL.cons (Px.str _) PxL.nil))) (PxL.cons (Px.tup (n := 0) (pxL_str _)) (PxL.cons (Px.int _) (PxL.cons (Px.tup (n := 0) (PxL.cons (Px.str _) (PxL.cons (Px.str _) PxL.nil))) (PxL.cons ?_ PxL.nil))))))).pl
  cases g.pa with
  | none => exact Px.non
  | some x => exact Px.int x⟩
section
variable {A : Mem} {K : Wf} {b : Nat} {s : Ws}
theorem eq_book (h : A.length = b) (ne : Bool) : oEq ne (.ref (b + 3)) (.lst []) (A ++ wC K b s) = .ok (.bl (ne != s.book.isEmpty)) (A ++ wC K b s) := by
  obtain ⟨n, hn⟩ := plL_grs s.book
  rw [oEq_nil hn (lstOf_at (wG3 h))]
  cases s.book <;> rfl
theorem eq_open (h : A.length = b) (ne : Bool) : oEq ne (.ref (b + 4)) (.lst []) (A ++ wC K b s) = .ok (.bl (ne != s.opn.isEmpty)) (A ++ wC K b s) := by
  have hn : PlL 0 (s.opn.map .int) := fun d hd => by
    obtain ⟨x, _, rfl⟩ := List.mem_map.mp hd
    exact Pl.int _
  rw [oEq_nil hn (lstOf_at (wG4 h))]
  cases s.opn <;> rfl
theorem len_book (h : A.length = b) : oLenA [.ref (b + 3)] (A ++ wC K b s) = .ok (.int (s.book.length : Nat)) (A ++ wC K b s) := by rw [oLenA_ref (wG3 h), oLen_refM, wG3 h]; simp
theorem len_open (h : A.length = b) : oLenA [.ref (b + 4)] (A ++ wC K b s) = .ok (.int (s.opn.length : Nat)) (A ++ wC K b s) := by rw [oLenA_ref (wG4 h), oLen_refM, wG4 h]; simp
theorem len_lines (h : A.length = b) : oLenA [.ref (b + 1)] (A ++ wC K b s) = .ok (.int (s.lines.length : Nat)) (A ++ wC K b s) := by rw [oLenA_ref (wG1 h), oLen_refM, wG1 h]; simp
theorem sort_there (h : A.length = b) (hl : s.there.length ≤ 1000) : ∃ xs : List (Bn × Int), (∀ x ∈ xs, x ∈ s.there) ∧ xs.length = s.there.length ∧ oListA false [.ref (b + 2)] (A ++ wC K b s) = .ok (.lst (s.there.map thD)) (A ++ wC K b s) ∧ oSorted false [.lst (s.there.map thD)] (A ++ wC K b s) = .ok (.lst (xs.map thD)) (A ++ wC K b s) := by
  obtain ⟨xs, e, h1, h2⟩ := sort_th s.there
  refine ⟨xs, h1, h2, ?_, ?_⟩
  · have e1 : (thN s.there).map (fun kv => ndD kv.1) = s.there.map thD := by
      rw [thN, List.map_map]
      exact List.map_congr_left fun x _ => ndD_th x
    rw [oListA_dn (wG2 h), e1, mkL_f]
  · have e2 : lstOf (A ++ wC K b s) (.lst (s.there.map thD)) = some (s.there.map thD) := rfl
    simp only [oSorted, e2, sortOk_th, if_true, e, mkL_f]
end
theorem eraseIdx_mapD {α : Type} (f : α → D) : ∀ (l : List α) (v : Nat), (l.map f).eraseIdx v = (l.eraseIdx v).map f
  | [], _ => rfl
  | x :: r, 0 => rfl
  | x :: r, v + 1 => by simp only [List.map_cons, List.eraseIdx_cons_succ, eraseIdx_mapD f r v]
section
variable {A : Mem} {K : Wf} {b : Nat} {s : Ws}
theorem wS4a {c : Int} (h : A.length = b) : (A ++ wC K b s).set (b + 4) (.lst (s.opn.map .int ++ [.int c])) = A ++ wC K b { s with opn := s.opn ++ [c] } := by
  rw [show s.opn.map D.int ++ [.int c] = (s.opn ++ [c]).map D.int by rw [List.map_append]; rfl, wS4 h]
theorem pop_open (h : A.length = b) {v : Nat} (hv : v < s.opn.length) (hl : s.opn.length ≤ 1000) : oPopAt (.ref (b + 4)) [.int v] (A ++ wC K b s) = .ok (.int s.opn[v]) (A ++ wC K b { s with opn := s.opn.eraseIdx v }) := by
  have e63 : (2 : Int) ^ 63 = 9223372036854775808 := by decide +kernel
  have hm : (s.opn.map D.int)[v]? = some (.int s.opn[v]) := by rw [List.getElem?_map, List.getElem?_eq_getElem hv]; rfl
  simp only [oPopAt, wG4 h, ixN_nat (show v < (s.opn.map D.int).length by rw [List.length_map]; exact hv), hm, e63]
  rw [if_pos (by omega), eraseIdx_mapD, wS4 h]
end
theorem own_ask_eq {M0 A : Mem} {i b k : Nat} {K : Wf} {s : Ws} (r : FD) (hK : WfOk K) (h : FlAt M0 i A) (hb : A.length = b) (w : WsOk k s) (hk : k ≤ 90) (f : Int) (hf : f = 1 ∨ (f = 0 ∧ s.opn = [])) : ∃ (rw : Rw) (s' : Ws) (A' : Mem), RowSt 0 k s s' rw ∧ FlAt M0 i A' ∧ A'.length = b ∧
    runB (B_law_own_row r) 8 [.ref i, .ref b, .int f] (A ++ wC K b s) = .ok (rwD rw) (A' ++ wC K b s') := by
  obtain ⟨s1, hs1⟩ : ∃ s1 : Ws, { s with asks := s.asks + 1 } = s1 := ⟨_, rfl⟩
  obtain ⟨s2, hs2⟩ : ∃ s2 : Ws, { s1 with opn := s1.opn ++ [s.asks] } = s2 := ⟨_, rfl⟩
  obtain ⟨x, A1, hx, h1, e1⟩ := what_app h (B := wC K b s2) K.homes hK.homes hK.lh
  have l1 : A1.length = b := by rw [h1.len, ← h.len, hb]
  have hlo := w.lo
  have ha0 := w.a0
  have hak := w.ak
  have hs : s2 = { s with asks := s.asks + 1, opn := s.opn ++ [s.asks] } := by rw [← hs2, ← hs1]
  refine ⟨.ask s.tick s.asks x, s2, A1, ⟨by rw [hs], by rw [hs], ⟨w.tk, ⟨ha0, by omega⟩, hx⟩, ?_, by rw [hs]; exact ⟨rfl, rfl, rfl, rfl, rfl⟩, by rw [hs]; simp⟩, h1, l1, runB_rt (N := 8) (?_ : B_law_own_row r [some (.ref i), some (.ref b), some (.int f), none, none, none, none, none] (A ++ wC K b s) = _)⟩
  · rw [hs]
    exact ⟨w.bk, w.bf, by have := w.lb; simp; omega, by have := w.lt; simp; omega, by simp; omega, w.c0, by have := w.ck; simp; omega, by simp; omega, by simp; omega, w.tk, w.th, fun c hc => by
      rcases List.mem_append.mp hc with z | z
      · exact w.ob c z
      · rw [List.mem_singleton.mp z]; exact ⟨ha0, by omega⟩⟩
  · have p1 : sPut (A ++ wC K b s) (.ref b) (.str [97, 115, 107, 115]) (.int (s.asks + 1)) = some (A ++ wC K b s1) := by rw [wP_asks hb, hs1]
    have a1 : s1.asks = s.asks + 1 := by rw [← hs1]
    have a2 : s2.asks = s.asks + 1 := by rw [hs]
    have sub1 : s.asks + 1 - 1 = s.asks := by omega
    have o1 : s1.opn = s.opn := by rw [← hs1]
    have hl1 : (s1.opn.map D.int).length < 16777216 := by rw [o1, List.length_map]; omega
    have w4 : (A ++ wC K b s1).set (b + 4) (.lst (s1.opn.map .int ++ [.int s.asks])) = A ++ wC K b s2 := by rw [wS4a hb, hs2]
    have lt2 : f < 2 := by omega
    have q0 := eq_open (K := K) (s := s) hb true
    rcases hf with rfl | ⟨rfl, ho⟩
    · have z1 : ((1 : Int) == 0) = false := rfl
      simp -implicitDefEqProofs (disch := first | assumption | omega | (simp only [List.length_cons, List.length_nil, List.length_append, List.length_map, List.length_take, List.length_drop, rngItems_len]; omega)) only [mSeq_eq, mIfS_eq, mSet_eq, mRet_eq, mRetN_eq, mExpr_eq, mPass_eq, mAsg_eq, mPar_eq, mAug_eq, bOf_eq, tOf_eq, tAndM_eq, tOrM_eq, tNotM_eq, tsYes_eq, mOp_eq, mUn_eq, mVar_eq, mC_eq, mCall_eq, mFun_eq, mFunKw_eq, mMeth_eq, mAnd_eq, mOr_eq, mNot_eq, mIf_eq, mChain_eq, mSl_eq, pNone_eq, pSome_eq, aCons_eq, aNil_eq, mTup_eq, mLst_eq, gN_eq, gT_eq, gsNil_eq, gsCons_eq, mkL_t, mkL_f, R.bind_ok, R.bind_no, R.nox_ok, List.getElem?_cons_zero, List.getElem?_cons_succ, List.set_cons_zero, List.set_cons_succ, List.length_cons, List.length_nil, List.append_nil, List.nil_append, List.cons_append, piApp_on, oLen_fz, oLen_lst, oLen_tup, oLt_int, oLe_int, oGt_int, oGe_int, oAdd_int, oSub_int, oIx_fz, oIx_lst, oIx_tup, oMax_int, oMin_int, oInt_bl, oInt_int, oIsi_bl, oNeg_int, oTuple_lst, oTuple_tup, iR1_eq, iR2_eq, iSq_eq, iStrM_eq, srcOf_tup, srcOf_lst, srcOf_fz, if_true, if_false, Bool.false_eq_true, Bool.true_eq_false, reduceIte, Nat.reduceAdd, Nat.reduceLeDiff, Nat.reduceEqDiff, Bool.not_true, Bool.not_false, decide_true, decide_false, and_self, and_true, true_and, oMod_int, oMul_r, oMul_l, oLen_str, oAdd_str, oSl_str, oSl_tup, oSl_lst, oSl_fz, rngOk_of, oEq_int, oEq_bl, beq_self_eq_true, Int.toNat_natCast, mFor_eq, mLc_eq, app_get0, app_get1, app_set0, app_set1, tyOk, oTuple_ref, oList_ref, oLen_refM, oIx_refM, oAppM, oExtM, srcOf_refM, ifLt24, ifLe24, B_law_own_row, wI_tick, z1, decide_eq_true lt2, wI_asks, gIxA_eq, p1, wI_open, wG4, hl1, a1, sub1, w4, a2, wI_homes, e1]
      all_goals rfl
    · rw [ho] at q0
      have z1 : ((0 : Int) == 0) = true := rfl
      have q1 : oEq true (.ref (b + 4)) (.lst []) (A ++ wC K b s) = .ok (.bl false) (A ++ wC K b s) := q0
      simp -implicitDefEqProofs (disch := first | assumption | omega | (simp only [List.length_cons, List.length_nil, List.length_append, List.length_map, List.length_take, List.length_drop, rngItems_len]; omega)) only [mSeq_eq, mIfS_eq, mSet_eq, mRet_eq, mRetN_eq, mExpr_eq, mPass_eq, mAsg_eq, mPar_eq, mAug_eq, bOf_eq, tOf_eq, tAndM_eq, tOrM_eq, tNotM_eq, tsYes_eq, mOp_eq, mUn_eq, mVar_eq, mC_eq, mCall_eq, mFun_eq, mFunKw_eq, mMeth_eq, mAnd_eq, mOr_eq, mNot_eq, mIf_eq, mChain_eq, mSl_eq, pNone_eq, pSome_eq, aCons_eq, aNil_eq, mTup_eq, mLst_eq, gN_eq, gT_eq, gsNil_eq, gsCons_eq, mkL_t, mkL_f, R.bind_ok, R.bind_no, R.nox_ok, List.getElem?_cons_zero, List.getElem?_cons_succ, List.set_cons_zero, List.set_cons_succ, List.length_cons, List.length_nil, List.append_nil, List.nil_append, List.cons_append, piApp_on, oLen_fz, oLen_lst, oLen_tup, oLt_int, oLe_int, oGt_int, oGe_int, oAdd_int, oSub_int, oIx_fz, oIx_lst, oIx_tup, oMax_int, oMin_int, oInt_bl, oInt_int, oIsi_bl, oNeg_int, oTuple_lst, oTuple_tup, iR1_eq, iR2_eq, iSq_eq, iStrM_eq, srcOf_tup, srcOf_lst, srcOf_fz, if_true, if_false, Bool.false_eq_true, Bool.true_eq_false, reduceIte, Nat.reduceAdd, Nat.reduceLeDiff, Nat.reduceEqDiff, Bool.not_true, Bool.not_false, decide_true, decide_false, and_self, and_true, true_and, oMod_int, oMul_r, oMul_l, oLen_str, oAdd_str, oSl_str, oSl_tup, oSl_lst, oSl_fz, rngOk_of, oEq_int, oEq_bl, beq_self_eq_true, Int.toNat_natCast, mFor_eq, mLc_eq, app_get0, app_get1, app_set0, app_set1, tyOk, oTuple_ref, oList_ref, oLen_refM, oIx_refM, oAppM, oExtM, srcOf_refM, ifLt24, ifLe24, B_law_own_row, wI_tick, z1, q1, decide_eq_true lt2, wI_asks, gIxA_eq, p1, wI_open, wG4, hl1, a1, sub1, w4, a2, wI_homes, e1]
      all_goals rfl
theorem own_answer_eq {M0 A : Mem} {i b k : Nat} {K : Wf} {s : Ws} (r : FD) (hK : WfOk K) (h : FlAt M0 i A) (hb : A.length = b) (w : WsOk k s) (hk : k ≤ 90) (ho : s.opn ≠ []) : ∃ (rw : Rw) (s' : Ws) (A' : Mem), RowSt 0 k s s' rw ∧ FlAt M0 i A' ∧ A'.length = b ∧
    runB (B_law_own_row r) 8 [.ref i, .ref b, .int 0] (A ++ wC K b s) = .ok (rwD rw) (A' ++ wC K b s') := by
  have hlo := w.lo
  have hpos : 0 < s.opn.length := List.length_pos_iff.mpr ho
  obtain ⟨v, A1, v1, h1, e1⟩ := draw_app h (B := wC K b s) (s.opn.length : Int) (by omega) (by omega)
  have l1 : A1.length = b := by rw [h1.len, ← h.len, hb]
  have hv : v < s.opn.length := by omega
  obtain ⟨s2, hs2⟩ : ∃ s2 : Ws, { s with opn := s.opn.eraseIdx v } = s2 := ⟨_, rfl⟩
  have hp := pop_open (K := K) (s := s) l1 hv (by omega)
  rw [hs2] at hp
  obtain ⟨x, A2, hx, h2, e2⟩ := answer_app h1 (B := wC K b s2) K.homes hK.homes hK.lh
  have l2 : A2.length = b := by rw [h2.len, ← h.len, hb]
  have hin : s.opn[v] ∈ s.opn := List.getElem_mem hv
  have hsub : ∀ x ∈ s.opn.eraseIdx v, x ∈ s.opn := fun x hx => List.mem_of_mem_eraseIdx hx
  refine ⟨.answer s.tick s.opn[v] x, s2, A2, ⟨by rw [← hs2], by rw [← hs2], ⟨w.tk, w.ob _ hin, hx⟩, ?_, by rw [← hs2]; exact ⟨hin, hsub, rfl, rfl, rfl⟩, by rw [← hs2]; simp⟩, h2, l2, runB_rt (N := 8) (?_ : B_law_own_row r [some (.ref i), some (.ref b), some (.int 0), none, none, none, none, none] (A ++ wC K b s) = _)⟩
  · rw [← hs2]
    exact ⟨w.bk, w.bf, by have := w.lb; simp; omega, by have := w.lt; simp; omega, by have := List.length_eraseIdx_le s.opn v; simp; omega, w.c0, by have := w.ck; simp; omega, w.a0, by have := w.ak; simp; omega, w.tk, w.th, fun c hc => w.ob c (hsub c hc)⟩
  · have z1 : ((0 : Int) == 0) = true := rfl
    have q1 : oEq true (.ref (b + 4)) (.lst []) (A ++ wC K b s) = .ok (.bl true) (A ++ wC K b s) := by
      rw [eq_open hb]
      cases hh : s.opn with
      | nil => exact absurd hh ho
      | cons _ _ => rfl
    have ln := len_open (K := K) (s := s) hb
    generalize s.opn[v] = c at *
    simp -implicitDefEqProofs (disch := first | assumption | omega | (simp only [List.length_cons, List.length_nil, List.length_append, List.length_map, List.length_take, List.length_drop, rngItems_len]; omega)) only [mSeq_eq, mIfS_eq, mSet_eq, mRet_eq, mRetN_eq, mExpr_eq, mPass_eq, mAsg_eq, mPar_eq, mAug_eq, bOf_eq, tOf_eq, tAndM_eq, tOrM_eq, tNotM_eq, tsYes_eq, mOp_eq, mUn_eq, mVar_eq, mC_eq, mCall_eq, mFun_eq, mFunKw_eq, mMeth_eq, mAnd_eq, mOr_eq, mNot_eq, mIf_eq, mChain_eq, mSl_eq, pNone_eq, pSome_eq, aCons_eq, aNil_eq, mTup_eq, mLst_eq, gN_eq, gT_eq, gsNil_eq, gsCons_eq, mkL_t, mkL_f, R.bind_ok, R.bind_no, R.nox_ok, List.getElem?_cons_zero, List.getElem?_cons_succ, List.set_cons_zero, List.set_cons_succ, List.length_cons, List.length_nil, List.append_nil, List.nil_append, List.cons_append, piApp_on, oLen_fz, oLen_lst, oLen_tup, oLt_int, oLe_int, oGt_int, oGe_int, oAdd_int, oSub_int, oIx_fz, oIx_lst, oIx_tup, oMax_int, oMin_int, oInt_bl, oInt_int, oIsi_bl, oNeg_int, oTuple_lst, oTuple_tup, iR1_eq, iR2_eq, iSq_eq, iStrM_eq, srcOf_tup, srcOf_lst, srcOf_fz, if_true, if_false, Bool.false_eq_true, Bool.true_eq_false, reduceIte, Nat.reduceAdd, Nat.reduceLeDiff, Nat.reduceEqDiff, Bool.not_true, Bool.not_false, decide_true, decide_false, and_self, and_true, true_and, oMod_int, oMul_r, oMul_l, oLen_str, oAdd_str, oSl_str, oSl_tup, oSl_lst, oSl_fz, rngOk_of, oEq_int, oEq_bl, beq_self_eq_true, Int.toNat_natCast, mFor_eq, mLc_eq, app_get0, app_get1, app_set0, app_set1, tyOk, oTuple_ref, oList_ref, oLen_refM, oIx_refM, oAppM, oExtM, srcOf_refM, ifLt24, ifLe24, B_law_own_row, wI_tick, z1, q1, wI_open, wG4, ln, e1, hp, wI_homes, e2]
    all_goals rfl
theorem own_drop_eq {M0 A : Mem} {i b k : Nat} {K : Wf} {s : Ws} (r : FD) (h : FlAt M0 i A) (hb : A.length = b) (w : WsOk k s) (hk : k ≤ 90) (ht : s.there ≠ []) : ∃ (rw : Rw) (s' : Ws) (A' : Mem), RowSt 0 k s s' rw ∧ FlAt M0 i A' ∧ A'.length = b ∧
    runB (B_law_own_row r) 8 [.ref i, .ref b, .int 2] (A ++ wC K b s) = .ok (rwD rw) (A' ++ wC K b s') := by
  have hlt := w.lt
  have hpos : 0 < s.there.length := List.length_pos_iff.mpr ht
  obtain ⟨xs, x1, x2, e1, e2⟩ := sort_there (K := K) (s := s) hb (by omega)
  obtain ⟨v, A1, v1, h1, e3⟩ := draw_app h (B := wC K b s) (xs.length : Int) (by omega) (by omega)
  have l1 : A1.length = b := by rw [h1.len, ← h.len, hb]
  have hv : v < xs.length := by omega
  have hin := x1 _ (List.getElem_mem hv)
  have hat : atI (xs.map thD) (v : Int) = some (thD xs[v]) := atI_nat (by rw [List.getElem?_map, List.getElem?_eq_getElem hv]; rfl)
  have q1 : ∀ M, oEq true (.lst (xs.map thD)) (.lst []) M = .ok (.bl true) M := fun M => by
    rw [oEq_nil (plL_th xs) rfl]
    cases xs with
    | nil => simp at hv
    | cons _ _ => rfl
  have hln : ∀ M, oLenA [.lst (xs.map thD)] M = .ok (.int (xs.length : Nat)) M := fun M => by rw [oLenA_lst, oLen_lst, List.length_map]
  generalize xs[v] = kx at hin hat
  obtain ⟨s2, hs2⟩ : ∃ s2 : Ws, { s with there := s.there.filter fun x => decide (x ≠ kx) } = s2 := ⟨_, rfl⟩
  have hp := oPop_there (K := K) (s := s) l1 hin
  rw [hs2] at hp
  obtain ⟨be, p⟩ := kx
  have hthb := w.th _ hin
  refine ⟨.drop s.tick be p, s2, A1, ⟨by rw [← hs2], by rw [← hs2], ⟨w.tk, hthb⟩, ?_, by rw [← hs2]; exact ⟨hin, rfl, rfl, rfl, rfl⟩, by rw [← hs2]; simp⟩, h1, l1, runB_rt (N := 8) (?_ : B_law_own_row r [some (.ref i), some (.ref b), some (.int 2), none, none, none, none, none] (A ++ wC K b s) = _)⟩
  · rw [← hs2]
    exact ⟨w.bk, w.bf, by have := w.lb; simp; omega, by have := List.length_filter_le (fun x => decide (x ≠ (be, p))) s.there; simp at this ⊢; omega, by have := w.lo; simp; omega, w.c0, by have := w.ck; simp; omega, w.a0, by have := w.ak; simp; omega, w.tk, fun x hx => w.th x (List.mem_filter.mp hx).1, w.ob⟩
  · have z0 : ((2 : Int) == 0) = false := rfl
    have z2 : ((2 : Int) == 2) = true := rfl
    have lt2 : ¬ ((2 : Int) < 2) := by omega
    have t2 : s2.tick = s.tick := by rw [← hs2]
    have hat' : atI (xs.map thD) (v : Int) = some (.tup [bnD be, .int p]) := hat
    have ty : tyOk "dict" (A1 ++ wC K b s) (.ref (b + 2)) = true := tyOk_dn (wG2 l1)
    push_cast [B_law_own_row, wI_tick hb, oEq_int, z0, decide_eq_false lt2, wI_there hb, e1, e2, z2, q1, hln, e3, oIxA_lst, hat', wI_there l1, ty, hp]
    all_goals rfl
theorem own_cut_eq {M0 A : Mem} {i b k : Nat} {K : Wf} {s : Ws} (r : FD) (h : FlAt M0 i A) (hb : A.length = b) (w : WsOk k s) (hk : k ≤ 90) (ht : s.book ≠ []) : ∃ (rw : Rw) (s' : Ws) (A' : Mem), RowSt 0 k s s' rw ∧ FlAt M0 i A' ∧ A'.length = b ∧
    runB (B_law_own_row r) 8 [.ref i, .ref b, .int 3] (A ++ wC K b s) = .ok (rwD rw) (A' ++ wC K b s') := by
  have hlb := w.lb
  have hpos : 0 < s.book.length := List.length_pos_iff.mpr ht
  obtain ⟨xs, x1, x2, e1, e2⟩ := sort_there (K := K) (s := s) hb (by have := w.lt; omega)
  obtain ⟨v, A1, v1, h1, e3⟩ := draw_app h (B := wC K b s) (s.book.length : Int) (by omega) (by omega)
  have l1 : A1.length = b := by rw [h1.len, ← h.len, hb]
  refine ⟨.cut s.tick v, s, A1, ⟨rfl, rfl, ⟨w.tk, ⟨by omega, by omega⟩⟩, w.mono (by omega), ⟨rfl, rfl, rfl, rfl⟩, by omega⟩, h1, l1, runB_rt (N := 8) (?_ : B_law_own_row r [some (.ref i), some (.ref b), some (.int 3), none, none, none, none, none] (A ++ wC K b s) = _)⟩
  have z0 : ((3 : Int) == 0) = false := rfl
  have z2 : ((3 : Int) == 2) = false := rfl
  have z3 : ((3 : Int) == 3) = true := rfl
  have lt2 : ¬ ((3 : Int) < 2) := by omega
  have q1 : oEq true (.ref (b + 3)) (.lst []) (A ++ wC K b s) = .ok (.bl true) (A ++ wC K b s) := by
    rw [eq_book hb]
    cases hh : s.book with
    | nil => exact absurd hh ht
    | cons _ _ => rfl
  have ln := len_book (K := K) (s := s) hb
  push_cast [B_law_own_row, wI_tick hb, oEq_int, z0, decide_eq_false lt2, wI_there hb, e1, e2, z2, z3, wI_book hb, q1, ln, e3]
  all_goals rfl
theorem own_else {A : Mem} {i b k : Nat} {K : Wf} {s : Ws} (r : FD) (hb : A.length = b) (w : WsOk k s) (hk : k ≤ 90) (f : Int) (hf : (f = 2 ∧ s.there = []) ∨ (f = 3 ∧ s.book = []) ∨ f = 4) {d : D} {m : Mem} (e : r [.ref i, .ref b, .non, .non] (A ++ wC K b s) = .ok d m) :
    runB (B_law_own_row r) 8 [.ref i, .ref b, .int f] (A ++ wC K b s) = .ok d m := by
  obtain ⟨xs, x1, x2, e1, e2⟩ := sort_there (K := K) (s := s) hb (by have := w.lt; omega)
  refine runB_rt (N := 8) (?_ : B_law_own_row r [some (.ref i), some (.ref b), some (.int f), none, none, none, none, none] (A ++ wC K b s) = _)
  rcases hf with ⟨rfl, ht⟩ | ⟨rfl, ht⟩ | rfl
  · have z0 : ((2 : Int) == 0) = false := rfl
    have z2 : ((2 : Int) == 2) = true := rfl
    have z3 : ((2 : Int) == 3) = false := rfl
    have lt2 : ¬ ((2 : Int) < 2) := by omega
    have xn : xs = [] := List.length_eq_zero_iff.mp (by rw [x2, ht]; rfl)
    have q1 : ∀ M, oEq true (.lst (xs.map thD)) (.lst []) M = .ok (.bl false) M := fun M => by
      rw [oEq_nil (plL_th xs) rfl, xn]
      rfl
    push_cast [B_law_own_row, wI_tick hb, oEq_int, z0, decide_eq_false lt2, wI_there hb, e1, e2, z2, q1, z3, e]
  · have z0 : ((3 : Int) == 0) = false := rfl
    have z2 : ((3 : Int) == 2) = false := rfl
    have z3 : ((3 : Int) == 3) = true := rfl
    have lt2 : ¬ ((3 : Int) < 2) := by omega
    have q1 : oEq true (.ref (b + 3)) (.lst []) (A ++ wC K b s) = .ok (.bl false) (A ++ wC K b s) := by
      rw [eq_book hb, ht]
      rfl
    push_cast [B_law_own_row, wI_tick hb, oEq_int, z0, decide_eq_false lt2, wI_there hb, e1, e2, z2, z3, wI_book hb, q1, e]
  · have z0 : ((4 : Int) == 0) = false := rfl
    have z2 : ((4 : Int) == 2) = false := rfl
    have z3 : ((4 : Int) == 3) = false := rfl
    have lt2 : ¬ ((4 : Int) < 2) := by omega
    push_cast [B_law_own_row, wI_tick hb, oEq_int, z0, decide_eq_false lt2, wI_there hb, e1, e2, z2, z3, e]
theorem chain_loop {A : Mem} {i b : Nat} {K : Wf} {s : Ws} (r : FD) (hb : A.length = b) (hB : BkOk s.book) (y2 y3 y4 : Option D) : ∀ (f k : Nat) (g : Gr) (ch : List Int), s.book[k]? = some g → k < f → k < 1000 → ch.length + k < 2000 → (∀ x ∈ ch, inB x) →
    ∃ ch' : List Int, (∀ x ∈ ch', inB x) ∧ ch'.length ≤ ch.length + k + 1 ∧ whileM (T_law_deed_row_0 r) (L_law_deed_row_1 r) (f + 1) [some (.ref i), some (.ref b), y2, y3, y4, some (.tup (ch.map .int)), some (.int k), none, none] (A ++ wC K b s) = .ok (.nx [some (.ref i), some (.ref b), y2, y3, y4, some (.tup (ch'.map .int)), some .non, none, none]) (A ++ wC K b s)
  | 0, k, g, ch, _, h, _, _, _ => by omega
  | f + 1, k, g, ch, hg, hf, hk, hl, hc => by
    have t1 : T_law_deed_row_0 r [some (.ref i), some (.ref b), y2, y3, y4, some (.tup (ch.map .int)), some (.int k), none, none] (A ++ wC K b s) = .ok true (A ++ wC K b s) := by
      push_cast [T_law_deed_row_0, oIsN_int']
    have hx : atI (s.book.map grD) (k : Int) = some (grD g) := atI_nat (by rw [List.getElem?_map, hg]; rfl)
    have x5 : atI (grL g) 5 = some (opD .int g.pa) := rfl
    have a1 : ∀ M, oAdd false (.tup [.int (k : Int)]) (.tup (ch.map .int)) M = .ok (.tup (((k : Int) :: ch).map .int)) M := fun M => oAdd_tt (by rw [List.length_map, List.length_cons, List.length_nil]; omega)
    have bd : L_law_deed_row_1 r [some (.ref i), some (.ref b), y2, y3, y4, some (.tup (ch.map .int)), some (.int k), none, none] (A ++ wC K b s) = .ok (.nx [some (.ref i), some (.ref b), y2, y3, y4, some (.tup (((k : Int) :: ch).map .int)), some (opD .int g.pa), none, none]) (A ++ wC K b s) := by
      push_cast [L_law_deed_row_1, a1, wI_book hb, oIxA_ref (wG3 hb), oIx_refM, wG3 hb, hx, grD, oIxA_tup, x5]
    have hc' : ∀ x ∈ (k : Int) :: ch, inB x := fun x hx => by
      rcases List.mem_cons.mp hx with rfl | hx
      · exact ⟨by omega, by omega⟩
      · exact hc x hx
    rw [whileM_succ, t1, R.bind_ok, if_pos rfl, bd, R.bind_ok]
    obtain ⟨_, _, hp⟩ := hB k g hg
    cases hpa : g.pa with
    | none =>
      refine ⟨(k : Int) :: ch, hc', by simp, ?_⟩
      have t2 : T_law_deed_row_0 r [some (.ref i), some (.ref b), y2, y3, y4, some (.tup (((k : Int) :: ch).map .int)), some .non, none, none] (A ++ wC K b s) = .ok false (A ++ wC K b s) := by
        push_cast [T_law_deed_row_0, oIsN_non']
      show whileM _ _ (f + 1) [some (.ref i), some (.ref b), y2, y3, y4, some (.tup (((k : Int) :: ch).map .int)), some .non, none, none] _ = _
      rw [whileM_succ, t2, R.bind_ok]
      rfl
    | some p =>
      obtain ⟨p0, p1⟩ := hp p hpa
      obtain ⟨j, rfl⟩ : ∃ j : Nat, p = (j : Int) := ⟨p.toNat, by omega⟩
      have kl : k < s.book.length := (List.getElem?_eq_some_iff.mp hg).1
      obtain ⟨g', hg'⟩ : ∃ g', s.book[j]? = some g' := ⟨_, List.getElem?_eq_getElem (show j < s.book.length by omega)⟩
      obtain ⟨ch', c1, c2, c3⟩ := chain_loop r hb hB y2 y3 y4 f j g' ((k : Int) :: ch) hg' (by omega) (by omega) (by rw [List.length_cons]; omega) hc'
      exact ⟨ch', c1, by rw [List.length_cons] at c2; omega, c3⟩
theorem deed_row_eq {M0 A : Mem} {i b k : Nat} {K : Wf} {s : Ws} (r : FD) (h : FlAt M0 i A) (hb : A.length = b) (w : WsOk k s) (hk : k ≤ 90) (hl : s.lines.length ≤ 1000) (by_ : Option Bn) (a : Option Ak) (hby : opB bnB by_) (ha : opB akB a) (ht : s.book ≠ []) : ∃ (rw : Rw) (s' : Ws) (A' : Mem), RowSt 0 k s s' rw ∧ FlAt M0 i A' ∧ A'.length = b ∧
    runB (B_law_deed_row r) 9 [.ref i, .ref b, opD bnD by_, akO a] (A ++ wC K b s) = .ok (rwD rw) (A' ++ wC K b s') := by
  have hlb := w.lb
  have hpos : 0 < s.book.length := List.length_pos_iff.mpr ht
  obtain ⟨v, A1, v1, h1, e1⟩ := draw_app h (B := wC K b s) (s.book.length : Int) (by omega) (by omega)
  have l1 : A1.length = b := by rw [h1.len, ← h.len, hb]
  have hv : v < s.book.length := by omega
  obtain ⟨g, hg⟩ : ∃ g, s.book[v]? = some g := ⟨_, List.getElem?_eq_getElem hv⟩
  obtain ⟨gb, gn, _⟩ := w.bk v g hg
  obtain ⟨ch, c1, c2, c3⟩ := chain_loop (K := K) (s := s) (i := i) r l1 w.bk (some (opD bnD by_)) (some (akO a)) (some (grD g)) 999999999 v g [] hg (by omega) (by omega) (by simp; omega) (fun x hx => by cases hx)
  have hx : atI (s.book.map grD) (v : Int) = some (grD g) := atI_nat (by rw [List.getElem?_map, hg]; rfl)
  obtain ⟨r0, hr0, hrm⟩ : ∃ r0, atI (g.r.map D.str) 0 = some (.str r0) ∧ r0 ∈ g.r := by
    have r00 := gb.r0
    obtain ⟨x, rr, hxr⟩ : ∃ x rr, g.r = x :: rr := by
      cases hh : g.r with
      | nil => rw [hh] at r00; simp at r00
      | cons x rr => exact ⟨x, rr, rfl⟩
    exact ⟨x, atI_nat (j := 0) (by rw [hxr]; rfl), by rw [hxr]; simp⟩
  refine ⟨.deed s.tick g.h g.p r0 ch s.tick s.lines.length by_ a, s, A1, ⟨rfl, rfl, ⟨w.tk, gb.h, gb.p, gb.r r0 hrm, c1, by simp at c2; omega, w.tk, ⟨by omega, by omega⟩, hby, ha⟩, w.mono (by omega), ⟨rfl, rfl, rfl, rfl⟩, by omega⟩, h1, l1, runB_rt (N := 9) (?_ : B_law_deed_row r [some (.ref i), some (.ref b), some (opD bnD by_), some (akO a), none, none, none, none, none] (A ++ wC K b s) = _)⟩
  have q1 : oEq false (.ref (b + 3)) (.lst []) (A ++ wC K b s) = .ok (.bl false) (A ++ wC K b s) := by
    rw [eq_book hb]
    cases hh : s.book with
    | nil => exact absurd hh ht
    | cons _ _ => rfl
  have ln := len_book (K := K) (s := s) hb
  have ln1 := len_lines (K := K) (s := s) l1
  have x0 : atI (grL g) 0 = some (.int v) := by show some (D.int g.n) = _; rw [gn]
  have x1 : atI (grL g) 1 = some (bnD g.p) := rfl
  have x2 : atI (grL g) 2 = some (.tup (g.r.map .str)) := rfl
  have x4 : atI (grL g) 4 = some (bnD g.h) := rfl
  have ew : mWhile (T_law_deed_row_0 r) (L_law_deed_row_1 r) [some (.ref i), some (.ref b), some (opD bnD by_), some (akO a), some (.tup (grL g)), some (.tup []), some (.int v), none, none] (A1 ++ wC K b s) = .ok (.nx [some (.ref i), some (.ref b), some (opD bnD by_), some (akO a), some (.tup (grL g)), some (.tup (ch.map .int)), some .non, none, none]) (A1 ++ wC K b s) := c3
  generalize hz1 : opD bnD by_ = z1 at *
  generalize hz : akO a = z2 at *
  push_cast [B_law_deed_row, wI_book hb, q1, ln, e1, oIxA_ref (wG3 l1), oIx_refM, wG3 l1, hx, grD, oIxA_tup, x0, x1, x2, x4, hr0, ew, wI_tick l1, wI_lines l1, ln1]
  all_goals (subst hz hz1; rfl)
theorem deed_any {M0 A : Mem} {i b k : Nat} {K : Wf} {s : Ws} (n : Nat) (hK : WfOk K) (h : FlAt M0 i A) (hb : A.length = b) (w : WsOk k s) (hk : k ≤ 90) (hl : s.lines.length ≤ 1000) (by_ : Option Bn) (a : Option Ak) (hby : opB bnB by_) (ha : opB akB a) : ∃ (rw : Rw) (s' : Ws) (A' : Mem), RowSt 0 k s s' rw ∧ FlAt M0 i A' ∧ A'.length = b ∧
    r_law_deed_row (n + 1) [.ref i, .ref b, opD bnD by_, akO a] (A ++ wC K b s) = .ok (rwD rw) (A' ++ wC K b s') := by
  show ∃ (rw : Rw) (s' : Ws) (A' : Mem), RowSt 0 k s s' rw ∧ FlAt M0 i A' ∧ A'.length = b ∧ runB (B_law_deed_row (runB (B_law_own_row (r_law_deed_row n)) 8)) 9 [.ref i, .ref b, opD bnD by_, akO a] (A ++ wC K b s) = _
  by_cases c : s.book = []
  · obtain ⟨rw, s', A', h1, h2, h3, e⟩ := own_ask_eq (K := K) (s := s) (r_law_deed_row n) hK h hb w hk 1 (.inl rfl)
    refine ⟨rw, s', A', h1, h2, h3, runB_rt (N := 9) (?_ : B_law_deed_row (runB (B_law_own_row (r_law_deed_row n)) 8) [some (.ref i), some (.ref b), some (opD bnD by_), some (akO a), none, none, none, none, none] (A ++ wC K b s) = _)⟩
    have q1 : oEq false (.ref (b + 3)) (.lst []) (A ++ wC K b s) = .ok (.bl true) (A ++ wC K b s) := by
      rw [eq_book hb, c]
      rfl
    generalize runB (B_law_own_row (r_law_deed_row n)) 8 = r at *
    push_cast [B_law_deed_row, wI_book hb, q1, e]
  · exact deed_row_eq _ h hb w hk hl by_ a hby ha c
theorem own_any {M0 A : Mem} {i b k : Nat} {K : Wf} {s : Ws} (hK : WfOk K) (h : FlAt M0 i A) (hb : A.length = b) (w : WsOk k s) (hk : k ≤ 90) (hl : s.lines.length ≤ 1000) (f : Nat) (hf : f ≤ 4) : ∃ (rw : Rw) (s' : Ws) (A' : Mem), RowSt 0 k s s' rw ∧ FlAt M0 i A' ∧ A'.length = b ∧
    g_law_own_row [.ref i, .ref b, .int f] (A ++ wC K b s) = .ok (rwD rw) (A' ++ wC K b s') := by
  show ∃ (rw : Rw) (s' : Ws) (A' : Mem), RowSt 0 k s s' rw ∧ FlAt M0 i A' ∧ A'.length = b ∧ runB (B_law_own_row (r_law_deed_row 4)) 8 [.ref i, .ref b, .int f] (A ++ wC K b s) = _
  have els : ((f : Int) = 2 ∧ s.there = []) ∨ ((f : Int) = 3 ∧ s.book = []) ∨ (f : Int) = 4 → ∃ (rw : Rw) (s' : Ws) (A' : Mem), RowSt 0 k s s' rw ∧ FlAt M0 i A' ∧ A'.length = b ∧ runB (B_law_own_row (r_law_deed_row 4)) 8 [.ref i, .ref b, .int f] (A ++ wC K b s) = .ok (rwD rw) (A' ++ wC K b s') := fun hf => by
    obtain ⟨rw, s', A', h1, h2, h3, e⟩ := deed_any (K := K) (s := s) 3 hK h hb w hk hl none none trivial trivial
    exact ⟨rw, s', A', h1, h2, h3, own_else (r_law_deed_row 4) hb w hk f hf e⟩
  rcases (show f = 0 ∨ f = 1 ∨ f = 2 ∨ f = 3 ∨ f = 4 by omega) with z | z | z | z | z <;> subst z
  · by_cases c : s.opn = []
    · exact own_ask_eq _ hK h hb w hk 0 (.inr ⟨rfl, c⟩)
    · exact own_answer_eq _ hK h hb w hk c
  · exact own_ask_eq _ hK h hb w hk 1 (.inl rfl)
  · by_cases c : s.there = []
    · exact els (.inl ⟨rfl, c⟩)
    · exact own_drop_eq _ h hb w hk c
  · by_cases c : s.book = []
    · exact els (.inr (.inl ⟨rfl, c⟩))
    · exact own_cut_eq _ h hb w hk c
  · exact els (.inr (.inr rfl))
def rwW : Rw → List Nat
  | .root _ _ => wRoot
  | .grant _ _ _ => wGrant
  | .cut _ _ => wCut
  | .put _ _ _ _ _ _ _ _ => wPut
  | .drop _ _ _ => wDrop
  | .ask _ _ _ => wAsk
  | .answer _ _ _ => wAnswer
  | .opn _ _ => wOpen
  | .no _ _ _ => wNo
  | .deed _ _ _ _ _ _ _ _ _ => wDeed
theorem rw_at0 (r : Rw) : atI (rwL r) 0 = some (.str (rwW r)) := by cases r <;> rfl
theorem px_bn {n : Nat} (b : Bn) : Px (n + 1) (bnD b) := Px.tup (PxL.cons (Px.str _) (PxL.cons (Px.str _) PxL.nil))
theorem px_ak {n : Nat} (a : Ak) : Px (n + 1) (akD a) := Px.tup (PxL.cons (Px.str _) (PxL.cons (Px.int _) PxL.nil))
theorem px_op {α : Type} {n : Nat} {f : α → D} (h : ∀ a, Px n (f a)) (o : Option α) : Px n (opD f o) := by
  cases o with
  | none => exact Px.non
  | some a => exact h a
theorem px_strs {n : Nat} (l : List (List Nat)) : Px (n + 1) (.tup (l.map .str)) := Px.tup (pxL_str l)
theorem px_ints {n : Nat} (l : List Int) : Px (n + 1) (.tup (l.map .int)) := Px.tup fun d hd => by
  obtain ⟨x, _, rfl⟩ := List.mem_map.mp hd
  exact Px.int x
theorem PxL.app {n : Nat} {a b : List D} (h : PxL n a) (k : PxL n b) : PxL n (a ++ b) := fun d hd => by
  rcases List.mem_append.mp hd with z | z
  · exact h d z
  · exact k d z
theorem px_gr (g : Gr) : PxL 3 (grL g) := PxL.cons (Px.int _) (PxL.cons (px_bn _) (PxL.cons (px_strs _) (PxL.cons (Px.int _) (PxL.cons (px_bn _) (PxL.cons (px_op (fun i => Px.int i) _) PxL.nil)))))
theorem rw_px {r : Rw} (h : rwB r) : PxL 3 (rwL r) := by
  cases r with
  | root t g => exact PxL.cons (Px.str _) (PxL.cons (Px.int _) (px_gr g))
  | grant t g a => exact PxL.cons (Px.str _) (PxL.cons (Px.int _) ((px_gr g).app (PxL.cons (px_ak a) PxL.nil)))
  | cut t n => exact PxL.cons (Px.str _) (PxL.cons (Px.int _) (PxL.cons (Px.int _) PxL.nil))
  | put t b h n p r f a => exact PxL.cons (Px.str _) (PxL.cons (Px.int _) (PxL.cons (px_bn _) (PxL.cons (Px.str _) (PxL.cons (Px.int _) (PxL.cons (px_bn _) (PxL.cons (px_strs _) (PxL.cons (Px.int _) (PxL.cons (px_op px_ak _) PxL.nil))))))))
  | drop t b p => exact PxL.cons (Px.str _) (PxL.cons (Px.int _) (PxL.cons (px_bn _) (PxL.cons (Px.int _) PxL.nil)))
  | ask t c x => exact PxL.cons (Px.str _) (PxL.cons (Px.int _) (PxL.cons (Px.int _) (PxL.cons (h.2.2.1.mono (by omega)) PxL.nil)))
  | answer t c x => exact PxL.cons (Px.str _) (PxL.cons (Px.int _) (PxL.cons (Px.int _) (PxL.cons (h.2.2.1.mono (by omega)) PxL.nil)))
  | opn t a => exact PxL.cons (Px.str _) (PxL.cons (Px.int _) (PxL.cons (px_ak a) PxL.nil))
  | no t a w => exact PxL.cons (Px.str _) (PxL.cons (Px.int _) (PxL.cons (px_ak a) (PxL.cons (Px.str _) PxL.nil)))
  | deed t d p r ch gv st b a => exact PxL.cons (Px.str _) (PxL.cons (Px.int _) (PxL.cons (px_bn _) (PxL.cons (px_bn _) (PxL.cons (Px.str _) (PxL.cons (px_ints _) (PxL.cons (Px.int _) (PxL.cons (Px.int _) (PxL.cons (px_op px_bn _) (PxL.cons (px_op px_ak _) PxL.nil)))))))))
theorem rw_pxD {r : Rw} (h : rwB r) : Px 4 (rwD r) := Px.tup (rw_px h)
open Classical in
theorem oInD_tup {neg : Bool} {a : D} {l : List D} {M : Mem} (hl : exL l = true) (ha : exD a = true) (hd : dpD a ≤ 60) : oInD neg a (.tup l) M = .ok (.bl (neg != decide (a ∈ l))) M := by
  obtain ⟨p, p1, p2⟩ := ex_py a ha
  obtain ⟨ps, q1, q2⟩ := ex_pyL l hl
  have k1 : pyM M a = some p := pyGo_of p1
  have k2 : pyM M (.tup l) = some (.tuple ps) := by
    show pyGo (kN M 4) (.tup l) = _
    simp only [pyGo, pyGoL_of q1, Option.map_some]
  simp only [oInD, k1, k2]
  rw [if_pos (by omega), any_ex hl ha q1 p1]
  cases neg <;> simp
def isOpn : Rw → Bool
  | .opn _ _ => true
  | _ => false
def opnA : Rw → D
  | .opn _ a => akD a
  | _ => .non
def opnsL (l : List Rw) : List D := (l.filter isOpn).map opnA
theorem opn_word (r : Rw) (M : Mem) : oEq false (.str (rwW r)) (.str wOpen) M = .ok (.bl (isOpn r)) M := by
  cases r <;> first | exact sEqT _ M | exact sEqF (by simp only [rwW]; decide) M
theorem opn_wordN (r : Rw) (M : Mem) : oEq true (.str (rwW r)) (.str wOpen) M = .ok (.bl (!isOpn r)) M := by
  cases r <;> first | exact oEq_exT rfl (by simp [dpD]) | exact oEq_exF rfl rfl (by simp [dpD]) (fun e => by simp only [rwW, D.str.injEq] at e; exact absurd e (by decide))
section
variable {A : Mem} {K : Wf} {b : Nat} {s : Ws} {P : Mem → Prop}
theorem opens_comp (hP : P (A ++ wC K b s)) (y0 y1 y2 y3 y4 : Option D) : compL P (gN 6) T_law_said_row_0 C_law_said_row_1 [y0, y1, y2, y3, y4, none, none, none] (s.lines.map rwD) (A ++ wC K b s) = .ok (opnsL s.lines) (A ++ wC K b s) := by
  rw [compL_fm hP (g := gN 6) (t := T_law_said_row_0) (f := C_law_said_row_1) (env := [y0, y1, y2, y3, y4, none, none, none]) rwD isOpn opnA s.lines fun r _ => ⟨[y0, y1, y2, y3, y4, none, some (rwD r), none], rfl, ?_, fun ht => ?_⟩, opnsL]
  · simp -implicitDefEqProofs (disch := first | assumption | omega | (simp only [List.length_cons, List.length_nil, List.length_append, List.length_map, List.length_take, List.length_drop, rngItems_len]; omega)) only [mSeq_eq, mIfS_eq, mSet_eq, mRet_eq, mRetN_eq, mExpr_eq, mPass_eq, mAsg_eq, mPar_eq, mAug_eq, bOf_eq, tOf_eq, tAndM_eq, tOrM_eq, tNotM_eq, tsYes_eq, mOp_eq, mUn_eq, mVar_eq, mC_eq, mCall_eq, mFun_eq, mFunKw_eq, mMeth_eq, mAnd_eq, mOr_eq, mNot_eq, mIf_eq, mChain_eq, mSl_eq, pNone_eq, pSome_eq, aCons_eq, aNil_eq, mTup_eq, mLst_eq, gN_eq, gT_eq, gsNil_eq, gsCons_eq, mkL_t, mkL_f, R.bind_ok, R.bind_no, R.nox_ok, List.getElem?_cons_zero, List.getElem?_cons_succ, List.set_cons_zero, List.set_cons_succ, List.length_cons, List.length_nil, List.append_nil, List.nil_append, List.cons_append, piApp_on, oLen_fz, oLen_lst, oLen_tup, oLt_int, oLe_int, oGt_int, oGe_int, oAdd_int, oSub_int, oIx_fz, oIx_lst, oIx_tup, oMax_int, oMin_int, oInt_bl, oInt_int, oIsi_bl, oNeg_int, oTuple_lst, oTuple_tup, iR1_eq, iR2_eq, iSq_eq, iStrM_eq, srcOf_tup, srcOf_lst, srcOf_fz, if_true, if_false, Bool.false_eq_true, Bool.true_eq_false, reduceIte, Nat.reduceAdd, Nat.reduceLeDiff, Nat.reduceEqDiff, Bool.not_true, Bool.not_false, decide_true, decide_false, and_self, and_true, true_and, oMod_int, oMul_r, oMul_l, oLen_str, oAdd_str, oSl_str, oSl_tup, oSl_lst, oSl_fz, rngOk_of, oEq_int, oEq_bl, beq_self_eq_true, Int.toNat_natCast, mFor_eq, mLc_eq, app_get0, app_get1, app_set0, app_set1, tyOk, oTuple_ref, oList_ref, oLen_refM, oIx_refM, oAppM, oExtM, srcOf_refM, ifLt24, ifLe24, T_law_said_row_0, rwD, oIxA_tup, rw_at0, opn_word]
  · cases r with
    | opn t a =>
      have x2 : atI (rwL (.opn t a)) 2 = some (akD a) := rfl
      simp -implicitDefEqProofs (disch := first | assumption | omega | (simp only [List.length_cons, List.length_nil, List.length_append, List.length_map, List.length_take, List.length_drop, rngItems_len]; omega)) only [mSeq_eq, mIfS_eq, mSet_eq, mRet_eq, mRetN_eq, mExpr_eq, mPass_eq, mAsg_eq, mPar_eq, mAug_eq, bOf_eq, tOf_eq, tAndM_eq, tOrM_eq, tNotM_eq, tsYes_eq, mOp_eq, mUn_eq, mVar_eq, mC_eq, mCall_eq, mFun_eq, mFunKw_eq, mMeth_eq, mAnd_eq, mOr_eq, mNot_eq, mIf_eq, mChain_eq, mSl_eq, pNone_eq, pSome_eq, aCons_eq, aNil_eq, mTup_eq, mLst_eq, gN_eq, gT_eq, gsNil_eq, gsCons_eq, mkL_t, mkL_f, R.bind_ok, R.bind_no, R.nox_ok, List.getElem?_cons_zero, List.getElem?_cons_succ, List.set_cons_zero, List.set_cons_succ, List.length_cons, List.length_nil, List.append_nil, List.nil_append, List.cons_append, piApp_on, oLen_fz, oLen_lst, oLen_tup, oLt_int, oLe_int, oGt_int, oGe_int, oAdd_int, oSub_int, oIx_fz, oIx_lst, oIx_tup, oMax_int, oMin_int, oInt_bl, oInt_int, oIsi_bl, oNeg_int, oTuple_lst, oTuple_tup, iR1_eq, iR2_eq, iSq_eq, iStrM_eq, srcOf_tup, srcOf_lst, srcOf_fz, if_true, if_false, Bool.false_eq_true, Bool.true_eq_false, reduceIte, Nat.reduceAdd, Nat.reduceLeDiff, Nat.reduceEqDiff, Bool.not_true, Bool.not_false, decide_true, decide_false, and_self, and_true, true_and, oMod_int, oMul_r, oMul_l, oLen_str, oAdd_str, oSl_str, oSl_tup, oSl_lst, oSl_fz, rngOk_of, oEq_int, oEq_bl, beq_self_eq_true, Int.toNat_natCast, mFor_eq, mLc_eq, app_get0, app_get1, app_set0, app_set1, tyOk, oTuple_ref, oList_ref, oLen_refM, oIx_refM, oAppM, oExtM, srcOf_refM, ifLt24, ifLe24, C_law_said_row_1, rwD, oIxA_tup, x2]
      rfl
    | _ => cases ht
open Classical in
theorem said_comp (hP : P (A ++ wC K b s)) (hl : ∀ r ∈ s.lines, rwB r) (a : Ak) (y0 y1 y2 y3 y4 y5 : Option D) : ∃ rs : List Rw, (∀ r ∈ rs, r ∈ s.lines) ∧ compL P (gN 6) T_law_said_row_2 C_law_said_row_3 [y0, y1, y2, y3, y4, y5, none, some (akD a)] (s.lines.map rwD) (A ++ wC K b s) = .ok (rs.map rwD) (A ++ wC K b s) := by
  refine ⟨s.lines.filter fun r => !isOpn r && decide (akD a ∈ (rwL r).drop 2), fun r hr => (List.mem_filter.mp hr).1, ?_⟩
  rw [compL_fm hP (g := gN 6) (t := T_law_said_row_2) (f := C_law_said_row_3) (env := [y0, y1, y2, y3, y4, y5, none, some (akD a)]) rwD (fun r => !isOpn r && decide (akD a ∈ (rwL r).drop 2)) rwD s.lines fun r hr => ⟨[y0, y1, y2, y3, y4, y5, some (rwD r), some (akD a)], rfl, ?_, fun _ => rfl⟩]
  have c2 : Fn.cutD (rwL r) (some 2) none = (rwL r).drop 2 := cutD_drop (rwL r) 2
  have hin : ∀ M, oInD false (akD a) (.tup ((rwL r).drop 2)) M = .ok (.bl (false != decide (akD a ∈ (rwL r).drop 2))) M := fun M => oInD_tup (exL_iff.mpr fun d hd => (rw_px (hl r hr) d (List.mem_of_mem_drop hd)).1) rfl (by simp [akD, dpD, dpL])
  cases ho : isOpn r with
  | true =>
    have hw := opn_wordN r
    rw [ho] at hw
    simp -implicitDefEqProofs (disch := first | assumption | omega | (simp only [List.length_cons, List.length_nil, List.length_append, List.length_map, List.length_take, List.length_drop, rngItems_len]; omega)) only [mSeq_eq, mIfS_eq, mSet_eq, mRet_eq, mRetN_eq, mExpr_eq, mPass_eq, mAsg_eq, mPar_eq, mAug_eq, bOf_eq, tOf_eq, tAndM_eq, tOrM_eq, tNotM_eq, tsYes_eq, mOp_eq, mUn_eq, mVar_eq, mC_eq, mCall_eq, mFun_eq, mFunKw_eq, mMeth_eq, mAnd_eq, mOr_eq, mNot_eq, mIf_eq, mChain_eq, mSl_eq, pNone_eq, pSome_eq, aCons_eq, aNil_eq, mTup_eq, mLst_eq, gN_eq, gT_eq, gsNil_eq, gsCons_eq, mkL_t, mkL_f, R.bind_ok, R.bind_no, R.nox_ok, List.getElem?_cons_zero, List.getElem?_cons_succ, List.set_cons_zero, List.set_cons_succ, List.length_cons, List.length_nil, List.append_nil, List.nil_append, List.cons_append, piApp_on, oLen_fz, oLen_lst, oLen_tup, oLt_int, oLe_int, oGt_int, oGe_int, oAdd_int, oSub_int, oIx_fz, oIx_lst, oIx_tup, oMax_int, oMin_int, oInt_bl, oInt_int, oIsi_bl, oNeg_int, oTuple_lst, oTuple_tup, iR1_eq, iR2_eq, iSq_eq, iStrM_eq, srcOf_tup, srcOf_lst, srcOf_fz, if_true, if_false, Bool.false_eq_true, Bool.true_eq_false, reduceIte, Nat.reduceAdd, Nat.reduceLeDiff, Nat.reduceEqDiff, Bool.not_true, Bool.not_false, decide_true, decide_false, and_self, and_true, true_and, oMod_int, oMul_r, oMul_l, oLen_str, oAdd_str, oSl_str, oSl_tup, oSl_lst, oSl_fz, rngOk_of, oEq_int, oEq_bl, beq_self_eq_true, Int.toNat_natCast, mFor_eq, mLc_eq, app_get0, app_get1, app_set0, app_set1, tyOk, oTuple_ref, oList_ref, oLen_refM, oIx_refM, oAppM, oExtM, srcOf_refM, ifLt24, ifLe24, T_law_said_row_2, rwD, oIxA_tup, rw_at0, hw]
    simp
  | false =>
    have hw := opn_wordN r
    rw [ho] at hw
    simp -implicitDefEqProofs (disch := first | assumption | omega | (simp only [List.length_cons, List.length_nil, List.length_append, List.length_map, List.length_take, List.length_drop, rngItems_len]; omega)) only [mSeq_eq, mIfS_eq, mSet_eq, mRet_eq, mRetN_eq, mExpr_eq, mPass_eq, mAsg_eq, mPar_eq, mAug_eq, bOf_eq, tOf_eq, tAndM_eq, tOrM_eq, tNotM_eq, tsYes_eq, mOp_eq, mUn_eq, mVar_eq, mC_eq, mCall_eq, mFun_eq, mFunKw_eq, mMeth_eq, mAnd_eq, mOr_eq, mNot_eq, mIf_eq, mChain_eq, mSl_eq, pNone_eq, pSome_eq, aCons_eq, aNil_eq, mTup_eq, mLst_eq, gN_eq, gT_eq, gsNil_eq, gsCons_eq, mkL_t, mkL_f, R.bind_ok, R.bind_no, R.nox_ok, List.getElem?_cons_zero, List.getElem?_cons_succ, List.set_cons_zero, List.set_cons_succ, List.length_cons, List.length_nil, List.append_nil, List.nil_append, List.cons_append, piApp_on, oLen_fz, oLen_lst, oLen_tup, oLt_int, oLe_int, oGt_int, oGe_int, oAdd_int, oSub_int, oIx_fz, oIx_lst, oIx_tup, oMax_int, oMin_int, oInt_bl, oInt_int, oIsi_bl, oNeg_int, oTuple_lst, oTuple_tup, iR1_eq, iR2_eq, iSq_eq, iStrM_eq, srcOf_tup, srcOf_lst, srcOf_fz, if_true, if_false, Bool.false_eq_true, Bool.true_eq_false, reduceIte, Nat.reduceAdd, Nat.reduceLeDiff, Nat.reduceEqDiff, Bool.not_true, Bool.not_false, decide_true, decide_false, and_self, and_true, true_and, oMod_int, oMul_r, oMul_l, oLen_str, oAdd_str, oSl_str, oSl_tup, oSl_lst, oSl_fz, rngOk_of, oEq_int, oEq_bl, beq_self_eq_true, Int.toNat_natCast, mFor_eq, mLc_eq, app_get0, app_get1, app_set0, app_set1, tyOk, oTuple_ref, oList_ref, oLen_refM, oIx_refM, oAppM, oExtM, srcOf_refM, ifLt24, ifLe24, T_law_said_row_2, rwD, oIxA_tup, rw_at0, hw, c2, oInA_tup, hin]
    simp
end
noncomputable def sdS2 : FS := (mSet 7 (mIf (tOrM (bOf (mOp (oEq false) (mVar 5) (mLst false aNil))) (tOrM (bOf (mOp (oEq false) (mVar 2) (mC (.int 0)))) (bOf (mOp oGt (mFun 2 g_law_draw [] (aCons (mVar 0) (aCons (mC (.int 3)) aNil))) (mC (.int 0)))))) (mFun 2 g_law_new_ask [] (aCons (mVar 0) (aCons (mVar 1) aNil))) (mOp oIxA (mVar 5) (mUn oNeg (mC (.int 1))))))
noncomputable def sdS3 : FS := (mIfS (bOf (mOp (oEq true) (mLc false [6] (iSq (mVar 3)) (gN 6) T_law_said_row_2 C_law_said_row_3) (mLst false aNil))) (mSet 7 (mFun 2 g_law_new_ask [] (aCons (mVar 0) (aCons (mVar 1) aNil)))) mPass)
noncomputable def sdS4 : FS := (mSeq (mIfS (bOf (mOp (oEq false) (mVar 2) (mC (.int 0)))) (mRet (mTup (aCons (mC (.str [111, 112, 101, 110])) (aCons (mVar 4) (aCons (mVar 7) aNil))))) mPass) (mSeq (mIfS (bOf (mOp (oEq false) (mVar 2) (mC (.int 1)))) (mRet (mTup (aCons (mC (.str [110, 111])) (aCons (mVar 4) (aCons (mVar 7) (aCons (mOp oIxA (mLst false (aCons (mC (.str [119, 97, 121])) (aCons (mC (.str [103, 111, 110, 101])) (aCons (mC (.str [111, 119, 110])) (aCons (mC (.str [119, 111, 114, 100])) (aCons (mC (.str [115, 104, 101, 108, 102])) aNil)))))) (mFun 2 g_law_draw [] (aCons (mVar 0) (aCons (mC (.int 5)) aNil)))) aNil)))))) mPass) (mSeq (mIfS (bOf (mOp (oEq false) (mVar 2) (mC (.int 2)))) (mRet (mFun 3 g_law_grant_row [] (aCons (mVar 0) (aCons (mVar 1) (aCons (mVar 7) aNil))))) mPass) (mRet (mFun 4 g_law_deed_row [] (aCons (mVar 0) (aCons (mVar 1) (aCons (mOp oIxA (mOp oIxA (mVar 1) (mC (.str [102, 111, 108, 107]))) (mC (.int 1))) (aCons (mVar 7) aNil)))))))))
/-- the memory behind: more was asked -/
def wAsk' (s : Ws) (l : List Ak) : Ws := { s with asked := l }
theorem opns_mem {l : List Rw} (h : ∀ r ∈ l, rwB r) {d : D} (hd : d ∈ opnsL l) : ∃ a, akB a ∧ d = akD a := by
  obtain ⟨r, hr, rfl⟩ := List.mem_map.mp hd
  obtain ⟨h1, h2⟩ := List.mem_filter.mp hr
  cases r with
  | opn t a => exact ⟨a, (h _ h1).2, rfl⟩
  | _ => cases h2
theorem said2 {M0 A : Mem} {i b : Nat} {K : Wf} {s : Ws} (hK : WfOk K) (h : FlAt M0 i A) (hb : A.length = b) (hl : ∀ r ∈ s.lines, rwB r) (ha : s.asked.length ≤ 900) (f : Int) (y3 y4 : Option D) : ∃ (a : Ak) (l : List Ak) (A' : Mem), akB a ∧ l.length ≤ s.asked.length + 1 ∧ FlAt M0 i A' ∧ A'.length = b ∧
    sdS2 [some (.ref i), some (.ref b), some (.int f), y3, y4, some (.lst (opnsL s.lines)), none, none] (A ++ wC K b s) = .ok (.nx [some (.ref i), some (.ref b), some (.int f), y3, y4, some (.lst (opnsL s.lines)), none, some (akD a)]) (A' ++ wC K b (wAsk' s l)) := by
  have hmem := @opns_mem s.lines hl
  have hpl : PlL 2 (opnsL s.lines) := fun d hd => by
    obtain ⟨a, _, rfl⟩ := hmem hd
    exact (px_ak a).pl
  generalize opnsL s.lines = O at hmem hpl
  have q0 : ∀ M, oEq false (.lst O) (.lst []) M = .ok (.bl (false != O.isEmpty)) M := fun M => oEq_nil hpl rfl
  obtain ⟨a1, A1, b1, _, h1, l1, e1⟩ := new_ask_eq (s := s) hK h hb (by omega)
  have u1 : ({ s with asked := s.asked ++ [a1] } : Ws) = wAsk' s (s.asked ++ [a1]) := rfl
  rw [u1] at e1
  cases O with
  | nil =>
    refine ⟨a1, s.asked ++ [a1], A1, b1, by simp, h1, l1, ?_⟩
    have q1 : ∀ M, oEq false (.lst []) (.lst []) M = .ok (.bl true) M := q0
    push_cast [sdS2, q1, e1]
  | cons d0 O =>
    have q1 : ∀ M, oEq false (.lst (d0 :: O)) (.lst []) M = .ok (.bl false) M := q0
    by_cases c : f = 0
    · subst c
      have z0 : ((0 : Int) == 0) = true := rfl
      refine ⟨a1, s.asked ++ [a1], A1, b1, by simp, h1, l1, ?_⟩
      push_cast [sdS2, q1, oEq_int, z0, e1]
    · have z0 : (f == 0) = false := by simp; exact c
      obtain ⟨v, A2, v2, h2, e2⟩ := draw_app h (B := wC K b s) 3 (by omega) (by omega)
      have l2 : A2.length = b := by rw [h2.len, ← h.len, hb]
      by_cases c2 : (0 : Int) < v
      · obtain ⟨a3, A3, b3, _, h3, l3, e3⟩ := new_ask_eq (s := s) hK h2 l2 (by omega)
        have u3 : ({ s with asked := s.asked ++ [a3] } : Ws) = wAsk' s (s.asked ++ [a3]) := rfl
        rw [u3] at e3
        refine ⟨a3, s.asked ++ [a3], A3, b3, by simp, h3, l3, ?_⟩
        push_cast [sdS2, q1, oEq_int, z0, e2, decide_eq_true c2, e3]
      · obtain ⟨O0, z, hz⟩ := snoc_of (l := d0 :: O) (by intro z; cases z)
        obtain ⟨a, ba, rfl⟩ := hmem (show z ∈ d0 :: O by rw [hz]; simp)
        have hat : atI (d0 :: O) (-1) = some (akD a) := by rw [hz]; exact atLast _ _
        refine ⟨a, s.asked, A2, ba, by omega, h2, l2, ?_⟩
        push_cast [sdS2, q1, oEq_int, z0, e2, decide_eq_false c2, oIxA_lst, hat]
        all_goals rfl
theorem wipe6' (y0 y1 y2 y3 y4 y5 y6 y7 : Option D) : wipeE [y0, y1, y2, y3, y4, y5, y6, y7] [6] = [y0, y1, y2, y3, y4, y5, none, y7] := rfl
theorem said3 {M0 A : Mem} {i b : Nat} {K : Wf} {s : Ws} (hK : WfOk K) (h : FlAt M0 i A) (hb : A.length = b) (hl : ∀ r ∈ s.lines, rwB r) (hll : s.lines.length ≤ 1000) (ha : s.asked.length ≤ 901) (a : Ak) (hab : akB a) (y2 y4 y5 : Option D) : ∃ (a' : Ak) (l : List Ak) (A' : Mem), akB a' ∧ l.length ≤ s.asked.length + 1 ∧ FlAt M0 i A' ∧ A'.length = b ∧
    sdS3 [some (.ref i), some (.ref b), y2, some (.ref (b + 1)), y4, y5, none, some (akD a)] (A ++ wC K b s) = .ok (.nx [some (.ref i), some (.ref b), y2, some (.ref (b + 1)), y4, y5, none, some (akD a')]) (A' ++ wC K b (wAsk' s l)) := by
  obtain ⟨rs, hrs, e0⟩ := said_comp (K := K) (s := s) (P := fun M' => M'[b + 1]? = some (.lst (s.lines.map rwD))) (wG1 hb) hl a (some (.ref i)) (some (.ref b)) y2 (some (.ref (b + 1))) y4 y5
  have hpl : PlL 4 (rs.map rwD) := fun d hd => by
    obtain ⟨r, hr, rfl⟩ := List.mem_map.mp hd
    exact (rw_pxD (hl r (hrs r hr))).pl
  have q0 : ∀ M, oEq true (.lst (rs.map rwD)) (.lst []) M = .ok (.bl (true != (rs.map rwD).isEmpty)) M := fun M => oEq_nil hpl rfl
  have hsrc : srcOf (A ++ wC K b s) (.ref (b + 1)) = some ⟨s.lines.map rwD, fun M' => M'[b + 1]? = some (.lst (s.lines.map rwD))⟩ := by rw [srcOf_refM, wG1 hb]
  have hnl : (s.lines.map rwD).length < 16777216 := by rw [List.length_map]; omega
  generalize rs.map rwD = R0 at e0 q0
  cases R0 with
  | nil =>
    have q1 : ∀ M, oEq true (.lst []) (.lst []) M = .ok (.bl false) M := q0
    refine ⟨a, s.asked, A, hab, by omega, h, hb, ?_⟩
    push_cast [sdS3, mLc_eq, hsrc, hnl, wipe6', e0, q1]
    all_goals rfl
  | cons d0 R0 =>
    have q1 : ∀ M, oEq true (.lst (d0 :: R0)) (.lst []) M = .ok (.bl true) M := q0
    obtain ⟨a1, A1, b1, _, h1, l1, e1⟩ := new_ask_eq (s := s) hK h hb (by omega)
    have u1 : ({ s with asked := s.asked ++ [a1] } : Ws) = wAsk' s (s.asked ++ [a1]) := rfl
    rw [u1] at e1
    refine ⟨a1, s.asked ++ [a1], A1, b1, by simp, h1, l1, ?_⟩
    push_cast [sdS3, mLc_eq, hsrc, hnl, wipe6', e0, q1, e1]
    all_goals rfl
theorem WsOk.asked {k : Nat} {s : Ws} (w : WsOk k s) (l : List Ak) : WsOk k (wAsk' s l) := ⟨w.bk, w.bf, w.lb, w.lt, w.lo, w.c0, w.ck, w.a0, w.ak, w.tk, w.th, w.ob⟩
theorem RowSt.asked {k : Nat} {s s' : Ws} {l : List Ak} {rw : Rw} (h : RowSt 0 k (wAsk' s l) s' rw) (hl : l.length ≤ s.asked.length + 2) : RowSt 2 k s s' rw := ⟨h.ln, h.tk, h.ok, h.ws, by
  have e := h.ef
  cases rw <;> exact e, Nat.le_trans h.ak hl⟩
theorem said4 {M0 A : Mem} {i b k : Nat} {K : Wf} {s : Ws} (hK : WfOk K) (h : FlAt M0 i A) (hb : A.length = b) (w : WsOk k s) (hk : k ≤ 90) (hl : s.lines.length ≤ 1000) (a : Ak) (ha : akB a) (f : Nat) (hf : f ≤ 3) (y5 : Option D) : ∃ (rw : Rw) (s' : Ws) (A' : Mem), RowSt 0 k s s' rw ∧ FlAt M0 i A' ∧ A'.length = b ∧
    sdS4 [some (.ref i), some (.ref b), some (.int f), some (.ref (b + 1)), some (.int s.tick), y5, none, some (akD a)] (A ++ wC K b s) = .ok (.rt (rwD rw)) (A' ++ wC K b s') := by
  have hlb := w.lb
  rcases (show f = 0 ∨ f = 1 ∨ f = 2 ∨ f = 3 by omega) with z | z | z | z <;> subst z
  · have z0 : (((0 : Nat) : Int) == 0) = true := rfl
    refine ⟨.opn s.tick a, s, A, ⟨rfl, rfl, ⟨w.tk, ha⟩, w.mono (by omega), ⟨rfl, rfl, rfl, rfl⟩, by omega⟩, h, hb, ?_⟩
    push_cast [sdS4, oEq_int, z0]
    all_goals rfl
  · have z0 : (((1 : Nat) : Int) == 0) = false := rfl
    have z1 : (((1 : Nat) : Int) == 1) = true := rfl
    obtain ⟨v, A2, v2, h2, e2⟩ := draw_app h (B := wC K b s) 5 (by omega) (by omega)
    have l2 : A2.length = b := by rw [h2.len, ← h.len, hb]
    obtain ⟨x, hx, bx⟩ : ∃ x, atI [D.str [119, 97, 121], .str [103, 111, 110, 101], .str [111, 119, 110], .str [119, 111, 114, 100], .str [115, 104, 101, 108, 102]] (v : Int) = some (.str x) ∧ bw 6 x := by
      rcases (show v = 0 ∨ v = 1 ∨ v = 2 ∨ v = 3 ∨ v = 4 by omega) with q | q | q | q | q <;> subst q <;> exact ⟨_, rfl, by unfold bw; decide⟩
    refine ⟨.no s.tick a x, s, A2, ⟨rfl, rfl, ⟨w.tk, ha, bx⟩, w.mono (by omega), ⟨rfl, rfl, rfl, rfl⟩, by omega⟩, h2, l2, ?_⟩
    push_cast [sdS4, oEq_int, z0, z1, e2, oIxA_lst, hx]
    all_goals rfl
  · have z0 : (((2 : Nat) : Int) == 0) = false := rfl
    have z1 : (((2 : Nat) : Int) == 1) = false := rfl
    have z2 : (((2 : Nat) : Int) == 2) = true := rfl
    obtain ⟨A2, h2, l2, ⟨g, g1, g2, g3, e⟩ | ⟨a', hq, e⟩⟩ := grant_row_eq (K := K) (s := s) hK h hb (by omega) w.bk w.bf (some a)
    · refine ⟨.grant s.tick g a, { s with book := s.book ++ [g] }, A2, ⟨rfl, rfl, ⟨w.tk, g1, ha⟩, ⟨g3, fun x hx => ?_, by simp; omega, by have := w.lt; simp; omega, by have := w.lo; simp; omega, w.c0, by have := w.ck; simp; omega, w.a0, by have := w.ak; simp; omega, w.tk, w.th, w.ob⟩, ⟨rfl, rfl, rfl, rfl⟩, by simp⟩, h2, l2, ?_⟩
      · rcases List.mem_append.mp hx with q | q
        · exact w.bf x q
        · rw [List.mem_singleton.mp q]; exact g2
      · have e' : g_law_grant_row [.ref i, .ref b, akD a] (A ++ wC K b s) = .ok (rwD (.grant s.tick g a)) (A2 ++ wC K b { s with book := s.book ++ [g] }) := e
        push_cast [sdS4, oEq_int, z0, z1, z2, e']
    · cases hq
      refine ⟨.no s.tick a [103, 111, 110, 101], s, A2, ⟨rfl, rfl, ⟨w.tk, ha, by unfold bw; decide⟩, w.mono (by omega), ⟨rfl, rfl, rfl, rfl⟩, by omega⟩, h2, l2, ?_⟩
      have e' : g_law_grant_row [.ref i, .ref b, akD a] (A ++ wC K b s) = .ok (rwD (.no s.tick a [103, 111, 110, 101])) (A2 ++ wC K b s) := e
      push_cast [sdS4, oEq_int, z0, z1, z2, e']
  · have z0 : (((3 : Nat) : Int) == 0) = false := rfl
    have z1 : (((3 : Nat) : Int) == 1) = false := rfl
    have z2 : (((3 : Nat) : Int) == 2) = false := rfl
    obtain ⟨p, hp, hpm⟩ : ∃ p, atI (K.folk.map bnD) 1 = some (bnD p) ∧ p ∈ K.folk := by
      have h1 : 1 < K.folk.length := by rw [hK.lf]; omega
      exact ⟨K.folk[1], atI_nat (j := 1) (by rw [List.getElem?_map, List.getElem?_eq_getElem h1]; rfl), List.getElem_mem h1⟩
    obtain ⟨rw, s', A2, r1, h2, l2, e⟩ := deed_any (K := K) (s := s) 3 hK h hb w hk hl (some p) (some a) (hK.folk p hpm) ha
    refine ⟨rw, s', A2, r1, h2, l2, ?_⟩
    have e' : g_law_deed_row [.ref i, .ref b, bnD p, akD a] (A ++ wC K b s) = .ok (rwD rw) (A2 ++ wC K b s') := e
    push_cast [sdS4, oEq_int, z0, z1, z2, wI_folk hb, oIxA_lst, hp, e']
theorem said_row_eq {M0 A : Mem} {i b k : Nat} {K : Wf} {s : Ws} (hK : WfOk K) (h : FlAt M0 i A) (hb : A.length = b) (w : WsOk k s) (hk : k ≤ 90) (hl : s.lines.length ≤ 1000) (hr : ∀ r ∈ s.lines, rwB r) (ha : s.asked.length ≤ 900) (f : Nat) (hf : f ≤ 3) : ∃ (rw : Rw) (s' : Ws) (A' : Mem), RowSt 2 k s s' rw ∧ FlAt M0 i A' ∧ A'.length = b ∧
    g_law_said_row [.ref i, .ref b, .int f] (A ++ wC K b s) = .ok (rwD rw) (A' ++ wC K b s') := by
  have hBd : B_law_said_row = (mSeq (mPar 3 4 (aCons (mOp oIxA (mVar 1) (mC (.str [108, 105, 110, 101, 115]))) (aCons (mOp oIxA (mVar 1) (mC (.str [116, 105, 99, 107]))) aNil))) (mSeq (mSet 5 (mLc false [6] (iSq (mVar 3)) (gN 6) T_law_said_row_0 C_law_said_row_1)) (mSeq sdS2 (mSeq sdS3 sdS4)))) := rfl
  obtain ⟨a2, q2, A2, b2, n2, h2, l2, e2⟩ := said2 (K := K) (s := s) hK h hb hr ha (f : Int) (some (.ref (b + 1))) (some (.int s.tick))
  obtain ⟨a3, q3, A3, b3, n3, h3, l3, e3⟩ := said3 (K := K) (s := wAsk' s q2) hK h2 l2 hr hl (by show q2.length ≤ 901; omega) a2 b2 (some (.int f)) (some (.int s.tick)) (some (.lst (opnsL s.lines)))
  have n3' : q3.length ≤ q2.length + 1 := n3
  obtain ⟨rw, s', A4, r4, h4, l4, e4⟩ := said4 (K := K) (s := wAsk' (wAsk' s q2) q3) hK h3 l3 ((w.asked q2).asked q3) hk hl a3 b3 f hf (some (.lst (opnsL s.lines)))
  have r4' : RowSt 0 k (wAsk' s q3) s' rw := r4
  refine ⟨rw, s', A4, r4'.asked (by omega), h4, l4, runB_rt (N := 8) (?_ : B_law_said_row [some (.ref i), some (.ref b), some (.int f), none, none, none, none, none] (A ++ wC K b s) = _)⟩
  have e0 := opens_comp (K := K) (s := s) (P := fun M' => M'[b + 1]? = some (.lst (s.lines.map rwD))) (wG1 hb) (some (.ref i)) (some (.ref b)) (some (.int f)) (some (.ref (b + 1))) (some (.int s.tick))
  have hsrc : srcOf (A ++ wC K b s) (.ref (b + 1)) = some ⟨s.lines.map rwD, fun M' => M'[b + 1]? = some (.lst (s.lines.map rwD))⟩ := by rw [srcOf_refM, wG1 hb]
  have hnl : (s.lines.map rwD).length < 16777216 := by rw [List.length_map]; omega
  have w6 : ∀ (y0 y1 y2 y3 y4 y5 y6 y7 : Option D), wipeE [y0, y1, y2, y3, y4, y5, y6, y7] [6] = [y0, y1, y2, y3, y4, y5, none, y7] := fun _ _ _ _ _ _ _ _ => rfl
  have t3 : (wAsk' (wAsk' s q2) q3).tick = s.tick := rfl
  rw [hBd]
  push_cast [wI_lines hb, wI_tick hb, mLc_eq, hsrc, hnl, w6, e0, e2, e3]
  exact e4
def leastF (l : List (Bn × Int)) (b : Bn) (p : Nat) : Prop := (∀ q : Nat, q < p → (b, (q : Int)) ∈ l) ∧ ¬ (b, (p : Int)) ∈ l
/-- what is taken behind a row -/
inductive ThSt : List (Bn × Int) → Rw → List (Bn × Int) → Prop
  | put {l : List (Bn × Int)} {t : Int} {b : Bn} {h : List Nat} {n : Int} {pl : Bn} {rs : List (List Nat)} {f : Int} {a : Option Ak} {p : Nat} (hp : leastF l b p) : ThSt l (.put t b h n pl rs f a) (l ++ [(b, (p : Int))])
  | drop {l : List (Bn × Int)} {t : Int} {b : Bn} {p : Int} (hm : (b, p) ∈ l) : ThSt l (.drop t b p) (l.filter fun x => decide (x ≠ (b, p)))
  | other {l : List (Bn × Int)} {r : Rw} (h1 : rwW r ≠ wPut) (h2 : rwW r ≠ wDrop) : ThSt l r l
/-- what stands behind rows: taken places, numbers that were put, asks that were made -/
inductive Hist : List Rw → List (Bn × Int) → List Int → List Int → Prop
  | nil : Hist [] [] [] []
  | snoc {l : List Rw} {th th' : List (Bn × Int)} {ns ns' cs cs' : List Int} {r : Rw} (h : Hist l th ns cs) (ok : rwB r) (t : ThSt th r th')
    (hn : match r with
      | .put _ _ _ n _ _ _ _ => ¬ n ∈ ns ∧ ns' = ns ++ [n]
      | _ => ns' = ns)
    (hc : match r with
      | .ask _ c _ => cs' = cs ++ [c]
      | .answer _ c _ => c ∈ cs ∧ cs' = cs
      | _ => cs' = cs) : Hist (l ++ [r]) th' ns' cs'
structure HsOk (k : Nat) (s : Ws) : Prop where
  ws : WsOk k s
  hi : ∃ ns cs, Hist s.lines s.there ns cs ∧ (∀ n ∈ ns, ∃ c : Int, 1 ≤ c ∧ c ≤ s.came ∧ numOf c n) ∧ ∀ c ∈ s.opn, c ∈ cs
  rb : ∀ r ∈ s.lines, rwB r
  ll : s.lines.length ≤ k
  la : s.asked.length ≤ 4 * k
theorem numOf_one {c c' n : Int} (h1 : 1 ≤ c) (h2 : c ≤ 400) (h3 : 1 ≤ c') (h4 : c' ≤ 400) (a : numOf c n) (b : numOf c' n) : c = c' := by
  unfold numOf at a b
  rcases a with a | a | a | a <;> rcases b with b | b | b | b <;> omega
theorem HsOk.row {k : Nat} {s s' : Ws} {r : Rw} (h : HsOk k s) (hk : k ≤ 90) (st : RowSt 4 k s s' r) : HsOk (k + 1) { s' with lines := s'.lines ++ [r] } := by
  obtain ⟨ns, cs, hh, hn, hc⟩ := h.hi
  have e := st.ef
  have el := st.ln
  have ck := h.ws.ck
  have c0 := h.ws.c0
  have key : ∃ ns' cs', Hist (s.lines ++ [r]) s'.there ns' cs' ∧ (∀ n ∈ ns', ∃ c : Int, 1 ≤ c ∧ c ≤ s'.came ∧ numOf c n) ∧ ∀ c ∈ s'.opn, c ∈ cs' := by
    cases r with
    | put t b hm n pl rs f a =>
      obtain ⟨⟨p, p1, p2, p3⟩, e1, e2, e3, e4⟩ := e
      rw [p3, e1]
      refine ⟨ns ++ [n], cs, .snoc hh st.ok (.put ⟨p1, p2⟩) ⟨fun hm => ?_, rfl⟩ rfl, fun x hx => ?_, by rw [e3]; exact hc⟩
      · obtain ⟨c, d1, d2, d3⟩ := hn n hm
        rw [e1] at e2
        have := numOf_one d1 (by omega) (by omega) (by omega) d3 e2
        omega
      · rcases List.mem_append.mp hx with z | z
        · obtain ⟨c, d1, d2, d3⟩ := hn x z
          exact ⟨c, d1, by omega, d3⟩
        · rw [List.mem_singleton.mp z]
          rw [e1] at e2
          exact ⟨s.came + 1, by omega, by omega, e2⟩
    | drop t b p =>
      obtain ⟨e1, e2, e3, e4, e5⟩ := e
      rw [e2, e3]
      exact ⟨ns, cs, .snoc hh st.ok (.drop e1) rfl rfl, hn, by rw [e4]; exact hc⟩
    | ask t c x =>
      obtain ⟨e1, e2, e3, e4, e5⟩ := e
      rw [e4, e5, e3]
      exact ⟨ns, cs ++ [c], .snoc hh st.ok (.other (by simp only [rwW]; decide) (by simp only [rwW]; decide)) rfl rfl, hn, fun y hy => by
        rcases List.mem_append.mp hy with z | z
        · exact List.mem_append_left _ (hc y z)
        · exact List.mem_append_right _ z⟩
    | answer t c x =>
      obtain ⟨e1, e2, e3, e4, e5⟩ := e
      rw [e4, e5]
      exact ⟨ns, cs, .snoc hh st.ok (.other (by simp only [rwW]; decide) (by simp only [rwW]; decide)) rfl ⟨hc _ e1, rfl⟩, hn, fun y hy => hc y (e2 y hy)⟩
    | root t g =>
      obtain ⟨e1, e2, e3, e4⟩ := e
      rw [e1, e2, e3]
      exact ⟨ns, cs, .snoc hh st.ok (.other (by simp only [rwW]; decide) (by simp only [rwW]; decide)) rfl rfl, hn, hc⟩
    | grant t g a =>
      obtain ⟨e1, e2, e3, e4⟩ := e
      rw [e1, e2, e3]
      exact ⟨ns, cs, .snoc hh st.ok (.other (by simp only [rwW]; decide) (by simp only [rwW]; decide)) rfl rfl, hn, hc⟩
    | cut t n =>
      obtain ⟨e1, e2, e3, e4⟩ := e
      rw [e1, e2, e3]
      exact ⟨ns, cs, .snoc hh st.ok (.other (by simp only [rwW]; decide) (by simp only [rwW]; decide)) rfl rfl, hn, hc⟩
    | opn t a =>
      obtain ⟨e1, e2, e3, e4⟩ := e
      rw [e1, e2, e3]
      exact ⟨ns, cs, .snoc hh st.ok (.other (by simp only [rwW]; decide) (by simp only [rwW]; decide)) rfl rfl, hn, hc⟩
    | no t a x =>
      obtain ⟨e1, e2, e3, e4⟩ := e
      rw [e1, e2, e3]
      exact ⟨ns, cs, .snoc hh st.ok (.other (by simp only [rwW]; decide) (by simp only [rwW]; decide)) rfl rfl, hn, hc⟩
    | deed t d pl r0 ch gv stp b a =>
      obtain ⟨e1, e2, e3, e4⟩ := e
      rw [e1, e2, e3]
      exact ⟨ns, cs, .snoc hh st.ok (.other (by simp only [rwW]; decide) (by simp only [rwW]; decide)) rfl rfl, hn, hc⟩
  have w := st.ws
  refine ⟨⟨w.bk, w.bf, w.lb, w.lt, w.lo, w.c0, w.ck, w.a0, w.ak, w.tk, w.th, w.ob⟩, ?_, fun x hx => ?_, ?_, ?_⟩
  · obtain ⟨ns', cs', k1, k2, k3⟩ := key
    exact ⟨ns', cs', by rw [el]; exact k1, k2, k3⟩
  · rw [el] at hx
    rcases List.mem_append.mp hx with z | z
    · exact h.rb x z
    · rw [List.mem_singleton.mp z]; exact st.ok
  · have := h.ll
    show (s'.lines ++ [r]).length ≤ _
    rw [el, List.length_append, List.length_singleton]
    omega
  · have h1 := st.ak
    have h2 := h.la
    show s'.asked.length ≤ _
    omega
theorem RowSt.mono {c d k : Nat} {s s' : Ws} {r : Rw} (h : RowSt c k s s' r) (l : c ≤ d) : RowSt d k s s' r := ⟨h.ln, h.tk, h.ok, h.ws, h.ef, by have := h.ak; omega⟩
theorem app_line {A : Mem} {K : Wf} {b : Nat} {s : Ws} {r : Rw} (h : A.length = b) (hl : s.lines.length ≤ 1000) : oAppend (.ref (b + 1)) [rwD r] (A ++ wC K b s) = .ok .non (A ++ wC K b { s with lines := s.lines ++ [r] }) := by
  have hn : (s.lines.map rwD).length < 16777216 := by rw [List.length_map]; omega
  rw [oAppend_at (wG1 h) hn, wS1 h]
theorem HsOk.tick {k : Nat} {s : Ws} (h : HsOk k s) {v : Int} (hv : inB v) : HsOk k { s with tick := v } :=
  ⟨⟨h.ws.bk, h.ws.bf, h.ws.lb, h.ws.lt, h.ws.lo, h.ws.c0, h.ws.ck, h.ws.a0, h.ws.ak, hv, h.ws.th, h.ws.ob⟩, h.hi, h.rb, h.ll, h.la⟩
noncomputable def gwM : FS := (mIfS (bOf (mOp oLt (mVar 4) (mC (.int 3)))) (mSeq (mSet 6 (mOp oIxA (mLst false (aCons (mC .non) (aCons (mFun 2 g_law_new_ask [] (aCons (mVar 0) (aCons (mVar 1) aNil))) aNil))) (mFun 2 g_law_draw [] (aCons (mVar 0) (aCons (mC (.int 2)) aNil))))) (mSet 7 (mFun 4 g_law_put_row [] (aCons (mVar 0) (aCons (mVar 1) (aCons (mOp oIxA (mOp oIxA (mVar 1) (mC (.str [102, 111, 108, 107]))) (mFun 2 g_law_draw [] (aCons (mVar 0) (aCons (mC (.int 3)) aNil)))) (aCons (mVar 6) aNil))))))) (mIfS (bOf (mOp oLt (mVar 4) (mC (.int 7)))) (mSet 7 (mFun 3 g_law_said_row [] (aCons (mVar 0) (aCons (mVar 1) (aCons (mVar 5) aNil))))) (mSet 7 (mFun 3 g_law_own_row [] (aCons (mVar 0) (aCons (mVar 1) (aCons (mOp oIxA (mLst false (aCons (mVar 5) (aCons (mVar 5) (aCons (mC (.int 2)) (aCons (mC (.int 3)) (aCons (mC (.int 4)) aNil)))))) (mOp oSub (mVar 4) (mC (.int 7)))) aNil)))))))
theorem made_row {M0 A : Mem} {i b k : Nat} {K : Wf} {s : Ws} (hK : WfOk K) (h : FlAt M0 i A) (hb : A.length = b) (w : HsOk k s) (hk : k ≤ 80) (f m : Nat) (hf : f < 12) (hm : m < 4) (y2 y3 y6 y7 : Option D) : ∃ (rw : Rw) (s' : Ws) (A' : Mem) (y6' : Option D), RowSt 4 k s s' rw ∧ FlAt M0 i A' ∧ A'.length = b ∧
    gwM [some (.ref i), some (.ref b), y2, y3, some (.int f), some (.int m), y6, y7] (A ++ wC K b s) = .ok (.nx [some (.ref i), some (.ref b), y2, y3, some (.int f), some (.int m), y6', some (rwD rw)]) (A' ++ wC K b s') := by
  have hla := w.la
  have hll := w.ll
  by_cases c1 : (f : Int) < 3
  · obtain ⟨a1, A1, b1, _, h1, l1, e1⟩ := new_ask_eq (s := s) hK h hb (by omega)
    obtain ⟨s1, hs1⟩ : ∃ s1 : Ws, ({ s with asked := s.asked ++ [a1] } : Ws) = s1 := ⟨_, rfl⟩
    rw [hs1] at e1
    obtain ⟨v2, A2, v2l, h2, e2⟩ := draw_app h1 (B := wC K b s1) 2 (by omega) (by omega)
    have l2 : A2.length = b := by rw [h2.len, ← h.len, hb]
    obtain ⟨v3, A3, v3l, h3, e3⟩ := draw_app h2 (B := wC K b s1) 3 (by omega) (by omega)
    have l3 : A3.length = b := by rw [h3.len, ← h.len, hb]
    obtain ⟨p, hp, hpm⟩ : ∃ p, atI (K.folk.map bnD) (v3 : Int) = some (bnD p) ∧ p ∈ K.folk := by
      have hv : v3 < K.folk.length := by rw [hK.lf]; omega
      exact ⟨K.folk[v3], atI_nat (by rw [List.getElem?_map, List.getElem?_eq_getElem hv]; rfl), List.getElem_mem hv⟩
    obtain ⟨a, ha, hab⟩ : ∃ a : Option Ak, atI [D.non, akD a1] (v2 : Int) = some (akO a) ∧ opB akB a := by
      rcases (show v2 = 0 ∨ v2 = 1 by omega) with z | z <;> subst z
      · exact ⟨none, rfl, trivial⟩
      · exact ⟨some a1, rfl, b1⟩
    have ws := w.ws
    obtain ⟨q, hm', w', n, fr, rs, A4, q1, q2, q3, q4, q5, h4, l4, e4⟩ := put_row_eq (K := K) (s := s1) hK h3 l3 (by rw [← hs1]; have := ws.lt; simp; omega) (by rw [← hs1]; have h1 := ws.c0; have h2 := ws.ck; exact ⟨h1, by simp; omega⟩) (by rw [← hs1]; exact ws.tk) p (hK.folk p hpm) a hab
    obtain ⟨s3, hs3⟩ : ∃ s3 : Ws, ({ s1 with came := s1.came + 1, there := s1.there ++ [(p, (q : Int))] } : Ws) = s3 := ⟨_, rfl⟩
    rw [hs3] at e4
    have t3 : s1.tick = s.tick := by rw [← hs1]
    rw [t3] at q4 e4
    have hs : s3 = { s with asked := s.asked ++ [a1], came := s.came + 1, there := s.there ++ [(p, (q : Int))] } := by rw [← hs3, ← hs1]
    have q1' : ∀ q' : Nat, q' < q → (p, (q' : Int)) ∈ s.there := by rw [← hs1] at q1; exact q1
    have q2' : ¬ (p, (q : Int)) ∈ s.there := by rw [← hs1] at q2; exact q2
    have q3' : numOf (s.came + 1) n := by rw [← hs1] at q3; exact q3
    have hws : WsOk (k + 1) s3 := by
      rw [hs]
      refine ⟨ws.bk, ws.bf, ?_, ?_, ?_, ?_, ?_, ws.a0, ?_, ws.tk, fun x hx => ?_, ws.ob⟩
      · have := ws.lb; simp only; omega
      · have := ws.lt; simp only [List.length_append, List.length_singleton]; omega
      · have := ws.lo; simp only; omega
      · have := ws.c0; simp only; omega
      · have := ws.ck; simp only; omega
      · have := ws.ak; simp only; omega
      · rcases List.mem_append.mp hx with z | z
        · exact ws.th x z
        · rw [List.mem_singleton.mp z]; exact ⟨hK.folk p hpm, by simp, by simp; omega⟩
    refine ⟨.put s.tick p hm' n (hm', w') rs fr a, s3, A4, some (akO a), ⟨by rw [hs], by rw [hs], q4, hws, by rw [hs]; exact ⟨⟨q, q1', q2', rfl⟩, rfl, q3', rfl, rfl⟩, by rw [hs]; simp⟩, h4, l4, ?_⟩
    push_cast [gwM, decide_eq_true c1, e1, e2, oIxA_lst, ha, wI_folk l2, e3, hp, e4]
    all_goals rfl
  · by_cases c2 : (f : Int) < 7
    · obtain ⟨rw, s', A1, r1, h1, l1, e1⟩ := said_row_eq (K := K) (s := s) hK h hb w.ws (by omega) (by omega) w.rb (by omega) m (by omega)
      refine ⟨rw, s', A1, y6, r1.mono (by omega), h1, l1, ?_⟩
      push_cast [gwM, decide_eq_false c1, decide_eq_true c2, e1]
    · obtain ⟨j, hj, hj4⟩ : ∃ j : Nat, atI [D.int m, .int m, .int 2, .int 3, .int 4] ((f : Int) - 7) = some (.int j) ∧ j ≤ 4 := by
        rcases (show f = 7 ∨ f = 8 ∨ f = 9 ∨ f = 10 ∨ f = 11 by omega) with z | z | z | z | z <;> subst z
        · exact ⟨m, rfl, by omega⟩
        · exact ⟨m, rfl, by omega⟩
        · exact ⟨2, rfl, by omega⟩
        · exact ⟨3, rfl, by omega⟩
        · exact ⟨4, rfl, by omega⟩
      obtain ⟨rw, s', A1, r1, h1, l1, e1⟩ := own_any (K := K) (s := s) hK h hb w.ws (by omega) (by omega) j hj4
      refine ⟨rw, s', A1, y6, r1.mono (by omega), h1, l1, ?_⟩
      push_cast [gwM, decide_eq_false c1, decide_eq_false c2, oIxA_lst, hj, e1]
theorem grown_turn {M0 A : Mem} {i b k : Nat} {K : Wf} {s : Ws} (hK : WfOk K) (h : FlAt M0 i A) (hb : A.length = b) (w : HsOk k s) (hk : k ≤ 80) (y2 y3 y4 y5 y6 y7 : Option D) : ∃ (s' : Ws) (A' : Mem) (z4 z5 z6 z7 : Option D), HsOk (k + 1) s' ∧ FlAt M0 i A' ∧ A'.length = b ∧
    L_law_grown_0 [some (.ref i), some (.ref b), y2, y3, y4, y5, y6, y7] (A ++ wC K b s) = .ok (.nx [some (.ref i), some (.ref b), y2, y3, z4, z5, z6, z7]) (A' ++ wC K b s') := by
  have hBd : L_law_grown_0 = (mSeq (mPar 4 5 (aCons (mFun 2 g_law_draw [] (aCons (mVar 0) (aCons (mC (.int 12)) aNil))) (aCons (mFun 2 g_law_draw [] (aCons (mVar 0) (aCons (mC (.int 4)) aNil))) aNil))) (mSeq (mAsg (mCall oMin (aCons (mC (.int 59)) (aCons (mOp (oAdd false) (mOp oIxA (mVar 1) (mC (.str [116, 105, 99, 107]))) (mOp (oMul false) (mFun 2 g_law_draw [] (aCons (mVar 0) (aCons (mC (.int 2)) aNil))) (mFun 2 g_law_draw [] (aCons (mVar 0) (aCons (mC (.int 3)) aNil))))) aNil))) (gIxA (mVar 1) (mC (.str [116, 105, 99, 107])))) (mSeq gwM (mExpr (mMeth "list" oAppend (mOp oIxA (mVar 1) (mC (.str [108, 105, 110, 101, 115]))) (aCons (mVar 7) aNil)))))) := rfl
  obtain ⟨f, A1, f1, h1, e1⟩ := draw_app h (B := wC K b s) 12 (by omega) (by omega)
  obtain ⟨m, A2, m1, h2, e2⟩ := draw_app h1 (B := wC K b s) 4 (by omega) (by omega)
  obtain ⟨u, A3, u1, h3, e3⟩ := draw_app h2 (B := wC K b s) 2 (by omega) (by omega)
  obtain ⟨v, A4, v1, h4, e4⟩ := draw_app h3 (B := wC K b s) 3 (by omega) (by omega)
  have l2 : A2.length = b := by rw [h2.len, ← h.len, hb]
  have l4 : A4.length = b := by rw [h4.len, ← h.len, hb]
  have em : ∀ M, oMul false (.int (u : Int)) (.int (v : Int)) M = .ok (.int ((u : Int) * v)) M := fun M => oMul_r false _ _ (by omega) (by omega)
  have huv : 0 ≤ (u : Int) * v := Int.mul_nonneg (by omega) (by omega)
  have htk := w.ws.tk
  obtain ⟨t, ht⟩ : ∃ t : Int, (if s.tick + (u : Int) * v < 59 then s.tick + (u : Int) * v else 59) = t := ⟨_, rfl⟩
  have htB : inB t := by
    have := htk.1
    rw [← ht]
    split <;> exact ⟨by omega, by omega⟩
  have w1 := w.tick htB
  have p1 := wP_tick (K := K) (s := s) (v := t) l4
  obtain ⟨rw, s', A5, z6, r5, h5, l5, e5⟩ := made_row (K := K) hK h4 l4 w1 hk f m (by omega) (by omega) y2 y3 y6 y7
  have w2 := w1.row (by omega) r5
  have ap := app_line (K := K) (s := s') (r := rw) l5 (by rw [r5.ln]; have := w.ll; show s.lines.length ≤ 1000; omega)
  have ty : tyOk "list" (A5 ++ wC K b s') (.ref (b + 1)) = true := tyOk_at (wG1 l5)
  refine ⟨_, A5, some (.int f), some (.int m), z6, some (rwD rw), w2, h5, l5, ?_⟩
  rw [hBd]
  push_cast [e1, e2, wI_tick l2, e3, e4, em, ht, gIxA_eq, p1, e5, wI_lines l5, ty, ap]
  all_goals rfl
theorem grown_eq {M0 A : Mem} {i b k : Nat} {K : Wf} {s : Ws} (hK : WfOk K) (h : FlAt M0 i A) (hb : A.length = b) (w : HsOk k s) (n : Nat) (hk : k + n ≤ 80) : ∃ (s' : Ws) (A' : Mem), HsOk (k + n) s' ∧ FlAt M0 i A' ∧ A'.length = b ∧ g_law_grown [.ref i, .ref b, .int n] (A ++ wC K b s) = .ok .non (A' ++ wC K b s') := by
  obtain ⟨env', m', e, s', A', z3, z4, z5, z6, z7, rfl, rfl, w', h', l'⟩ := forL_inv (g := gN 3) (body := L_law_grown_0) (fun j env M => ∃ (s' : Ws) (A' : Mem) (z3 z4 z5 z6 z7 : Option D), env = [some (.ref i), some (.ref b), some (.int n), z3, z4, z5, z6, z7] ∧ M = A' ++ wC K b s' ∧ HsOk (k + j) s' ∧ FlAt M0 i A' ∧ A'.length = b) (rngItems 0 n) 0 [some (.ref i), some (.ref b), some (.int n), none, none, none, none, none] (A ++ wC K b s) ⟨s, A, none, none, none, none, none, rfl, rfl, w, h, hb⟩ (by
    rintro j d env M hj ⟨s1, A1, z3, z4, z5, z6, z7, rfl, rfl, w1, h1, l1⟩
    obtain ⟨rfl, hjm⟩ := rngItems_get hj
    rw [Nat.zero_add] at w1 ⊢
    obtain ⟨s2, A2, x4, x5, x6, x7, w2, h2, l2, e2⟩ := grown_turn (K := K) hK h1 l1 w1 (by omega) (some (.int n)) (some (.int (0 + (j : Int)))) z4 z5 z6 z7
    exact ⟨_, _, e2, s2, A2, _, x4, x5, x6, x7, rfl, rfl, w2, h2, l2⟩)
  rw [rngItems_len, Nat.zero_add] at w'
  refine ⟨s', A', w', h', l', runB_nx (N := 8) (env := [some (.ref i), some (.ref b), some (.int n), z3, z4, z5, z6, z7]) (?_ : B_law_grown [some (.ref i), some (.ref b), some (.int n), none, none, none, none, none] (A ++ wC K b s) = _)⟩
  have tn : (n : Int).toNat = n := by omega
  simp -implicitDefEqProofs (disch := first | assumption | omega | (simp only [List.length_cons, List.length_nil, List.length_append, List.length_map, List.length_take, List.length_drop, rngItems_len]; omega)) only [mSeq_eq, mIfS_eq, mSet_eq, mRet_eq, mRetN_eq, mExpr_eq, mPass_eq, mAsg_eq, mPar_eq, mAug_eq, bOf_eq, tOf_eq, tAndM_eq, tOrM_eq, tNotM_eq, tsYes_eq, mOp_eq, mUn_eq, mVar_eq, mC_eq, mCall_eq, mFun_eq, mFunKw_eq, mMeth_eq, mAnd_eq, mOr_eq, mNot_eq, mIf_eq, mChain_eq, mSl_eq, pNone_eq, pSome_eq, aCons_eq, aNil_eq, mTup_eq, mLst_eq, gN_eq, gT_eq, gsNil_eq, gsCons_eq, mkL_t, mkL_f, R.bind_ok, R.bind_no, R.nox_ok, List.getElem?_cons_zero, List.getElem?_cons_succ, List.set_cons_zero, List.set_cons_succ, List.length_cons, List.length_nil, List.append_nil, List.nil_append, List.cons_append, piApp_on, oLen_fz, oLen_lst, oLen_tup, oLt_int, oLe_int, oGt_int, oGe_int, oAdd_int, oSub_int, oIx_fz, oIx_lst, oIx_tup, oMax_int, oMin_int, oInt_bl, oInt_int, oIsi_bl, oNeg_int, oTuple_lst, oTuple_tup, iR1_eq, iR2_eq, iSq_eq, iStrM_eq, srcOf_tup, srcOf_lst, srcOf_fz, if_true, if_false, Bool.false_eq_true, Bool.true_eq_false, reduceIte, Nat.reduceAdd, Nat.reduceLeDiff, Nat.reduceEqDiff, Bool.not_true, Bool.not_false, decide_true, decide_false, and_self, and_true, true_and, oMod_int, oMul_r, oMul_l, oLen_str, oAdd_str, oSl_str, oSl_tup, oSl_lst, oSl_fz, rngOk_of, oEq_int, oEq_bl, beq_self_eq_true, Int.toNat_natCast, mFor_eq, mLc_eq, app_get0, app_get1, app_set0, app_set1, tyOk, oTuple_ref, oList_ref, oLen_refM, oIx_refM, oAppM, oExtM, srcOf_refM, ifLt24, ifLe24, B_law_grown, tn, e]
theorem hs0 : HsOk 0 ws0 := ⟨⟨fun k g h => (by simp [ws0] at h), fun g h => (by cases h), Nat.le_refl _, Nat.le_refl _, Nat.le_refl _, Int.le_refl _, Int.le_refl _, Int.le_refl _, Int.le_refl _, ⟨Int.le_refl _, by decide⟩, fun x h => (by cases h), fun c h => (by cases h)⟩, ⟨[], [], .nil, fun n h => (by cases h), fun c h => (by cases h)⟩, fun r h => (by cases h), Nat.le_refl _, Nat.le_refl _⟩
theorem hist_turn {M0 A : Mem} {i b k : Nat} {K : Wf} {s : Ws} (hK : WfOk K) (h : FlAt M0 i A) (hb : A.length = b) (w : HsOk k s) (hk : k ≤ 80) (y1 y3 : Option D) : ∃ (s' : Ws) (A' : Mem), HsOk (k + 1) s' ∧ FlAt M0 i A' ∧ A'.length = b ∧
    L_law_history_0 [some (.ref i), y1, some (.ref b), y3] (A ++ wC K b s) = .ok (.nx [some (.ref i), y1, some (.ref b), y3]) (A' ++ wC K b s') := by
  have hlb := w.ws.lb
  obtain ⟨A2, h2, l2, ⟨g, g1, g2, g3, e⟩ | ⟨a', hq, e⟩⟩ := grant_row_eq (K := K) (s := s) hK h hb (by omega) w.ws.bk w.ws.bf none
  · obtain ⟨s1, hs1⟩ : ∃ s1 : Ws, { s with book := s.book ++ [g] } = s1 := ⟨_, rfl⟩
    rw [hs1] at e
    have ws := w.ws
    have st : RowSt 4 k s s1 (.root s.tick g) := by
      refine ⟨by rw [← hs1], by rw [← hs1], ⟨ws.tk, g1⟩, ?_, by rw [← hs1]; exact ⟨rfl, rfl, rfl, rfl⟩, by rw [← hs1]; simp⟩
      rw [← hs1]
      exact ⟨g3, fun x hx => by
        rcases List.mem_append.mp hx with q | q
        · exact ws.bf x q
        · rw [List.mem_singleton.mp q]; exact g2, by simp; omega, by have := ws.lt; simp; omega, by have := ws.lo; simp; omega, ws.c0, by have := ws.ck; simp; omega, ws.a0, by have := ws.ak; simp; omega, ws.tk, ws.th, ws.ob⟩
    have w2 := w.row (by omega) st
    have ap := app_line (K := K) (s := s1) (r := .root s.tick g) l2 (by rw [st.ln]; have := w.ll; omega)
    have e' : g_law_grant_row [.ref i, .ref b, .non] (A ++ wC K b s) = .ok (rwD (.root s.tick g)) (A2 ++ wC K b s1) := e
    have ty : tyOk "list" (A ++ wC K b s) (.ref (b + 1)) = true := tyOk_at (wG1 hb)
    refine ⟨_, A2, w2, h2, l2, ?_⟩
    push_cast [L_law_history_0, wI_lines hb, ty, e', ap]
  · cases hq
theorem Px.lst {n : Nat} {l : List D} (h : PxL n l) : Px (n + 1) (.lst l) := ⟨by simp only [exD]; exact exL_iff.mpr fun d hd => (h d hd).1, by have := h.dp; simp only [dpD]; omega⟩
/-- THE HISTORY -/
theorem history_eq {M0 M : Mem} {i : Nat} (h : FlAt M0 i M) (n : Nat) (hn : n ≤ 60) : ∃ (K : Wf) (L : List Rw) (th : List (Bn × Int)) (ns cs : List Int) (M' : Mem), WfOk K ∧ Hist L th ns cs ∧ (∀ r ∈ L, rwB r) ∧ L.length ≤ n + 3 ∧ FlAt M0 i M' ∧ g_law_history [.ref i, .int n] M = .ok (.tup [.tup (L.map rwD), .lst (K.folk.map bnD)]) M' := by
  obtain ⟨K, A, hK, h1, l1, e1⟩ := world_eq h.self
  obtain ⟨v, A2, v2, h2, e2⟩ := draw_app h1 (B := wC K M.length ws0) 4 (by omega) (by omega)
  have l2 : A2.length = M.length := h2.len
  obtain ⟨env', m', e3, s', A3, y3, rfl, rfl, w3, h3, l3⟩ := forL_inv (g := gN 3) (body := L_law_history_0) (fun j env M' => ∃ (s' : Ws) (A' : Mem) (y3 : Option D), env = [some (.ref i), some (.int n), some (.ref M.length), y3] ∧ M' = A' ++ wC K M.length s' ∧ HsOk j s' ∧ FlAt M i A' ∧ A'.length = M.length) (rngItems 0 v) 0 [some (.ref i), some (.int n), some (.ref M.length), none] (A2 ++ wC K M.length ws0) ⟨ws0, A2, none, rfl, rfl, hs0, h2, l2⟩ (by
    rintro j d env M' hj ⟨s1, A1, y3, rfl, rfl, w1, h1, l1⟩
    obtain ⟨rfl, hjm⟩ := rngItems_get hj
    rw [Nat.zero_add] at w1 ⊢
    obtain ⟨s2, A2, w2, h2, l2, e2⟩ := hist_turn (K := K) hK h1 l1 w1 (by omega) (some (.int n)) (some (.int (0 + (j : Int))))
    exact ⟨_, _, e2, s2, A2, _, rfl, rfl, w2, h2, l2⟩)
  rw [rngItems_len, Nat.zero_add] at w3
  obtain ⟨s4, A4, w4, h4, l4, e4⟩ := grown_eq (K := K) hK h3 l3 w3 n (by omega)
  obtain ⟨ns, cs, hh, _, _⟩ := w4.hi
  have tn : (v : Int).toNat = v := by omega
  have hrun : B_law_history [some (.ref i), some (.int n), none, none] M = .ok (.rt (.tup [.tup (s4.lines.map rwD), .lst (K.folk.map bnD)])) (A4 ++ wC K M.length s4) := by
    have tt : oTuple [.ref (M.length + 1)] (A4 ++ wC K M.length s4) = .ok (.tup (s4.lines.map rwD)) (A4 ++ wC K M.length s4) := by rw [oTuple_ref, wG1 l4]
    simp -implicitDefEqProofs (disch := first | assumption | omega | (simp only [List.length_cons, List.length_nil, List.length_append, List.length_map, List.length_take, List.length_drop, rngItems_len]; omega)) only [mSeq_eq, mIfS_eq, mSet_eq, mRet_eq, mRetN_eq, mExpr_eq, mPass_eq, mAsg_eq, mPar_eq, mAug_eq, bOf_eq, tOf_eq, tAndM_eq, tOrM_eq, tNotM_eq, tsYes_eq, mOp_eq, mUn_eq, mVar_eq, mC_eq, mCall_eq, mFun_eq, mFunKw_eq, mMeth_eq, mAnd_eq, mOr_eq, mNot_eq, mIf_eq, mChain_eq, mSl_eq, pNone_eq, pSome_eq, aCons_eq, aNil_eq, mTup_eq, mLst_eq, gN_eq, gT_eq, gsNil_eq, gsCons_eq, mkL_t, mkL_f, R.bind_ok, R.bind_no, R.nox_ok, List.getElem?_cons_zero, List.getElem?_cons_succ, List.set_cons_zero, List.set_cons_succ, List.length_cons, List.length_nil, List.append_nil, List.nil_append, List.cons_append, piApp_on, oLen_fz, oLen_lst, oLen_tup, oLt_int, oLe_int, oGt_int, oGe_int, oAdd_int, oSub_int, oIx_fz, oIx_lst, oIx_tup, oMax_int, oMin_int, oInt_bl, oInt_int, oIsi_bl, oNeg_int, oTuple_lst, oTuple_tup, iR1_eq, iR2_eq, iSq_eq, iStrM_eq, srcOf_tup, srcOf_lst, srcOf_fz, if_true, if_false, Bool.false_eq_true, Bool.true_eq_false, reduceIte, Nat.reduceAdd, Nat.reduceLeDiff, Nat.reduceEqDiff, Bool.not_true, Bool.not_false, decide_true, decide_false, and_self, and_true, true_and, oMod_int, oMul_r, oMul_l, oLen_str, oAdd_str, oSl_str, oSl_tup, oSl_lst, oSl_fz, rngOk_of, oEq_int, oEq_bl, beq_self_eq_true, Int.toNat_natCast, mFor_eq, mLc_eq, app_get0, app_get1, app_set0, app_set1, tyOk, oTuple_ref, oList_ref, oLen_refM, oIx_refM, oAppM, oExtM, srcOf_refM, ifLt24, ifLe24, B_law_history, e1, e2, tn, e3, e4, wI_lines l4, tt, wI_folk l4]
  have hpl : Px 6 (.tup [.tup (s4.lines.map rwD), .lst (K.folk.map bnD)]) := by
    refine Px.tup (n := 5) (PxL.cons (Px.tup (n := 4) fun d hd => ?_) (PxL.cons (Px.lst (n := 4) fun d hd => ?_) PxL.nil))
    · obtain ⟨r, hr, rfl⟩ := List.mem_map.mp hd
      exact rw_pxD (w4.rb r hr)
    · obtain ⟨r, hr, rfl⟩ := List.mem_map.mp hd
      exact px_bn r
  refine ⟨K, s4.lines, s4.there, ns, cs, A4, hK, hh, w4.rb, by have := w4.ll; omega, h.trans h4, ?_⟩
  exact gc_flowV (n := 6) h4 (runB_rt (N := 4) hrun) hpl.pl
mutual
theorem py_nd : ∀ {d : D} {p : PyData}, pyD d = some p → p.hasDict = false
  | .non, p, e => by cases e; rfl
  | .bl b, p, e => by cases e; rfl
  | .int i, p, e => by cases e; rfl
  | .str x, p, e => by cases e; rfl
  | .tup l, p, e => by
    simp only [pyD] at e
    cases q : pyL l with
    | none => rw [q] at e; cases e
    | some ps => rw [q] at e; cases e; simp only [PyData.hasDict]; exact pyL_nd q
  | .ct l, p, e => by
    simp only [pyD] at e
    cases q : pyL l with
    | none => rw [q] at e; cases e
    | some ps => rw [q] at e; cases e; simp only [PyData.hasDict]; exact pyL_nd q
  | .lst l, p, e => by
    simp only [pyD] at e
    cases q : pyL l with
    | none => rw [q] at e; cases e
    | some ps => rw [q] at e; cases e; simp only [PyData.hasDict]; exact pyL_nd q
  | .fz l, p, e => by
    simp only [pyD] at e
    cases q : pyL l with
    | none => rw [q] at e; cases e
    | some ps => rw [q] at e; cases e; simp only [PyData.hasDict]; exact pyL_nd q
  | .ref i, p, e => by cases e
theorem pyL_nd : ∀ {l : List D} {ps : List PyData}, pyL l = some ps → PyData.hasDictAll ps = false
  | [], ps, e => by cases e; rfl
  | d :: r, ps, e => by
    simp only [pyL] at e
    split at e
    · rename_i a b h1 h2
      cases e
      simp only [PyData.hasDictAll, py_nd h1, pyL_nd h2, Bool.or_self]
    · cases e
end
theorem repr_list {w n m : Nat} {T : List D} (h : ShLD w n T) (pl : PlL m T) (hw : w ≤ 2 ^ 20) (hn : n ≤ 50) : ∃ s, (∀ M, oRepr [.lst T] M = .ok (.str s) M) ∧ ∀ (M : Mem) (b : Nat), M[b]? = some (.lst T) → oRepr [.ref b] M = .ok (.str s) M := by
  obtain ⟨ps, p1, p2⟩ := h
  obtain ⟨ps', q1, _⟩ := pl.py
  have q2 := pyGoL_of (k := fun _ => none) q1
  rw [p1] at q2
  cases q2
  have sk : showOk (.list ps) := by
    refine ⟨by simpa only [PyData.showable] using p2.s, by simpa only [PyData.leavesShort] using p2.l, ?_, ?_, fun z => ?_⟩
    · have := p2.w; simp only [PyData.weight]; omega
    · have := p2.d; simp only [PyData.depth]; omega
    · simp only [PyData.hasDict] at z
      rw [pyL_nd q1] at z; cases z
  refine ⟨(PyData.list ps).shown.cps.toList, fun M => ?_, fun M b hb => ?_⟩
  · have e : pyR M (.lst T) = some (.list ps) := by
      show pyGo (kR M 4) (.lst T) = _
      simp only [pyGo, p1, Option.map_some]
    simp only [oRepr, e]
    rw [if_pos sk]
  · have e : pyR M (.ref b) = some (.list ps) := by
      show pyGo (kR M 4) (.ref b) = _
      simp only [pyGo, kR, hb, p1, Option.map_some]
    simp only [oRepr, e]
    rw [if_pos sk]
def rwT : Rw → Int
  | .root t _ => t
  | .grant t _ _ => t
  | .cut t _ => t
  | .put t _ _ _ _ _ _ _ => t
  | .drop t _ _ => t
  | .ask t _ _ => t
  | .answer t _ _ => t
  | .opn t _ => t
  | .no t _ _ => t
  | .deed t _ _ _ _ _ _ _ _ => t
def rwR (r : Rw) : List D := (rwL r).drop 2
theorem rw_split (r : Rw) : rwL r = .str (rwW r) :: .int (rwT r) :: rwR r := by cases r <;> rfl
theorem rwR_len (r : Rw) : (rwR r).length ≤ 8 := by cases r <;> simp [rwR, rwL, grL]
theorem sortOk_ints (l : List Int) : sortOk (l.map .int) := by
  refine ⟨fun d hd => ?_, fun d hd d' hd' => ?_, .inr fun d hd => ?_⟩
  · obtain ⟨n, _, rfl⟩ := List.mem_map.mp hd
    refine ⟨rfl, ?_⟩
    show (PyData.int _).depth ≤ 60
    simp [PyData.depth]
  · obtain ⟨n, _, rfl⟩ := List.mem_map.mp hd
    obtain ⟨n', _, rfl⟩ := List.mem_map.mp hd'
    rfl
  · obtain ⟨n, _, rfl⟩ := List.mem_map.mp hd
    rfl
theorem sh_int {i : Int} (h : inB i) : ShD 31 0 (.int i) := ShD.int h.1 (by have := h.2; omega)
theorem sh_nm {w : List Nat} (h : bw 6 w) : ShD 13 0 (.str w) := ShD.nm h
theorem sh_bn {b : Bn} (h : bnB b) : ShD 28 1 (bnD b) := ShD.tup (n := 0) (.cons (sh_nm h.1) (.cons (sh_nm h.2) .nil))
theorem sh_strs {l : List (List Nat)} (h : ∀ w ∈ l, bw 6 w) (h4 : l.length ≤ 4) : ShD 56 1 (.tup (l.map .str)) := ShD.tup (n := 0) (ShLD.all (w := 13) (m := 4) (by rw [List.length_map]; exact h4) fun d hd => by
  obtain ⟨w, hw, rfl⟩ := List.mem_map.mp hd
  exact sh_nm (h w hw))
theorem ShLD.mono {w n w' : Nat} {l : List D} (h : ShLD w n l) (k : w ≤ w') : ShLD w' n l := by
  obtain ⟨p, h1, h2⟩ := h
  exact ⟨p, h1, h2.s, h2.l, Nat.le_trans h2.w k, h2.d, h2.f⟩
theorem ShD.up {w n m : Nat} {d : D} (h : ShD w n d) (k : n ≤ m) : ShD w m d := h.mono (Nat.le_refl _) k
namespace Tb
abbrev Th := List Nat × Int
def thD (x : Th) : D := .tup [.str x.1, .int x.2]
def tkk (x : Th) : List KK := [.inr x.1, .inl x.2]
theorem keyT_th (x : Th) : keyT (thD x) = some (tkk x) := rfl
theorem tkk_inj {x y : Th} (h : tkk x = tkk y) : x = y := by
  unfold tkk at h
  injection h with h1 h2
  injection h2 with h2 _
  injection h1 with h1
  injection h2 with h2
  exact Prod.ext h1 h2
/-- a place in use: its turn, its thing -/
structure En where
  p : Nat
  t : Nat
  x : Th
def En.kv (e : En) : KK × D := (.inl e.p, .tup [.int e.t, thD e.x])
structure Tab where
  used : List Nat
  there : List En
  known : List Th
def usedD (l : List Nat) : List D := l.map fun n : Nat => .int n
def thereK (l : List En) : List (KK × D) := l.map En.kv
def knownK (l : List Th) : List (List KK × D) := l.map fun x => (tkk x, .bl true)
def tabF (u t k : Nat) : List (Str × D) := [("used", .ref u), ("there", .ref t), ("known", .ref k)]
section
variable (u t k : Nat)
theorem tn1 : (("there" : Str) == "used") = false := by decide +kernel
theorem tn2 : (("known" : Str) == "used") = false := by decide +kernel
theorem tn3 : (("known" : Str) == "there") = false := by decide +kernel
theorem lk_used : (tabF u t k).lookup ("used" : Str) = some (.ref u) := by simp only [tabF, List.lookup, beq_self_eq_true]
theorem lk_there : (tabF u t k).lookup ("there" : Str) = some (.ref t) := by simp only [tabF, List.lookup, tn1, beq_self_eq_true]
theorem lk_known : (tabF u t k).lookup ("known" : Str) = some (.ref k) := by simp only [tabF, List.lookup, tn2, tn3, beq_self_eq_true]
theorem lk_m (m : Str) (h1 : (m == "used") = false) (h2 : (m == "there") = false) (h3 : (m == "known") = false) : (tabF u t k).lookup m = none := by simp only [tabF, List.lookup, h1, h2, h3]
theorem lk_leads : (tabF u t k).lookup ("leads" : Str) = none := lk_m u t k _ (by decide +kernel) (by decide +kernel) (by decide +kernel)
theorem lk_put : (tabF u t k).lookup ("put" : Str) = none := lk_m u t k _ (by decide +kernel) (by decide +kernel) (by decide +kernel)
theorem lk_drop : (tabF u t k).lookup ("drop" : Str) = none := lk_m u t k _ (by decide +kernel) (by decide +kernel) (by decide +kernel)
theorem lk_handles : (tabF u t k).lookup ("handles" : Str) = none := lk_m u t k _ (by decide +kernel) (by decide +kernel) (by decide +kernel)
theorem lk_free : (tabF u t k).lookup ("free_place" : Str) = none := lk_m u t k _ (by decide +kernel) (by decide +kernel) (by decide +kernel)
end
structure TabAt (M : Mem) (i u t k : Nat) (T : Tab) : Prop where
  ins : M[i]? = some (.ins 0 (tabF u t k))
  us : M[u]? = some (.lst (usedD T.used))
  th : M[t]? = some (.dk false (thereK T.there))
  kn : M[k]? = some (.dt false (knownK T.known))
  iu : i ≠ u
  it : i ≠ t
  ik : i ≠ k
  ut : u ≠ t
  uk : u ≠ k
  tk : t ≠ k
theorem gA_there (l : List En) (p : Nat) : gA (thereK l) (.inl (p : Int)) = (l.find? fun e => decide (e.p = p)).map fun e => .tup [.int e.t, thD e.x] := by
  unfold gA thereK
  induction l with
  | nil => rfl
  | cons e r ih =>
    simp only [List.map_cons, List.find?_cons]
    by_cases h : e.p = p
    · have h' : (En.kv e).1 = .inl (p : Int) := by show (Sum.inl (e.p : Int) : KK) = .inl (p : Int); rw [h]
      rw [decide_eq_true h', decide_eq_true h]; rfl
    · have h' : ¬ (En.kv e).1 = .inl (p : Int) := fun z => h (by have z : (Sum.inl (e.p : Int) : KK) = .inl (p : Int) := z; injection z with z; omega)
      rw [decide_eq_false h', decide_eq_false h]; exact ih
theorem gA_known (l : List Th) (x : Th) : (gA (knownK l) (tkk x)).isSome = decide (x ∈ l) := by
  unfold gA knownK
  induction l with
  | nil => rfl
  | cons y r ih =>
    simp only [List.map_cons, List.find?_cons]
    by_cases h : y = x
    · subst h; rw [decide_eq_true rfl]; simp
    · have h' : ¬ tkk y = tkk x := fun z => h (tkk_inj z)
      rw [decide_eq_false h']
      simp only
      rw [ih]
      have : ¬ x = y := fun z => h z.symm
      simp [this]
/-- what a handle leads to -/
def Tab.leads (T : Tab) (p t : Nat) : Option Th := match T.there.find? fun e => decide (e.p = p) with
  | some e => if e.t = t then some e.x else none
  | none => none
def optD : Option Th → D
  | none => .non
  | some x => thD x
theorem leads_eq {M : Mem} {i u t k : Nat} {T : Tab} (h : TabAt M i u t k T) (p n : Nat) : g_Table_leads [.ref i, .tup [.int p, .int n]] M = .ok (optD (T.leads p n)) M := by
  refine runB_rt (N := 4) ?_
  show B_Table_leads [some (.ref i), some (.tup [.int p, .int n]), none, none] M = _
  have g := gA_there T.there p
  unfold Tab.leads
  cases hf : T.there.find? fun e => decide (e.p = p) with
  | none =>
    rw [hf] at g
    have e1 : oInA true (.int p) (.ref t) M = .ok (.bl true) M := by rw [oInA_dk h.th, g]; rfl
    simp -implicitDefEqProofs (disch := first | assumption | omega | (simp only [List.length_cons, List.length_nil, List.length_append, List.length_map, List.length_take, List.length_drop, rngItems_len]; omega)) only [mSeq_eq, mIfS_eq, mSet_eq, mRet_eq, mRetN_eq, mExpr_eq, mPass_eq, mAsg_eq, mPar_eq, mAug_eq, bOf_eq, tOf_eq, tAndM_eq, tOrM_eq, tNotM_eq, tsYes_eq, mOp_eq, mUn_eq, mVar_eq, mC_eq, mCall_eq, mFun_eq, mFunKw_eq, mMeth_eq, mAnd_eq, mOr_eq, mNot_eq, mIf_eq, mChain_eq, mSl_eq, pNone_eq, pSome_eq, aCons_eq, aNil_eq, mTup_eq, mLst_eq, gN_eq, gT_eq, gsNil_eq, gsCons_eq, mkL_t, mkL_f, R.bind_ok, R.bind_no, R.nox_ok, List.getElem?_cons_zero, List.getElem?_cons_succ, List.set_cons_zero, List.set_cons_succ, List.length_cons, List.length_nil, List.append_nil, List.nil_append, List.cons_append, piApp_on, oLen_fz, oLen_lst, oLen_tup, oLt_int, oLe_int, oGt_int, oGe_int, oAdd_int, oSub_int, oIx_fz, oIx_lst, oIx_tup, oMax_int, oMin_int, oInt_bl, oInt_int, oIsi_bl, oNeg_int, oTuple_lst, oTuple_tup, iR1_eq, iR2_eq, iSq_eq, iStrM_eq, srcOf_tup, srcOf_lst, srcOf_fz, if_true, if_false, Bool.false_eq_true, Bool.true_eq_false, reduceIte, Nat.reduceAdd, Nat.reduceLeDiff, Nat.reduceEqDiff, Bool.not_true, Bool.not_false, decide_true, decide_false, and_self, and_true, true_and, oMod_int, oMul_r, oMul_l, oLen_str, oAdd_str, oSl_str, oSl_tup, oSl_lst, oSl_fz, rngOk_of, oEq_int, oEq_bl, beq_self_eq_true, Int.toNat_natCast, mFor_eq, mLc_eq, app_get0, app_get1, app_set0, app_set1, tyOk, oTuple_ref, oList_ref, oLen_refM, oIx_refM, oAppM, oExtM, srcOf_refM, ifLt24, ifLe24, B_Table_leads, mFld_eq, insOf_at h.ins, lk_there, e1]
    rfl
  | some e =>
    rw [hf] at g
    have g : gA (thereK T.there) (.inl (p : Int)) = some (.tup [.int e.t, thD e.x]) := g
    have e1 : oInA true (.int p) (.ref t) M = .ok (.bl false) M := by rw [oInA_dk h.th, g]; rfl
    have e2 := oIxA_dk h.th g
    have e3 : oIxA (.tup [.int e.t, thD e.x]) (.int 0) M = .ok (.int e.t) M := rfl
    have e4 : oIxA (.tup [.int e.t, thD e.x]) (.int 1) M = .ok (thD e.x) M := rfl
    by_cases hc : e.t = n
    · have e5 : oEq true (.int e.t) (.int n) M = .ok (.bl false) M := by rw [hc]; exact oEq_exT rfl (Nat.zero_le _)
      simp -implicitDefEqProofs (disch := first | assumption | omega | (simp only [List.length_cons, List.length_nil, List.length_append, List.length_map, List.length_take, List.length_drop, rngItems_len]; omega)) only [mSeq_eq, mIfS_eq, mSet_eq, mRet_eq, mRetN_eq, mExpr_eq, mPass_eq, mAsg_eq, mPar_eq, mAug_eq, bOf_eq, tOf_eq, tAndM_eq, tOrM_eq, tNotM_eq, tsYes_eq, mOp_eq, mUn_eq, mVar_eq, mC_eq, mCall_eq, mFun_eq, mFunKw_eq, mMeth_eq, mAnd_eq, mOr_eq, mNot_eq, mIf_eq, mChain_eq, mSl_eq, pNone_eq, pSome_eq, aCons_eq, aNil_eq, mTup_eq, mLst_eq, gN_eq, gT_eq, gsNil_eq, gsCons_eq, mkL_t, mkL_f, R.bind_ok, R.bind_no, R.nox_ok, List.getElem?_cons_zero, List.getElem?_cons_succ, List.set_cons_zero, List.set_cons_succ, List.length_cons, List.length_nil, List.append_nil, List.nil_append, List.cons_append, piApp_on, oLen_fz, oLen_lst, oLen_tup, oLt_int, oLe_int, oGt_int, oGe_int, oAdd_int, oSub_int, oIx_fz, oIx_lst, oIx_tup, oMax_int, oMin_int, oInt_bl, oInt_int, oIsi_bl, oNeg_int, oTuple_lst, oTuple_tup, iR1_eq, iR2_eq, iSq_eq, iStrM_eq, srcOf_tup, srcOf_lst, srcOf_fz, if_true, if_false, Bool.false_eq_true, Bool.true_eq_false, reduceIte, Nat.reduceAdd, Nat.reduceLeDiff, Nat.reduceEqDiff, Bool.not_true, Bool.not_false, decide_true, decide_false, and_self, and_true, true_and, oMod_int, oMul_r, oMul_l, oLen_str, oAdd_str, oSl_str, oSl_tup, oSl_lst, oSl_fz, rngOk_of, oEq_int, oEq_bl, beq_self_eq_true, Int.toNat_natCast, mFor_eq, mLc_eq, app_get0, app_get1, app_set0, app_set1, tyOk, oTuple_ref, oList_ref, oLen_refM, oIx_refM, oAppM, oExtM, srcOf_refM, ifLt24, ifLe24, B_Table_leads, mFld_eq, insOf_at h.ins, lk_there, e1, e2, e3, e4, e5, if_pos hc]
      all_goals rfl
    · have e5 : oEq true (.int e.t) (.int n) M = .ok (.bl true) M := oEq_exF rfl rfl (Nat.zero_le _) (fun z => hc (by injection z with z; omega))
      simp -implicitDefEqProofs (disch := first | assumption | omega | (simp only [List.length_cons, List.length_nil, List.length_append, List.length_map, List.length_take, List.length_drop, rngItems_len]; omega)) only [mSeq_eq, mIfS_eq, mSet_eq, mRet_eq, mRetN_eq, mExpr_eq, mPass_eq, mAsg_eq, mPar_eq, mAug_eq, bOf_eq, tOf_eq, tAndM_eq, tOrM_eq, tNotM_eq, tsYes_eq, mOp_eq, mUn_eq, mVar_eq, mC_eq, mCall_eq, mFun_eq, mFunKw_eq, mMeth_eq, mAnd_eq, mOr_eq, mNot_eq, mIf_eq, mChain_eq, mSl_eq, pNone_eq, pSome_eq, aCons_eq, aNil_eq, mTup_eq, mLst_eq, gN_eq, gT_eq, gsNil_eq, gsCons_eq, mkL_t, mkL_f, R.bind_ok, R.bind_no, R.nox_ok, List.getElem?_cons_zero, List.getElem?_cons_succ, List.set_cons_zero, List.set_cons_succ, List.length_cons, List.length_nil, List.append_nil, List.nil_append, List.cons_append, piApp_on, oLen_fz, oLen_lst, oLen_tup, oLt_int, oLe_int, oGt_int, oGe_int, oAdd_int, oSub_int, oIx_fz, oIx_lst, oIx_tup, oMax_int, oMin_int, oInt_bl, oInt_int, oIsi_bl, oNeg_int, oTuple_lst, oTuple_tup, iR1_eq, iR2_eq, iSq_eq, iStrM_eq, srcOf_tup, srcOf_lst, srcOf_fz, if_true, if_false, Bool.false_eq_true, Bool.true_eq_false, reduceIte, Nat.reduceAdd, Nat.reduceLeDiff, Nat.reduceEqDiff, Bool.not_true, Bool.not_false, decide_true, decide_false, and_self, and_true, true_and, oMod_int, oMul_r, oMul_l, oLen_str, oAdd_str, oSl_str, oSl_tup, oSl_lst, oSl_fz, rngOk_of, oEq_int, oEq_bl, beq_self_eq_true, Int.toNat_natCast, mFor_eq, mLc_eq, app_get0, app_get1, app_set0, app_set1, tyOk, oTuple_ref, oList_ref, oLen_refM, oIx_refM, oAppM, oExtM, srcOf_refM, ifLt24, ifLe24, B_Table_leads, mFld_eq, insOf_at h.ins, lk_there, e1, e2, e3, e4, e5, if_neg hc]
      all_goals rfl
end Tb
namespace Tb
theorem TabAt.lt {M : Mem} {i u t k : Nat} {T : Tab} (h : TabAt M i u t k T) : i < M.length ∧ u < M.length ∧ t < M.length ∧ k < M.length :=
  ⟨(List.getElem?_eq_some_iff.mp h.ins).1, (List.getElem?_eq_some_iff.mp h.us).1, (List.getElem?_eq_some_iff.mp h.th).1, (List.getElem?_eq_some_iff.mp h.kn).1⟩
theorem TabAt.setU {M : Mem} {i u t k : Nat} {T : Tab} (h : TabAt M i u t k T) (l : List Nat) : TabAt (M.set u (.lst (usedD l))) i u t k { T with used := l } := by
  obtain ⟨l1, l2, l3, l4⟩ := h.lt
  have := h.iu; have := h.ut; have := h.uk
  exact ⟨by rw [List.getElem?_set_ne (by omega)]; exact h.ins, List.getElem?_set_self l2, by rw [List.getElem?_set_ne (by omega)]; exact h.th, by rw [List.getElem?_set_ne (by omega)]; exact h.kn, h.iu, h.it, h.ik, h.ut, h.uk, h.tk⟩
theorem TabAt.setT {M : Mem} {i u t k : Nat} {T : Tab} (h : TabAt M i u t k T) (l : List En) : TabAt (M.set t (.dk false (thereK l))) i u t k { T with there := l } := by
  obtain ⟨l1, l2, l3, l4⟩ := h.lt
  have := h.it; have := h.ut; have := h.tk
  exact ⟨by rw [List.getElem?_set_ne (by omega)]; exact h.ins, by rw [List.getElem?_set_ne (by omega)]; exact h.us, List.getElem?_set_self l3, by rw [List.getElem?_set_ne (by omega)]; exact h.kn, h.iu, h.it, h.ik, h.ut, h.uk, h.tk⟩
theorem TabAt.setK {M : Mem} {i u t k : Nat} {T : Tab} (h : TabAt M i u t k T) (l : List Th) : TabAt (M.set k (.dt false (knownK l))) i u t k { T with known := l } := by
  obtain ⟨l1, l2, l3, l4⟩ := h.lt
  have := h.ik; have := h.uk; have := h.tk
  exact ⟨by rw [List.getElem?_set_ne (by omega)]; exact h.ins, by rw [List.getElem?_set_ne (by omega)]; exact h.us, by rw [List.getElem?_set_ne (by omega)]; exact h.th, List.getElem?_set_self l4, h.iu, h.it, h.ik, h.ut, h.uk, h.tk⟩
def Tab.has (T : Tab) (p : Nat) : Bool := (T.there.find? fun e => decide (e.p = p)).isSome
theorem has_iff {T : Tab} {p : Nat} : T.has p = true ↔ ∃ e ∈ T.there, e.p = p := by
  unfold Tab.has
  rw [List.find?_isSome]
  simp
theorem places : ∀ (n : Nat) (l : List En), (∀ q, q < n → ∃ e ∈ l, e.p = q) → n ≤ l.length
  | 0, _, _ => Nat.zero_le _
  | n + 1, l, h => by
    obtain ⟨e, he, hp⟩ := h n (by omega)
    have h1 := places n (l.filter fun e => decide (e.p ≠ n)) fun q hq => by
      obtain ⟨e', he', hp'⟩ := h q (by omega)
      exact ⟨e', List.mem_filter.mpr ⟨he', by simp; omega⟩, hp'⟩
    have h2 : (l.filter fun e => decide (e.p ≠ n)).length < l.length := by
      rw [List.length_filter_lt_length_iff_exists]
      exact ⟨e, he, by simp [hp]⟩
    omega
/-- the least free place -/
theorem free_is (T : Tab) : ∃ f, f ≤ T.there.length ∧ (∀ q, q < f → T.has q = true) ∧ T.has f = false := by
  have h0 : ∃ q, T.has q = false := by
    cases hh : T.has T.there.length with
    | false => exact ⟨_, hh⟩
    | true =>
      by_cases hall : ∀ q, q < T.there.length + 1 → ∃ e ∈ T.there, e.p = q
      · have := places _ _ hall; omega
      · simp only [Classical.not_forall] at hall
        obtain ⟨q, _, hq⟩ := hall
        refine ⟨q, ?_⟩
        cases hc : T.has q with
        | false => rfl
        | true => exact absurd (has_iff.mp hc) hq
  have least : ∀ n, (∃ q, q ≤ n ∧ T.has q = false) → ∃ f, (∀ q, q < f → T.has q = true) ∧ T.has f = false := by
    intro n
    induction n with
    | zero => rintro ⟨q, hq, h⟩; exact ⟨0, fun _ hh => absurd hh (by omega), by rw [show (0 : Nat) = q by omega]; exact h⟩
    | succ n ih =>
      rintro ⟨q, hq, h⟩
      by_cases hl : ∃ q, q ≤ n ∧ T.has q = false
      · exact ih hl
      · refine ⟨q, fun q' hq' => ?_, h⟩
        cases hc : T.has q' with
        | true => rfl
        | false => exact absurd ⟨q', by omega, hc⟩ hl
  obtain ⟨q, hq⟩ := h0
  obtain ⟨f, h1, h2⟩ := least q ⟨q, Nat.le_refl _, hq⟩
  exact ⟨f, places f T.there fun q hq => has_iff.mp (h1 q hq), h1, h2⟩
theorem in_there {M : Mem} {i u t k : Nat} {T : Tab} (h : TabAt M i u t k T) (neg : Bool) (p : Nat) : oInA neg (.int p) (.ref t) M = .ok (.bl (neg != T.has p)) M := by
  rw [oInA_dk h.th, gA_there]
  unfold Tab.has
  rw [Option.isSome_map]
theorem free_loop {M : Mem} {i u t k : Nat} {T : Tab} (h : TabAt M i u t k T) : ∀ (n fuel p : Nat), n < fuel → (∀ q, q < p + n → T.has q = true) → T.has (p + n) = false →
    whileM T_Table_free_place_0 L_Table_free_place_1 fuel [some (.ref i), some (.int p)] M = .ok (.nx [some (.ref i), some (.int (p + n : Nat))]) M
  | n, 0, _, hf, _, _ => absurd hf (by omega)
  | 0, fuel + 1, p, hf, h1, h2 => by
    have e : oInA false (.int p) (.ref t) M = .ok (.bl false) M := by rw [in_there h, show T.has p = false from h2]; rfl
    have c : T_Table_free_place_0 [some (.ref i), some (.int p)] M = .ok false M := by push_cast [T_Table_free_place_0, mFld_eq, insOf_at h.ins, lk_there, e]
    simp only [whileM, c, R.bind_ok, Bool.false_eq_true, if_false, Nat.add_zero]
  | n + 1, fuel + 1, p, hf, h1, h2 => by
    have e : oInA false (.int p) (.ref t) M = .ok (.bl true) M := by rw [in_there h, h1 p (by omega)]; rfl
    have c : T_Table_free_place_0 [some (.ref i), some (.int p)] M = .ok true M := by push_cast [T_Table_free_place_0, mFld_eq, insOf_at h.ins, lk_there, e]
    have b : L_Table_free_place_1 [some (.ref i), some (.int p)] M = .ok (.nx [some (.ref i), some (.int (p + 1 : Nat))]) M := rfl
    have ih := free_loop h n fuel (p + 1) (by omega) (fun q hq => h1 q (by omega)) (by rw [show p + 1 + n = p + (n + 1) by omega]; exact h2)
    rw [show p + 1 + n = p + (n + 1) by omega] at ih
    simp only [whileM, c, R.bind_ok, if_true, b, ih]
theorem free_eq {M : Mem} {i u t k : Nat} {T : Tab} (h : TabAt M i u t k T) (hl : T.there.length < 1000000) {f : Nat} (h0 : f ≤ T.there.length) (h1 : ∀ q, q < f → T.has q = true) (h2 : T.has f = false) : g_Table_free_place [.ref i] M = .ok (.int f) M := by
  refine runB_rt (N := 2) ?_
  show B_Table_free_place [some (.ref i), none] M = _
  have e := fun fuel hf => free_loop h f fuel 0 hf (by simpa using h1) (by simpa using h2)
  simp only [Nat.zero_add] at e
  have e' : mWhile T_Table_free_place_0 L_Table_free_place_1 [some (.ref i), some (.int 0)] M = .ok (.nx [some (.ref i), some (.int f)]) M := e _ (by omega)
  simp -implicitDefEqProofs (disch := first | assumption | omega | (simp only [List.length_cons, List.length_nil, List.length_append, List.length_map, List.length_take, List.length_drop, rngItems_len]; omega)) only [mSeq_eq, mIfS_eq, mSet_eq, mRet_eq, mRetN_eq, mExpr_eq, mPass_eq, mAsg_eq, mPar_eq, mAug_eq, bOf_eq, tOf_eq, tAndM_eq, tOrM_eq, tNotM_eq, tsYes_eq, mOp_eq, mUn_eq, mVar_eq, mC_eq, mCall_eq, mFun_eq, mFunKw_eq, mMeth_eq, mAnd_eq, mOr_eq, mNot_eq, mIf_eq, mChain_eq, mSl_eq, pNone_eq, pSome_eq, aCons_eq, aNil_eq, mTup_eq, mLst_eq, gN_eq, gT_eq, gsNil_eq, gsCons_eq, mkL_t, mkL_f, R.bind_ok, R.bind_no, R.nox_ok, List.getElem?_cons_zero, List.getElem?_cons_succ, List.set_cons_zero, List.set_cons_succ, List.length_cons, List.length_nil, List.append_nil, List.nil_append, List.cons_append, piApp_on, oLen_fz, oLen_lst, oLen_tup, oLt_int, oLe_int, oGt_int, oGe_int, oAdd_int, oSub_int, oIx_fz, oIx_lst, oIx_tup, oMax_int, oMin_int, oInt_bl, oInt_int, oIsi_bl, oNeg_int, oTuple_lst, oTuple_tup, iR1_eq, iR2_eq, iSq_eq, iStrM_eq, srcOf_tup, srcOf_lst, srcOf_fz, if_true, if_false, Bool.false_eq_true, Bool.true_eq_false, reduceIte, Nat.reduceAdd, Nat.reduceLeDiff, Nat.reduceEqDiff, Bool.not_true, Bool.not_false, decide_true, decide_false, and_self, and_true, true_and, oMod_int, oMul_r, oMul_l, oLen_str, oAdd_str, oSl_str, oSl_tup, oSl_lst, oSl_fz, rngOk_of, oEq_int, oEq_bl, beq_self_eq_true, Int.toNat_natCast, mFor_eq, mLc_eq, app_get0, app_get1, app_set0, app_set1, tyOk, oTuple_ref, oList_ref, oLen_refM, oIx_refM, oAppM, oExtM, srcOf_refM, ifLt24, ifLe24, B_Table_free_place, e']
end Tb
namespace Tb
theorem dA_there (l : List En) (p : Nat) : dA (thereK l) (.inl (p : Int)) = thereK (l.filter fun e => decide (e.p ≠ p)) := by
  unfold dA thereK
  rw [List.filter_map]
  congr 1
  apply List.filter_congr
  intro e _
  show decide ((Sum.inl (e.p : Int) : KK) ≠ .inl (p : Int)) = _
  rw [decide_eq_decide]
  constructor
  · intro h z; exact h (by rw [z])
  · intro h z; injection z with z; exact h (by omega)
theorem drop_eq {M : Mem} {i u t k : Nat} {T : Tab} (h : TabAt M i u t k T) (p n : Nat) : g_Table_drop [.ref i, .tup [.int p, .int n]] M = match T.leads p n with
    | none => .ok (.bl false) M
    | some _ => .ok (.bl true) (M.set t (.dk false (thereK (T.there.filter fun e => decide (e.p ≠ p))))) := by
  have hl := leads_eq h p n
  have hi := insOf_at h.ins
  cases hx : T.leads p n with
  | none =>
    rw [hx] at hl
    refine runB_rt (N := 2) ?_
    show B_Table_drop [some (.ref i), some (.tup [.int p, .int n])] M = _
    have e0 : oIsN false (optD none) M = .ok (.bl true) M := rfl
    simp -implicitDefEqProofs (disch := first | assumption | omega | (simp only [List.length_cons, List.length_nil, List.length_append, List.length_map, List.length_take, List.length_drop, rngItems_len]; omega)) only [mSeq_eq, mIfS_eq, mSet_eq, mRet_eq, mRetN_eq, mExpr_eq, mPass_eq, mAsg_eq, mPar_eq, mAug_eq, bOf_eq, tOf_eq, tAndM_eq, tOrM_eq, tNotM_eq, tsYes_eq, mOp_eq, mUn_eq, mVar_eq, mC_eq, mCall_eq, mFun_eq, mFunKw_eq, mMeth_eq, mAnd_eq, mOr_eq, mNot_eq, mIf_eq, mChain_eq, mSl_eq, pNone_eq, pSome_eq, aCons_eq, aNil_eq, mTup_eq, mLst_eq, gN_eq, gT_eq, gsNil_eq, gsCons_eq, mkL_t, mkL_f, R.bind_ok, R.bind_no, R.nox_ok, List.getElem?_cons_zero, List.getElem?_cons_succ, List.set_cons_zero, List.set_cons_succ, List.length_cons, List.length_nil, List.append_nil, List.nil_append, List.cons_append, piApp_on, oLen_fz, oLen_lst, oLen_tup, oLt_int, oLe_int, oGt_int, oGe_int, oAdd_int, oSub_int, oIx_fz, oIx_lst, oIx_tup, oMax_int, oMin_int, oInt_bl, oInt_int, oIsi_bl, oNeg_int, oTuple_lst, oTuple_tup, iR1_eq, iR2_eq, iSq_eq, iStrM_eq, srcOf_tup, srcOf_lst, srcOf_fz, if_true, if_false, Bool.false_eq_true, Bool.true_eq_false, reduceIte, Nat.reduceAdd, Nat.reduceLeDiff, Nat.reduceEqDiff, Bool.not_true, Bool.not_false, decide_true, decide_false, and_self, and_true, true_and, oMod_int, oMul_r, oMul_l, oLen_str, oAdd_str, oSl_str, oSl_tup, oSl_lst, oSl_fz, rngOk_of, oEq_int, oEq_bl, beq_self_eq_true, Int.toNat_natCast, mFor_eq, mLc_eq, app_get0, app_get1, app_set0, app_set1, tyOk, oTuple_ref, oList_ref, oLen_refM, oIx_refM, oAppM, oExtM, srcOf_refM, ifLt24, ifLe24, B_Table_drop, mMth_eq, hi, lk_leads, hl, e0]
  | some x =>
    rw [hx] at hl
    refine runB_rt (N := 2) ?_
    show B_Table_drop [some (.ref i), some (.tup [.int p, .int n])] M = _
    have e0 : oIsN false (optD (some x)) M = .ok (.bl false) M := rfl
    have g := gA_there T.there p
    obtain ⟨e, he⟩ : ∃ e, T.there.find? (fun e => decide (e.p = p)) = some e := by
      unfold Tab.leads at hx
      cases hf : T.there.find? fun e => decide (e.p = p) with
      | none => rw [hf] at hx; cases hx
      | some e => exact ⟨e, rfl⟩
    rw [he] at g
    have e1 := oPopE_dk h.th g
    rw [dA_there] at e1
    have e2 : oIxA (.tup [.int p, .int n]) (.int 0) M = .ok (.int p) M := rfl
    simp -implicitDefEqProofs (disch := first | assumption | omega | (simp only [List.length_cons, List.length_nil, List.length_append, List.length_map, List.length_take, List.length_drop, rngItems_len]; omega)) only [mSeq_eq, mIfS_eq, mSet_eq, mRet_eq, mRetN_eq, mExpr_eq, mPass_eq, mAsg_eq, mPar_eq, mAug_eq, bOf_eq, tOf_eq, tAndM_eq, tOrM_eq, tNotM_eq, tsYes_eq, mOp_eq, mUn_eq, mVar_eq, mC_eq, mCall_eq, mFun_eq, mFunKw_eq, mMeth_eq, mAnd_eq, mOr_eq, mNot_eq, mIf_eq, mChain_eq, mSl_eq, pNone_eq, pSome_eq, aCons_eq, aNil_eq, mTup_eq, mLst_eq, gN_eq, gT_eq, gsNil_eq, gsCons_eq, mkL_t, mkL_f, R.bind_ok, R.bind_no, R.nox_ok, List.getElem?_cons_zero, List.getElem?_cons_succ, List.set_cons_zero, List.set_cons_succ, List.length_cons, List.length_nil, List.append_nil, List.nil_append, List.cons_append, piApp_on, oLen_fz, oLen_lst, oLen_tup, oLt_int, oLe_int, oGt_int, oGe_int, oAdd_int, oSub_int, oIx_fz, oIx_lst, oIx_tup, oMax_int, oMin_int, oInt_bl, oInt_int, oIsi_bl, oNeg_int, oTuple_lst, oTuple_tup, iR1_eq, iR2_eq, iSq_eq, iStrM_eq, srcOf_tup, srcOf_lst, srcOf_fz, if_true, if_false, Bool.false_eq_true, Bool.true_eq_false, reduceIte, Nat.reduceAdd, Nat.reduceLeDiff, Nat.reduceEqDiff, Bool.not_true, Bool.not_false, decide_true, decide_false, and_self, and_true, true_and, oMod_int, oMul_r, oMul_l, oLen_str, oAdd_str, oSl_str, oSl_tup, oSl_lst, oSl_fz, rngOk_of, oEq_int, oEq_bl, beq_self_eq_true, Int.toNat_natCast, mFor_eq, mLc_eq, app_get0, app_get1, app_set0, app_set1, tyOk, oTuple_ref, oList_ref, oLen_refM, oIx_refM, oAppM, oExtM, srcOf_refM, ifLt24, ifLe24, B_Table_drop, mMth_eq, mFld_eq, hi, lk_leads, lk_there, hl, e0, h.th, e2, e1]
theorem pA_new_there (l : List En) (e : En) (h : (l.find? fun e' => decide (e'.p = e.p)) = none) : pA (thereK l) (.inl (e.p : Int)) (.tup [.int e.t, thD e.x]) = thereK (l ++ [e]) := by
  unfold pA
  have : ((thereK l).any fun kv => decide (kv.1 = .inl (e.p : Int))) = false := by
    rw [List.any_eq_false]
    intro kv hkv
    unfold thereK at hkv
    obtain ⟨e', he', rfl⟩ := List.mem_map.mp hkv
    have := List.find?_eq_none.mp h e' he'
    simp only [decide_eq_true_eq] at this ⊢
    intro z
    have z : (Sum.inl (e'.p : Int) : KK) = .inl (e.p : Int) := z
    injection z with z
    exact this (by omega)
  rw [this, if_neg Bool.false_ne_true]
  unfold thereK
  rw [List.map_append]
  rfl
theorem pA_new_known (l : List Th) (x : Th) (h : ¬ x ∈ l) : pA (knownK l) (tkk x) (.bl true) = knownK (l ++ [x]) := by
  unfold pA
  have : ((knownK l).any fun kv => decide (kv.1 = tkk x)) = false := by
    rw [List.any_eq_false]
    intro kv hkv
    unfold knownK at hkv
    obtain ⟨y, hy, rfl⟩ := List.mem_map.mp hkv
    simp only [decide_eq_true_eq]
    intro z
    exact h (by rw [← tkk_inj z]; exact hy)
  rw [this, if_neg Bool.false_ne_true]
  unfold knownK
  rw [List.map_append]
  rfl
/-- a new thing at the place f: the table behind it; how often the place was used ahead -/
def Tab.us (T : Tab) (f : Nat) : List Nat := if f = T.used.length then T.used ++ [0] else T.used
def Tab.putAt (T : Tab) (f : Nat) (x : Th) : Tab := ⟨(T.us f).set f ((T.us f).getD f 0 + 1), T.there ++ [⟨f, (T.us f).getD f 0, x⟩], T.known ++ [x]⟩
theorem put_new {M : Mem} {i u t k : Nat} {T : Tab} (h : TabAt M i u t k T) (x : Th) (hx : ¬ x ∈ T.known) (hl : T.there.length < 1000000) (hu : T.used.length < 1000000) (hk : T.known.length < 1000000) {f : Nat} (h0 : f ≤ T.there.length) (h1 : ∀ q, q < f → T.has q = true) (h2 : T.has f = false) (hf : f ≤ T.used.length) :
    ∃ M', g_Table_put [.ref i, .str x.1, .int x.2] M = .ok (.tup [.int f, .int ((T.us f).getD f 0 : Nat)]) M' ∧ TabAt M' i u t k (T.putAt f x) ∧ M'.length = M.length ∧ ∀ j, j ≠ u → j ≠ t → j ≠ k → M'[j]? = M[j]? := by
  have e0 : oInA false (thD x) (.ref k) M = .ok (.bl false) M := by rw [oInA_dt h.kn (keyT_th x), gA_known, decide_eq_false hx]; rfl
  have e1 : oInA false (.tup [.str x.1, .int x.2]) (.ref k) M = .ok (.bl false) M := e0
  have lk : (knownK T.known).length < 16777216 := by unfold knownK; rw [List.length_map]; omega
  have e20 : sPut M (.ref k) (thD x) (.bl true) = some (M.set k (.dt false (knownK (T.known ++ [x])))) := by rw [sPut_dt h.kn (keyT_th x) lk, pA_new_known _ _ hx]
  have e2 : sPut M (.ref k) (.tup [.str x.1, .int x.2]) (.bl true) = some (M.set k (.dt false (knownK (T.known ++ [x])))) := e20
  have A1 := h.setK (T.known ++ [x])
  obtain ⟨M1, hM1⟩ : ∃ M1, M.set k (.dt false (knownK (T.known ++ [x]))) = M1 := ⟨_, rfl⟩
  rw [hM1] at e2 A1
  have e3 := free_eq A1 hl h0 h1 h2
  have i1 := insOf_at A1.ins
  have lu : (usedD T.used).length = T.used.length := by unfold usedD; rw [List.length_map]
  have e4 : oLenA [.ref u] M1 = .ok (.int T.used.length) M1 := by rw [oLenA_ref A1.us, oLen_ref A1.us, lu]
  -- what is noted of uses
  obtain ⟨M2, hM2⟩ : ∃ M2 : Mem, (if f = T.used.length then M1.set u (.lst (usedD (T.used ++ [0]))) else M1) = M2 := ⟨_, rfl⟩
  have A2 : TabAt M2 i u t k { T with known := T.known ++ [x], used := T.us f } := by
    unfold Tab.us
    by_cases hc : f = T.used.length
    · rw [if_pos hc] at hM2 ⊢; rw [← hM2]; exact A1.setU _
    · rw [if_neg hc] at hM2 ⊢; rw [← hM2]; exact A1
  have i2 := insOf_at A2.ins
  have fu : f < (T.us f).length := by
    unfold Tab.us
    split
    · simp; omega
    · omega
  obtain ⟨n, hn⟩ : ∃ n, (T.us f).getD f 0 = n := ⟨_, rfl⟩
  have at_ : L2.atI (usedD (T.us f)) (f : Int) = some (.int n) := atI_nat (by
    unfold usedD
    rw [List.getElem?_map, List.getElem?_eq_getElem fu, ← hn]
    simp [List.getD, List.getElem?_eq_getElem fu])
  have e5 : oIxA (.ref u) (.int f) M2 = .ok (.int n) M2 := by rw [oIxA_ref A2.us, oIx_refM, A2.us]; simp only [at_]
  have e6 := lGet_lst A2.us at_
  have ixf : ixN (usedD (T.us f)).length (f : Int) = some f := ixN_nat (by unfold usedD; rw [List.length_map]; exact fu)
  have us' : (usedD (T.us f)).set f (.int ((n : Int) + 1)) = usedD ((T.us f).set f (n + 1)) := by
    unfold usedD
    rw [List.map_set]
    rfl
  have e7 : sPut M2 (.ref u) (.int f) (.int ((n : Int) + 1)) = some (M2.set u (.lst (usedD ((T.us f).set f (n + 1))))) := by rw [sPut_lst A2.us ixf, us']
  have A3 := A2.setU ((T.us f).set f (n + 1))
  obtain ⟨M3, hM3⟩ : ∃ M3, M2.set u (.lst (usedD ((T.us f).set f (n + 1)))) = M3 := ⟨_, rfl⟩
  rw [hM3] at e7 A3
  have i3 := insOf_at A3.ins
  have lt : (thereK T.there).length < 16777216 := by unfold thereK; rw [List.length_map]; omega
  have hnone : (T.there.find? fun e' => decide (e'.p = f)) = none := by
    unfold Tab.has at h2
    cases hq : T.there.find? fun e' => decide (e'.p = f) with
    | none => rfl
    | some e => rw [hq] at h2; cases h2
  have e8 : sPut M3 (.ref t) (.int f) (.tup [.int n, .tup [.str x.1, .int x.2]]) = some (M3.set t (.dk false (thereK (T.there ++ [⟨f, n, x⟩])))) := by
    rw [sPut_dk A3.th lt]
    have := pA_new_there T.there ⟨f, n, x⟩ hnone
    exact congrArg (fun l => some (M3.set t (.dk false l))) this
  have A4 := A3.setT (T.there ++ [⟨f, n, x⟩])
  have oi : ∀ (a b : Int) (M : Mem), oI (fun i j => .int (i + j)) (.int a) (.int b) M = .ok (.int (a + b)) M := fun _ _ _ => rfl
  refine ⟨_, runB_rt (N := 6) ?_, by unfold Tab.putAt; rw [hn]; exact A4, ?_, fun j j1 j2 j3 => ?_⟩
  · show B_Table_put [some (.ref i), some (.str x.1), some (.int x.2), none, none, none] M = _
    rw [hn]
    by_cases hc : f = T.used.length
    · have b : ((f : Int) == (T.used.length : Int)) = true := by rw [beq_iff_eq]; omega
      rw [if_pos hc] at hM2
      have ap : (usedD T.used) ++ [.int 0] = usedD (T.used ++ [0]) := by unfold usedD; rw [List.map_append]; rfl
      have lu' : (usedD T.used).length < 16777216 := by omega
      have hap : oAppend (.ref u) [.int 0] M1 = .ok .non M2 := by rw [oAppend_at A1.us lu', ap, hM2]
      simp -implicitDefEqProofs (disch := first | assumption | omega | (simp only [List.length_cons, List.length_nil, List.length_append, List.length_map, List.length_take, List.length_drop, rngItems_len]; omega)) only [mSeq_eq, mIfS_eq, mSet_eq, mRet_eq, mRetN_eq, mExpr_eq, mPass_eq, mAsg_eq, mPar_eq, mAug_eq, bOf_eq, tOf_eq, tAndM_eq, tOrM_eq, tNotM_eq, tsYes_eq, mOp_eq, mUn_eq, mVar_eq, mC_eq, mCall_eq, mFun_eq, mFunKw_eq, mMeth_eq, mAnd_eq, mOr_eq, mNot_eq, mIf_eq, mChain_eq, mSl_eq, pNone_eq, pSome_eq, aCons_eq, aNil_eq, mTup_eq, mLst_eq, gN_eq, gT_eq, gsNil_eq, gsCons_eq, mkL_t, mkL_f, R.bind_ok, R.bind_no, R.nox_ok, List.getElem?_cons_zero, List.getElem?_cons_succ, List.set_cons_zero, List.set_cons_succ, List.length_cons, List.length_nil, List.append_nil, List.nil_append, List.cons_append, piApp_on, oLen_fz, oLen_lst, oLen_tup, oLt_int, oLe_int, oGt_int, oGe_int, oAdd_int, oSub_int, oIx_fz, oIx_lst, oIx_tup, oMax_int, oMin_int, oInt_bl, oInt_int, oIsi_bl, oNeg_int, oTuple_lst, oTuple_tup, iR1_eq, iR2_eq, iSq_eq, iStrM_eq, srcOf_tup, srcOf_lst, srcOf_fz, if_true, if_false, Bool.false_eq_true, Bool.true_eq_false, reduceIte, Nat.reduceAdd, Nat.reduceLeDiff, Nat.reduceEqDiff, Bool.not_true, Bool.not_false, decide_true, decide_false, and_self, and_true, true_and, oMod_int, oMul_r, oMul_l, oLen_str, oAdd_str, oSl_str, oSl_tup, oSl_lst, oSl_fz, rngOk_of, oEq_int, oEq_bl, beq_self_eq_true, Int.toNat_natCast, mFor_eq, mLc_eq, app_get0, app_get1, app_set0, app_set1, tyOk, oTuple_ref, oList_ref, oLen_refM, oIx_refM, oAppM, oExtM, srcOf_refM, ifLt24, ifLe24, B_Table_put, mFld_eq, insOf_at h.ins, lk_known, e1, gIxA_eq, e2, mMth_eq, i1, lk_free, e3, lk_used, e4, b, A1.us, hap, i2, e5, mAugIx_eq, e6, oi, e7, i3, lk_there, e8]
    · have b : ((f : Int) == (T.used.length : Int)) = false := by rw [beq_eq_false_iff_ne]; omega
      rw [if_neg hc] at hM2
      subst hM2
      simp -implicitDefEqProofs (disch := first | assumption | omega | (simp only [List.length_cons, List.length_nil, List.length_append, List.length_map, List.length_take, List.length_drop, rngItems_len]; omega)) only [mSeq_eq, mIfS_eq, mSet_eq, mRet_eq, mRetN_eq, mExpr_eq, mPass_eq, mAsg_eq, mPar_eq, mAug_eq, bOf_eq, tOf_eq, tAndM_eq, tOrM_eq, tNotM_eq, tsYes_eq, mOp_eq, mUn_eq, mVar_eq, mC_eq, mCall_eq, mFun_eq, mFunKw_eq, mMeth_eq, mAnd_eq, mOr_eq, mNot_eq, mIf_eq, mChain_eq, mSl_eq, pNone_eq, pSome_eq, aCons_eq, aNil_eq, mTup_eq, mLst_eq, gN_eq, gT_eq, gsNil_eq, gsCons_eq, mkL_t, mkL_f, R.bind_ok, R.bind_no, R.nox_ok, List.getElem?_cons_zero, List.getElem?_cons_succ, List.set_cons_zero, List.set_cons_succ, List.length_cons, List.length_nil, List.append_nil, List.nil_append, List.cons_append, piApp_on, oLen_fz, oLen_lst, oLen_tup, oLt_int, oLe_int, oGt_int, oGe_int, oAdd_int, oSub_int, oIx_fz, oIx_lst, oIx_tup, oMax_int, oMin_int, oInt_bl, oInt_int, oIsi_bl, oNeg_int, oTuple_lst, oTuple_tup, iR1_eq, iR2_eq, iSq_eq, iStrM_eq, srcOf_tup, srcOf_lst, srcOf_fz, if_true, if_false, Bool.false_eq_true, Bool.true_eq_false, reduceIte, Nat.reduceAdd, Nat.reduceLeDiff, Nat.reduceEqDiff, Bool.not_true, Bool.not_false, decide_true, decide_false, and_self, and_true, true_and, oMod_int, oMul_r, oMul_l, oLen_str, oAdd_str, oSl_str, oSl_tup, oSl_lst, oSl_fz, rngOk_of, oEq_int, oEq_bl, beq_self_eq_true, Int.toNat_natCast, mFor_eq, mLc_eq, app_get0, app_get1, app_set0, app_set1, tyOk, oTuple_ref, oList_ref, oLen_refM, oIx_refM, oAppM, oExtM, srcOf_refM, ifLt24, ifLe24, B_Table_put, mFld_eq, insOf_at h.ins, lk_known, e1, gIxA_eq, e2, mMth_eq, i1, lk_free, e3, lk_used, e4, b, i2, e5, mAugIx_eq, e6, oi, e7, i3, lk_there, e8]
  · rw [← hM3, ← hM2, ← hM1]
    split <;> simp
  · rw [← hM3, ← hM2, ← hM1]
    split <;> simp [List.getElem?_set_ne, Ne.symm j1, Ne.symm j2, Ne.symm j3]
end Tb
namespace Tb
def hD (e : En) : D := .tup [.int e.p, .int e.t]
def pairsOk (l : List D) : Prop := ∀ d ∈ l, ∃ a b : Int, d = .tup [.int a, .int b]
theorem sortOk_pairs {l : List D} (h : pairsOk l) : sortOk l := by
  refine ⟨fun d hd => ?_, fun d hd d' hd' => ?_, .inl fun d hd => ?_⟩
  · obtain ⟨a, b, rfl⟩ := h d hd
    refine ⟨rfl, ?_⟩
    show (PyData.tuple [.int a, .int b]).depth ≤ 60
    simp [PyData.depth, PyData.depthAll]
  · obtain ⟨a, b, rfl⟩ := h d hd
    obtain ⟨a', b', rfl⟩ := h d' hd'
    rfl
  · obtain ⟨a, b, rfl⟩ := h d hd
    rfl
theorem sorted_pairs {l : List D} {M : Mem} (h : pairsOk l) : oSorted false [.lst l] M = .ok (.lst (sortD l)) M := by
  simp only [oSorted, lstOf, if_pos (sortOk_pairs h), mkL_f]
theorem set_back {M : Mem} {t : Nat} {c d : Cell} (h : M[t]? = some c) : (M.set t d).set t c = M := by
  rw [List.set_set]
  obtain ⟨h1, h2⟩ := List.getElem?_eq_some_iff.mp h
  rw [← h2, List.set_getElem_self]
theorem handles_eq {M : Mem} {i u t k : Nat} {T : Tab} (h : TabAt M i u t k T) (hl : T.there.length < 1000000) : g_Table_handles [.ref i] M = .ok (.lst (sortD (T.there.map hD))) M := by
  refine runB_rt (N := 4) ?_
  show B_Table_handles [some (.ref i), none, none, none] M = _
  have hi := insOf_at h.ins
  have ht : t < M.length := h.lt.2.2.1
  have hit := h.it
  have fd : (mFld 0 "there" (mVar 0)) [some (.ref i), none, none, none] M = .ok (.ref t) M := by push_cast [mFld_eq, hi, lk_there]
  obtain ⟨M', hM'⟩ : ∃ M', M.set t (.dk true (thereK T.there)) = M' := ⟨_, rfl⟩
  have hi' : insOf 0 M' (.ref i) = some (i, tabF u t k) := insOf_at (by rw [← hM', List.getElem?_set_ne (Ne.symm hit)]; exact h.ins)
  have hlk : M'[t]? = some (.dk true (thereK T.there)) := by rw [← hM']; exact List.getElem?_set_self ht
  have c := compL_m (P := fun _ => True) (M := M') trivial (g := gT 2 (gsCons (gN 1) (gsCons (gT 2 (gsCons (gN 2) (gsCons (gN 3) gsNil))) gsNil))) (f := C_Table_handles_0) (env := wipeE [some (.ref i), none, none, none] [1, 2, 3]) (fun e : En => .tup [keyD (En.kv e).1, (En.kv e).2]) hD T.there fun e _ =>
    ⟨[some (.ref i), some (.int e.p), some (.int e.t), some (thD e.x)], rfl, rfl⟩
  have hs : ((thereK T.there).map fun kv => D.tup [keyD kv.1, kv.2]) = T.there.map fun e : En => .tup [keyD (En.kv e).1, (En.kv e).2] := by unfold thereK; rw [List.map_map]; rfl
  have fi : iItemsA (mFld 0 "there" (mVar 0)) [some (.ref i), none, none, none] M' = .ok ⟨T.there.map fun e : En => .tup [keyD (En.kv e).1, (En.kv e).2], fun _ => True⟩ M' := by
    have fd' : (mFld 0 "there" (mVar 0)) [some (.ref i), none, none, none] M' = .ok (.ref t) M' := by push_cast [mFld_eq, hi', lk_there]
    simp only [iItemsA, fd', R.bind_ok, hlk, hs]
  have hlen : (T.there.map fun e : En => D.tup [keyD (En.kv e).1, (En.kv e).2]).length < 16777216 := by rw [List.length_map]; omega
  have e1 : (mLc false [1, 2, 3] (iItemsA (mFld 0 "there" (mVar 0))) (gT 2 (gsCons (gN 1) (gsCons (gT 2 (gsCons (gN 2) (gsCons (gN 3) gsNil))) gsNil))) tsYes C_Table_handles_0) [some (.ref i), none, none, none] M' = .ok (.lst (T.there.map hD)) M' := by
    simp only [mLc_eq, fi, R.bind_ok, hlen, if_true, c, R.nox_ok, mkL_f]
  have e2 := lock_dk (f := mLc false [1, 2, 3] (iItemsA (mFld 0 "there" (mVar 0))) (gT 2 (gsCons (gN 1) (gsCons (gT 2 (gsCons (gN 2) (gsCons (gN 3) gsNil))) gsNil))) tsYes C_Table_handles_0) fd h.th (by rw [hM']; exact e1) hlk
  rw [← hM', set_back h.th] at e2
  have e3 : mLockE (mFld 0 "there" (mVar 0)) (mLc false [1, 2, 3] (iItemsA (mFld 0 "there" (mVar 0))) (gT 2 (gsCons (gN 1) (gsCons (gT 2 (gsCons (gN 2) (gsCons (gN 3) gsNil))) gsNil))) tsYes C_Table_handles_0) [some (.ref i), none, none, none] M = .ok (.lst (T.there.map hD)) M := e2
  have e4 : oSorted false [.lst (T.there.map hD)] M = .ok (.lst (sortD (T.there.map hD))) M := sorted_pairs fun d hd => by obtain ⟨e, _, rfl⟩ := List.mem_map.mp hd; exact ⟨_, _, rfl⟩
  simp -implicitDefEqProofs (disch := first | assumption | omega | (simp only [List.length_cons, List.length_nil, List.length_append, List.length_map, List.length_take, List.length_drop, rngItems_len]; omega)) only [mSeq_eq, mIfS_eq, mSet_eq, mRet_eq, mRetN_eq, mExpr_eq, mPass_eq, mAsg_eq, mPar_eq, mAug_eq, bOf_eq, tOf_eq, tAndM_eq, tOrM_eq, tNotM_eq, tsYes_eq, mOp_eq, mUn_eq, mVar_eq, mC_eq, mCall_eq, mFun_eq, mFunKw_eq, mMeth_eq, mAnd_eq, mOr_eq, mNot_eq, mIf_eq, mChain_eq, mSl_eq, pNone_eq, pSome_eq, aCons_eq, aNil_eq, mTup_eq, mLst_eq, gN_eq, gT_eq, gsNil_eq, gsCons_eq, mkL_t, mkL_f, R.bind_ok, R.bind_no, R.nox_ok, List.getElem?_cons_zero, List.getElem?_cons_succ, List.set_cons_zero, List.set_cons_succ, List.length_cons, List.length_nil, List.append_nil, List.nil_append, List.cons_append, piApp_on, oLen_fz, oLen_lst, oLen_tup, oLt_int, oLe_int, oGt_int, oGe_int, oAdd_int, oSub_int, oIx_fz, oIx_lst, oIx_tup, oMax_int, oMin_int, oInt_bl, oInt_int, oIsi_bl, oNeg_int, oTuple_lst, oTuple_tup, iR1_eq, iR2_eq, iSq_eq, iStrM_eq, srcOf_tup, srcOf_lst, srcOf_fz, if_true, if_false, Bool.false_eq_true, Bool.true_eq_false, reduceIte, Nat.reduceAdd, Nat.reduceLeDiff, Nat.reduceEqDiff, Bool.not_true, Bool.not_false, decide_true, decide_false, and_self, and_true, true_and, oMod_int, oMul_r, oMul_l, oLen_str, oAdd_str, oSl_str, oSl_tup, oSl_lst, oSl_fz, rngOk_of, oEq_int, oEq_bl, beq_self_eq_true, Int.toNat_natCast, mFor_eq, mLc_eq, app_get0, app_get1, app_set0, app_set1, tyOk, oTuple_ref, oList_ref, oLen_refM, oIx_refM, oAppM, oExtM, srcOf_refM, ifLt24, ifLe24, B_Table_handles, e3, e4]
theorem init_eq (M : Mem) : g_Table___init__ [.ref M.length] (M ++ [.ins 0 []]) = .ok .non (M ++ [.ins 0 (tabF (M.length + 1) (M.length + 2) (M.length + 3)), .lst [], .dk false [], .dt false []]) := by
  have hg : ∀ {c : Cell} {B : Mem}, (M ++ c :: B)[M.length]? = some c := fun {c B} => app_get0 rfl
  have hs : ∀ {c d : Cell} {B : Mem}, (M ++ c :: B).set M.length d = M ++ d :: B := fun {c d B} => app_set0 rfl
  have n1 : ¬ (("used" : Str) = "there") := by decide +kernel
  have n2 : ¬ (("used" : Str) = "known") := by decide +kernel
  have n3 : ¬ (("there" : Str) = "known") := by decide +kernel
  have k0 : (0 < 1000) = True := by simp
  have k1 : (1 < 1000) = True := by simp
  have k2 : (2 < 1000) = True := by simp
  have e1 : putD "used" (.ref (M.length + 1)) [] = ([("used", .ref (M.length + 1))] : List (Str × D)) := rfl
  have e2 : putD "there" (.ref (M.length + 2)) ([("used", .ref (M.length + 1))] : List (Str × D)) = ([("used", .ref (M.length + 1)), ("there", .ref (M.length + 2))] : List (Str × D)) := by simp only [putD, n1, if_false]
  have e3 : putD "known" (.ref (M.length + 3)) ([("used", .ref (M.length + 1)), ("there", .ref (M.length + 2))] : List (Str × D)) = tabF (M.length + 1) (M.length + 2) (M.length + 3) := by simp only [putD, tabF, n2, n3, if_false]
  refine runB_nx (N := 1) (env := [some (.ref M.length)]) ?_
  show B_Table___init__ [some (.ref M.length)] (M ++ [.ins 0 []]) = _
  push_cast [B_Table___init__, mFldSet_eq, insOf_at hg, hs, e1, e2, e3, mDNewK_eq, mDNewT_eq, List.length_append, List.append_assoc, k0, k1, k2]
end Tb
structure Ev where
  p : Nat
  t : Nat
  x : Tb.Th
  pl : Bn
  rs : List (List Nat)
  f : Int
def Ev.en (e : Ev) : Tb.En := ⟨e.p, e.t, e.x⟩
def Ev.b (e : Ev) : Bn × List (List Nat) × Int := (e.pl, e.rs, e.f)
structure St where
  V : List Ev
  us : List Nat
  al : List (Tb.Th × (Bn × List (List Nat) × Int))
def St.tab (s : St) : Tb.Tab := ⟨s.us, s.V.map Ev.en, s.al.map (·.1)⟩
theorem fr_ex (s : St) : ∃ f, f ≤ s.tab.there.length ∧ (∀ q, q < f → s.tab.has q = true) ∧ s.tab.has f = false := Tb.free_is s.tab
noncomputable def frP (s : St) : Nat := (fr_ex s).choose
theorem frq1 (s : St) : frP s ≤ s.tab.there.length := (fr_ex s).choose_spec.1
theorem frq2 (s : St) : ∀ q, q < frP s → s.tab.has q = true := (fr_ex s).choose_spec.2.1
theorem frq3 (s : St) : s.tab.has (frP s) = false := (fr_ex s).choose_spec.2.2
theorem has_V {s : St} {p : Nat} : s.tab.has p = true ↔ p ∈ s.V.map (·.p) := by
  rw [Tb.has_iff]
  constructor
  · rintro ⟨e, he, hp⟩
    obtain ⟨v, hv, rfl⟩ := List.mem_map.mp he
    exact List.mem_map.mpr ⟨v, hv, hp⟩
  · intro h
    obtain ⟨v, hv, hp⟩ := List.mem_map.mp h
    exact ⟨v.en, List.mem_map.mpr ⟨v, hv, rfl⟩, hp⟩
noncomputable def frT (s : St) : Nat := (s.tab.us (frP s)).getD (frP s) 0
noncomputable def stPut (s : St) (hm : List Nat) (n : Int) (pl : Bn) (rs : List (List Nat)) (f : Int) : St := ⟨s.V ++ [⟨frP s, frT s, (hm, n), pl, rs, f⟩], (s.tab.us (frP s)).set (frP s) (frT s + 1), s.al ++ [((hm, n), (pl, rs, f))]⟩
def stDrop (s : St) (p : Int) : St := { s with V := s.V.filter fun e => decide ((e.p : Int) ≠ p) }
open Classical in
noncomputable def stF (b : Bn) (s : St) : Rw → St
  | .put _ b' hm n pl rs f _ => if b' = b then stPut s hm n pl rs f else s
  | .drop _ b' p => if b' = b then stDrop s p else s
  | _ => s
theorem stF_p1 {b : Bn} {s : St} {t : Int} {hm : List Nat} {n : Int} {pl : Bn} {rs : List (List Nat)} {f : Int} {a : Option Ak} : stF b s (.put t b hm n pl rs f a) = stPut s hm n pl rs f := by simp only [stF, if_true]
theorem stF_p2 {b b' : Bn} {s : St} {t : Int} {hm : List Nat} {n : Int} {pl : Bn} {rs : List (List Nat)} {f : Int} {a : Option Ak} (c : ¬ b' = b) : stF b s (.put t b' hm n pl rs f a) = s := by simp only [stF, if_neg c]
theorem stF_d1 {b : Bn} {s : St} {t p : Int} : stF b s (.drop t b p) = stDrop s p := by simp only [stF, if_true]
theorem stF_d2 {b b' : Bn} {s : St} {t p : Int} (c : ¬ b' = b) : stF b s (.drop t b' p) = s := by simp only [stF, if_neg c]
theorem put_tab (s : St) (hm : List Nat) (n : Int) (pl : Bn) (rs : List (List Nat)) (f : Int) : (stPut s hm n pl rs f).tab = s.tab.putAt (frP s) (hm, n) := by
  unfold stPut St.tab Tb.Tab.putAt frT
  simp [Ev.en, St.tab]
structure SOk (b : Bn) (m : Nat) (th : List (Bn × Int)) (ns : List Int) (s : St) : Prop where
  nd : (s.V.map (·.p)).Nodup
  pl : ∀ p : Nat, p ∈ s.V.map (·.p) ↔ (b, (p : Int)) ∈ th
  kn : ∀ y ∈ s.al, y.1.2 ∈ ns
  na : (s.al.map (·.1)).Nodup
  hv : ∀ e ∈ s.V, (e.x, e.b) ∈ s.al
  uz : ∀ e ∈ s.V, e.p < s.us.length
  lv : s.V.length ≤ m
  lu : s.us.length ≤ m
  la : s.al.length ≤ m
  eb : ∀ y ∈ s.al, bw 6 y.1.1 ∧ inB y.1.2 ∧ bnB y.2.1 ∧ (∀ w ∈ y.2.2.1, bw 6 w) ∧ y.2.2.1.length ≤ 4 ∧ inB y.2.2.2
  et : ∀ e ∈ s.V, e.p < m ∧ e.t < m
  ub : ∀ u ∈ s.us, u ≤ m
def thN0 (th : List (Bn × Int)) : Prop := ∀ x ∈ th, ∃ q : Nat, x.2 = (q : Int)
theorem getD_le {l : List Nat} {m : Nat} (h : ∀ u ∈ l, u ≤ m) (i : Nat) : l.getD i 0 ≤ m := by
  rw [List.getD_eq_getElem?_getD]
  cases e : l[i]? with
  | none => exact Nat.zero_le _
  | some u => exact h u (List.mem_of_getElem? e)
theorem us_mem {s : St} {m : Nat} (h : ∀ u ∈ s.us, u ≤ m) : ∀ u ∈ s.tab.us (frP s), u ≤ m := by
  intro u hu
  unfold Tb.Tab.us at hu
  split at hu
  · rcases List.mem_append.mp hu with z | z
    · exact h u z
    · rw [List.mem_singleton.mp z]; exact Nat.zero_le _
  · exact h u hu
theorem us_len {s : St} {m : Nat} (h : s.us.length ≤ m) : (s.tab.us (frP s)).length ≤ m + 1 ∧ s.us.length ≤ (s.tab.us (frP s)).length := by
  unfold Tb.Tab.us
  split
  · rw [List.length_append]; exact ⟨by show s.us.length + 1 ≤ _; omega, by show s.us.length ≤ s.us.length + 1; omega⟩
  · exact ⟨by show s.us.length ≤ _; omega, Nat.le_refl _⟩
theorem fr_le {b : Bn} {m : Nat} {th : List (Bn × Int)} {ns : List Int} {s : St} (h : SOk b m th ns s) : frP s ≤ s.us.length := by
  by_cases c : frP s = 0
  · rw [c]; exact Nat.zero_le _
  · have := has_V.mp (frq2 s (frP s - 1) (by omega))
    obtain ⟨e, he, hp⟩ := List.mem_map.mp this
    have := h.uz e he
    omega
theorem fr_lt {b : Bn} {m : Nat} {th : List (Bn × Int)} {ns : List Int} {s : St} (h : SOk b m th ns s) : frP s < (s.tab.us (frP s)).length := by
  have h1 := fr_le h
  unfold Tb.Tab.us
  split
  · rename_i c
    rw [List.length_append]
    show frP s < s.us.length + 1
    omega
  · rename_i c
    have c : ¬ frP s = s.us.length := c
    show frP s < s.us.length
    omega
theorem SOk.mono {b : Bn} {m m' : Nat} {th : List (Bn × Int)} {ns : List Int} {s : St} (h : SOk b m th ns s) (k : m ≤ m') : SOk b m' th ns s :=
  ⟨h.nd, h.pl, h.kn, h.na, h.hv, h.uz, Nat.le_trans h.lv k, Nat.le_trans h.lu k, Nat.le_trans h.la k, h.eb, fun e he => ⟨Nat.lt_of_lt_of_le (h.et e he).1 k, Nat.lt_of_lt_of_le (h.et e he).2 k⟩, fun u hu => Nat.le_trans (h.ub u hu) k⟩
theorem SOk.put {b : Bn} {m : Nat} {th : List (Bn × Int)} {ns : List Int} {s : St} (h : SOk b m th ns s) {t : Int} {hm : List Nat} {n : Int} {pl : Bn} {rs : List (List Nat)} {f : Int} {a : Option Ak} (hr : rwB (.put t b hm n pl rs f a)) {p : Nat} (hp : leastF th b p) (hn : ¬ n ∈ ns) : SOk b (m + 1) (th ++ [(b, (p : Int))]) (ns ++ [n]) (stPut s hm n pl rs f) := by
  have ef : frP s = p := by
    have a1 : ∀ q, q < frP s → (b, (q : Int)) ∈ th := fun q hq => (h.pl q).mp (has_V.mp (frq2 s q hq))
    have a2 : ¬ (b, (frP s : Int)) ∈ th := fun z => by
      have := has_V.mpr ((h.pl _).mpr z)
      rw [frq3 s] at this
      cases this
    rcases Nat.lt_trichotomy (frP s) p with z | z | z
    · exact absurd (hp.1 _ z) a2
    · exact z
    · exact absurd (a1 _ z) hp.2
  have fn : ¬ frP s ∈ s.V.map (·.p) := fun z => by
    have := has_V.mpr z
    rw [frq3 s] at this
    cases this
  have hlt := fr_lt h
  have hul := us_len h.lu
  have flm : frP s ≤ m := Nat.le_trans (fr_le h) h.lu
  have ht : frT s ≤ m := getD_le (us_mem h.ub) _
  obtain ⟨r1, r2, r3, r4, r5, r6, r7, r8, r9⟩ := hr
  refine ⟨?_, fun q => ?_, fun y hy => ?_, ?_, fun e he => ?_, fun e he => ?_, ?_, ?_, ?_, fun y hy => ?_, fun e he => ?_, fun u hu => ?_⟩
  · show ((s.V ++ [_]).map _).Nodup
    rw [List.map_append, List.nodup_append]
    exact ⟨h.nd, by simp, fun x hx y hy => by
      rw [List.map_cons, List.map_nil, List.mem_singleton] at hy
      intro z
      exact fn (by rw [z, hy] at hx; exact hx)⟩
  · show q ∈ (s.V ++ [_]).map _ ↔ _
    rw [List.map_append, List.mem_append, List.mem_append, List.map_cons, List.map_nil, List.mem_singleton, List.mem_singleton, h.pl q, ef]
    constructor
    · rintro (z | z)
      · exact .inl z
      · exact .inr (by rw [z])
    · rintro (z | z)
      · exact .inl z
      · exact .inr (show q = p by have := congrArg Prod.snd z; simp only at this; omega)
  · rcases List.mem_append.mp hy with z | z
    · exact List.mem_append_left _ (h.kn y z)
    · rw [List.mem_singleton.mp z]; exact List.mem_append_right _ (List.mem_singleton.mpr rfl)
  · show ((s.al ++ [_]).map _).Nodup
    rw [List.map_append, List.nodup_append]
    exact ⟨h.na, by simp, fun x hx y hy => by
      rw [List.map_cons, List.map_nil, List.mem_singleton] at hy
      intro z
      obtain ⟨w, hw, e⟩ := List.mem_map.mp hx
      have := h.kn w hw
      rw [e, z, hy] at this
      exact hn this⟩
  · rcases List.mem_append.mp he with z | z
    · exact List.mem_append_left _ (h.hv e z)
    · rw [List.mem_singleton.mp z]; exact List.mem_append_right _ (List.mem_singleton.mpr rfl)
  · show e.p < (List.set _ _ _).length
    rw [List.length_set]
    rcases List.mem_append.mp he with z | z
    · have := h.uz e z; omega
    · rw [List.mem_singleton.mp z]; exact hlt
  · show (s.V ++ [_]).length ≤ _
    rw [List.length_append]; have := h.lv; simp; omega
  · show (List.set _ _ _).length ≤ _
    rw [List.length_set]; exact hul.1
  · show (s.al ++ [_]).length ≤ _
    rw [List.length_append]; have := h.la; simp; omega
  · rcases List.mem_append.mp hy with z | z
    · exact h.eb y z
    · rw [List.mem_singleton.mp z]; exact ⟨r3, r4, r5, r6, r7, r8⟩
  · rcases List.mem_append.mp he with z | z
    · have := h.et e z; omega
    · rw [List.mem_singleton.mp z]; exact ⟨by show frP s < _; omega, by show frT s < _; omega⟩
  · rcases List.mem_or_eq_of_mem_set hu with z | z
    · have := us_mem h.ub u z; omega
    · rw [z]; omega
theorem SOk.drop {b : Bn} {m : Nat} {th : List (Bn × Int)} {ns : List Int} {s : St} (h : SOk b m th ns s) (p : Int) : SOk b m (th.filter fun x => decide (x ≠ (b, p))) ns (stDrop s p) := by
  have sub : ∀ e ∈ (stDrop s p).V, e ∈ s.V := fun e he => (List.mem_filter.mp he).1
  refine ⟨?_, fun q => ?_, h.kn, h.na, fun e he => h.hv e (sub e he), fun e he => h.uz e (sub e he), Nat.le_trans (List.length_filter_le _ _) h.lv, h.lu, h.la, h.eb, fun e he => h.et e (sub e he), h.ub⟩
  · exact h.nd.sublist ((List.filter_sublist).map _)
  · rw [List.mem_filter, ← h.pl q]
    constructor
    · intro z
      obtain ⟨e, he, hp⟩ := List.mem_map.mp z
      obtain ⟨h1, h2⟩ := List.mem_filter.mp he
      refine ⟨List.mem_map.mpr ⟨e, h1, hp⟩, decide_eq_true fun w => of_decide_eq_true h2 ?_⟩
      have := congrArg Prod.snd w
      simp only at this
      rw [hp]
      exact this
    · rintro ⟨z, w⟩
      obtain ⟨e, he, hp⟩ := List.mem_map.mp z
      refine List.mem_map.mpr ⟨e, List.mem_filter.mpr ⟨he, decide_eq_true fun y => of_decide_eq_true w ?_⟩, hp⟩
      rw [← hp, y]
theorem SOk.th {b : Bn} {m : Nat} {th th' : List (Bn × Int)} {ns ns' : List Int} {s : St} (h : SOk b m th ns s) (ht : ∀ q : Nat, (b, (q : Int)) ∈ th ↔ (b, (q : Int)) ∈ th') (hn : ∀ n ∈ ns, n ∈ ns') : SOk b m th' ns' s :=
  ⟨h.nd, fun q => (h.pl q).trans (ht q), fun y hy => hn _ (h.kn y hy), h.na, h.hv, h.uz, h.lv, h.lu, h.la, h.eb, h.et, h.ub⟩
theorem SOk.row {b : Bn} {m : Nat} {th th' : List (Bn × Int)} {ns ns' : List Int} {s : St} {r : Rw} (h : SOk b m th ns s) (hr : rwB r) (t : ThSt th r th') (hn : match r with
      | .put _ _ _ n _ _ _ _ => ¬ n ∈ ns ∧ ns' = ns ++ [n]
      | _ => ns' = ns) : SOk b (m + 1) th' ns' (stF b s r) := by
  cases t with
  | @put t b' hm n pl rs f a p hp =>
    obtain ⟨h1, h2⟩ := hn
    by_cases c : b' = b
    · subst c
      rw [stF_p1, h2]
      exact h.put hr hp h1
    · rw [stF_p2 c]
      refine (h.mono (Nat.le_succ m)).th (fun q => ?_) (fun x hx => by rw [h2]; exact List.mem_append_left _ hx)
      rw [List.mem_append, List.mem_singleton]
      exact ⟨fun z => .inl z, fun z => by
        rcases z with z | z
        · exact z
        · exact absurd (congrArg Prod.fst z).symm c⟩
  | @drop t b' p hm =>
    have h2 : ns' = ns := hn
    rw [h2]
    by_cases c : b' = b
    · subst c
      rw [stF_d1]
      exact (h.drop p).mono (Nat.le_succ m)
    · rw [stF_d2 c]
      refine (h.mono (Nat.le_succ m)).th (fun q => ?_) (fun x hx => hx)
      rw [List.mem_filter]
      exact ⟨fun z => ⟨z, decide_eq_true fun w => c (congrArg Prod.fst w).symm⟩, fun z => z.1⟩
  | other h1 h2 =>
    have e : stF b s r = s := by cases r <;> first | rfl | (exact absurd rfl h1) | (exact absurd rfl h2)
    have e2 : ns' = ns := by cases r <;> first | exact hn | (exact absurd rfl h1)
    rw [e, e2]
    exact h.mono (Nat.le_succ m)
theorem sok0 (b : Bn) : SOk b 0 [] [] ⟨[], [], []⟩ := ⟨List.nodup_nil, fun p => ⟨fun z => (by cases z), fun z => (by cases z)⟩, fun y h => (by cases h), List.nodup_nil, fun e h => (by cases h), fun e h => (by cases h), Nat.le_refl _, Nat.le_refl _, Nat.le_refl _, fun y h => (by cases h), fun e h => (by cases h), fun u h => (by cases h)⟩
theorem hist_take {L : List Rw} {th : List (Bn × Int)} {ns cs : List Int} (h : Hist L th ns cs) (j : Nat) : ∃ th' ns' cs', Hist (L.take j) th' ns' cs' := by
  induction h with
  | nil => exact ⟨[], [], [], by rw [List.take_nil]; exact .nil⟩
  | @snoc l th th' ns ns' cs cs' r h ok t hn hc ih =>
    by_cases c : j ≤ l.length
    · rw [List.take_append_of_le_length c]; exact ih
    · rw [List.take_of_length_le (by rw [List.length_append, List.length_singleton]; omega)]
      exact ⟨_, _, _, .snoc h ok t hn hc⟩
theorem hist_n0 {L : List Rw} {th : List (Bn × Int)} {ns cs : List Int} (h : Hist L th ns cs) : thN0 th := by
  induction h with
  | nil => exact fun x hx => by cases hx
  | snoc h ok t hn hc ih =>
    cases t with
    | put hp =>
      intro x hx
      rcases List.mem_append.mp hx with z | z
      · exact ih x z
      · rw [List.mem_singleton.mp z]; exact ⟨_, rfl⟩
    | drop hm => exact fun x hx => ih x (List.mem_filter.mp hx).1
    | other h1 h2 => exact ih
noncomputable def stL (b : Bn) (l : List Rw) : St := l.foldl (stF b) ⟨[], [], []⟩
theorem stL_ok {b : Bn} {L : List Rw} {th : List (Bn × Int)} {ns cs : List Int} (h : Hist L th ns cs) : SOk b L.length th ns (stL b L) := by
  induction h with
  | nil => exact sok0 b
  | snoc h ok t hn hc ih =>
    unfold stL at ih ⊢
    rw [List.foldl_append, List.length_append]
    exact ih.row ok t hn
/-- rows are walked -/
def RunL (g : FG) (B : FS) : List D → Fn.Env → Mem → Fn.Env → Mem → Prop
  | [], e, m, e', m' => e = e' ∧ m = m'
  | d :: r, e, m, e', m' => ∃ e1 m1, ((g d e m).bind fun a b => B a b) = .ok (.nx e1) m1 ∧ RunL g B r e1 m1 e' m'
theorem RunL.snoc {g : FG} {B : FS} {d : D} {e' e2 : Fn.Env} {m' m2 : Mem} (hd : ((g d e' m').bind fun a b => B a b) = .ok (.nx e2) m2) : ∀ {l : List D} {e : Fn.Env} {m : Mem}, RunL g B l e m e' m' → RunL g B (l ++ [d]) e m e2 m2
  | [], e, m, h => by
    obtain ⟨rfl, rfl⟩ := h
    exact ⟨_, _, hd, rfl, rfl⟩
  | x :: l, e, m, ⟨e1, m1, h1, h2⟩ => ⟨e1, m1, h1, RunL.snoc hd h2⟩
theorem RunL.run {g : FG} {B : FS} {e' : Fn.Env} {m' : Mem} : ∀ {l : List D} {e : Fn.Env} {m : Mem}, RunL g B l e m e' m' → forL (fun _ => True) g B l e m = .ok (.nx e') m'
  | [], e, m, h => by
    obtain ⟨rfl, rfl⟩ := h
    exact forL_nil
  | x :: l, e, m, ⟨e1, m1, h1, h2⟩ => by
    obtain ⟨ea, ma, ea1, ea2⟩ := R.bind_eq h1
    rw [forL_consP trivial, ea1, R.bind_ok, ea2, R.bind_ok]
    exact RunL.run h2
section
variable {α β κ : Type} [DecidableEq α] [DecidableEq κ]
def tG (A : List (α × β)) (a : α) : Option β := (A.find? fun p => decide (p.1 = a)).map (·.2)
def tP (A : List (α × β)) (a : α) (b : β) : List (α × β) := if (A.any fun p => decide (p.1 = a)) = true then A.map (fun p => if p.1 = a then (p.1, b) else p) else A ++ [(a, b)]
def tM (kf : α → κ) (vf : β → D) (A : List (α × β)) : List (κ × D) := A.map fun p => (kf p.1, vf p.2)
theorem gA_tM {kf : α → κ} {vf : β → D} (hf : ∀ a b, kf a = kf b → a = b) (a : α) : ∀ A : List (α × β), gA (tM kf vf A) (kf a) = (tG A a).map vf
  | [] => rfl
  | p :: r => by
    have ih := gA_tM (vf := vf) hf a r
    unfold gA tG tM at ih ⊢
    by_cases e : p.1 = a
    · simp [e]
    · have e' : ¬ kf p.1 = kf a := fun z => e (hf _ _ z)
      simp only [List.map_cons, List.find?_cons, e, e', decide_false]
      exact ih
theorem any_tM {kf : α → κ} {vf : β → D} (hf : ∀ a b, kf a = kf b → a = b) (a : α) : ∀ A : List (α × β), ((tM kf vf A).any fun kv => decide (kv.1 = kf a)) = A.any fun p => decide (p.1 = a)
  | [] => rfl
  | p :: r => by
    have ih := any_tM (vf := vf) hf a r
    unfold tM at ih ⊢
    rw [List.map_cons, List.any_cons, List.any_cons, ih]
    congr 1
    rw [decide_eq_decide]
    exact ⟨fun z => hf _ _ z, fun z => by rw [z]⟩
theorem pA_tM {kf : α → κ} {vf : β → D} (hf : ∀ a b, kf a = kf b → a = b) (A : List (α × β)) (a : α) (b : β) : pA (tM kf vf A) (kf a) (vf b) = tM kf vf (tP A a b) := by
  unfold pA tP
  rw [any_tM hf]
  split
  · unfold tM
    rw [List.map_map, List.map_map]
    refine List.map_congr_left fun p _ => ?_
    by_cases e : p.1 = a
    · simp [e]
    · have e' : ¬ kf p.1 = kf a := fun z => e (hf _ _ z)
      simp [e, e']
  · unfold tM
    rw [List.map_append]
    rfl
theorem tP_len (A : List (α × β)) (a : α) (b : β) : (tP A a b).length ≤ A.length + 1 := by
  unfold tP
  split <;> simp
theorem any_key {A : List (α × β)} {a : α} : (A.any fun p => decide (p.1 = a)) = true ↔ a ∈ A.map (·.1) := by
  rw [List.any_eq_true, List.mem_map]
  constructor
  · rintro ⟨p, h1, h2⟩; exact ⟨p, h1, of_decide_eq_true h2⟩
  · rintro ⟨p, h1, h2⟩; exact ⟨p, h1, decide_eq_true h2⟩
theorem tG_mem {A : List (α × β)} {a : α} {b : β} (h : tG A a = some b) : (a, b) ∈ A := by
  unfold tG at h
  obtain ⟨p, h1, h2⟩ := Option.map_eq_some_iff.mp h
  have h3' : decide (p.1 = a) = true := List.find?_some (p := fun p : α × β => decide (p.1 = a)) h1
  have h3 : p.1 = a := of_decide_eq_true h3'
  have h4 := List.mem_of_find?_eq_some h1
  obtain ⟨p1, p2⟩ := p
  subst h2 h3
  exact h4
theorem tG_some {A : List (α × β)} {a : α} (h : a ∈ A.map (·.1)) : ∃ b, tG A a = some b := by
  unfold tG
  cases hf : A.find? fun p => decide (p.1 = a) with
  | none =>
    obtain ⟨p, hp, e⟩ := List.mem_map.mp h
    exact absurd (decide_eq_true e) (List.find?_eq_none.mp hf p hp)
  | some p => exact ⟨_, rfl⟩
theorem tG_none {A : List (α × β)} {a : α} (h : ¬ a ∈ A.map (·.1)) : tG A a = none := by
  cases e : tG A a with
  | none => rfl
  | some b => exact absurd (List.mem_map.mpr ⟨_, tG_mem e, rfl⟩) h
end
namespace Tb
def le2 (x y : Int × Int) : Bool := decide (x.1 < y.1 ∨ (x.1 = y.1 ∧ x.2 ≤ y.2))
def prD2 (x : Int × Int) : D := .tup [.int x.1, .int x.2]
theorem leD_pairs (a b : Int × Int) : leD (prD2 a) (prD2 b) = le2 a b := by
  have h := congrFun (congrFun (PySem.W.dataLe_ii (β := Int × Int) (fun x => x.1) (fun x => x.2)) a) b
  show PySem.W.dataLe false (fun x : Int × Int => .tuple [.int x.1, .int x.2]) a b = _
  rw [h]
  rfl
end Tb
def srtV (V : List Ev) : List Ev := V.mergeSort fun a b => decide (a.p ≤ b.p)
theorem srtV_perm (V : List Ev) : (srtV V).Perm V := List.mergeSort_perm V _
theorem leD_natS (a b : Nat) : leD (.int (a : Int)) (.int (b : Int)) = decide (a ≤ b) := by
  have h := congrFun (congrFun (PySem.W.dataLe_int (β := Nat) (fun x : Nat => (x : Int))) a) b
  show PySem.W.dataLe false (fun x : Nat => PyData.int (x : Int)) a b = _
  rw [h]
  simp
theorem sort_pv (V : List Ev) : sortD (V.map fun e => D.int e.p) = (srtV V).map fun e => D.int e.p := by
  unfold sortD srtV
  symm
  apply List.map_mergeSort
  intro a _ b _
  exact (leD_natS a.p b.p).symm
theorem ev_one : ∀ {V : List Ev} {a b : Ev}, (V.map (·.p)).Nodup → a ∈ V → b ∈ V → a.p = b.p → a = b
  | v :: V, a, b, hn, ha, hb, e => by
    rw [List.map_cons, List.nodup_cons] at hn
    rcases List.mem_cons.mp ha with c | ha' <;> rcases List.mem_cons.mp hb with d | hb'
    · rw [c, d]
    · exact (hn.1 (List.mem_map.mpr ⟨b, hb', by rw [← e, c]⟩)).elim
    · exact (hn.1 (List.mem_map.mpr ⟨a, ha', by rw [e, d]⟩)).elim
    · exact ev_one hn.2 ha' hb' e
def hv (e : Ev) : D := Tb.hD e.en
theorem sort_hv {V : List Ev} (hn : (V.map (·.p)).Nodup) : sortD ((V.map Ev.en).map Tb.hD) = (srtV V).map hv := by
  have e : (V.map Ev.en).map Tb.hD = V.map hv := by rw [List.map_map]; rfl
  rw [e]
  unfold sortD srtV
  symm
  apply List.map_mergeSort
  intro a ha b hb
  have h1 : leD (hv a) (hv b) = Tb.le2 ((a.p : Int), (a.t : Int)) ((b.p : Int), (b.t : Int)) := Tb.leD_pairs ((a.p : Int), (a.t : Int)) ((b.p : Int), (b.t : Int))
  rw [h1]
  unfold Tb.le2
  rw [decide_eq_decide]
  constructor
  · intro h
    by_cases c : a.p = b.p
    · have := ev_one hn ha hb c
      subst this
      exact .inr ⟨rfl, Int.le_refl _⟩
    · exact .inl (by show (a.p : Int) < b.p; omega)
  · rintro (h | ⟨h, _⟩)
    · have h : (a.p : Int) < b.p := h; omega
    · have h : (a.p : Int) = b.p := h; omega
def alV (y : Bn × List (List Nat) × Int) : D := .tup [bnD y.1, .tup (y.2.1.map .str), .int y.2.2]
def alK (l : List (Tb.Th × (Bn × List (List Nat) × Int))) : List (List KK × D) := tM Tb.tkk alV l
theorem tkk_inj' (a b : Tb.Th) (h : Tb.tkk a = Tb.tkk b) : a = b := Tb.tkk_inj h
theorem tP_new {α β : Type} [DecidableEq α] {A : List (α × β)} {a : α} {b : β} (h : ¬ a ∈ A.map (·.1)) : tP A a b = A ++ [(a, b)] := by
  unfold tP
  rw [if_neg (fun z => h (any_key.mp z))]
structure RpAt (M : Mem) (N : Nat) (s : St) : Prop where
  tab : Tb.TabAt M N (N + 1) (N + 2) (N + 3) s.tab
  th : M[N + 4]? = some (.dt false (alK s.al))
theorem tab_other {M : Mem} {i u t k h : Nat} {T : Tb.Tab} {c : Cell} (H : Tb.TabAt M i u t k T) (h1 : h ≠ i) (h2 : h ≠ u) (h3 : h ≠ t) (h4 : h ≠ k) : Tb.TabAt (M.set h c) i u t k T :=
  ⟨by rw [List.getElem?_set_ne h1]; exact H.ins, by rw [List.getElem?_set_ne h2]; exact H.us, by rw [List.getElem?_set_ne h3]; exact H.th, by rw [List.getElem?_set_ne h4]; exact H.kn, H.iu, H.it, H.ik, H.ut, H.uk, H.tk⟩
theorem leads_V {s : St} {e : Ev} (hn : (s.V.map (·.p)).Nodup) (he : e ∈ s.V) : s.tab.leads e.p e.t = some e.x := by
  unfold Tb.Tab.leads
  have : ∀ V : List Ev, (V.map (·.p)).Nodup → e ∈ V → (V.map Ev.en).find? (fun z => decide (z.p = e.p)) = some e.en := by
    intro V
    induction V with
    | nil => intro _ h; cases h
    | cons v V ih =>
      intro hn h
      rw [List.map_cons, List.find?_cons]
      by_cases c : v.p = e.p
      · have := ev_one hn List.mem_cons_self h c
        subst this
        have : decide (v.en.p = v.p) = true := decide_eq_true rfl
        rw [this]
      · have c' : decide (v.en.p = e.p) = false := decide_eq_false c
        rw [c']
        rw [List.map_cons, List.nodup_cons] at hn
        rcases List.mem_cons.mp h with z | z
        · exact absurd (by rw [z]) c
        · exact ih hn.2 z
  show (match (s.V.map Ev.en).find? _ with | some e' => _ | none => _) = _
  rw [this s.V hn he]
  show (if e.t = e.t then some e.x else none) = _
  rw [if_pos rfl]
theorem bn_inj {a b : Bn} (h : bnD a = bnD b) : a = b := by
  obtain ⟨a1, a2⟩ := a
  obtain ⟨b1, b2⟩ := b
  simp only [bnD, D.tup.injEq, List.cons.injEq, D.str.injEq, and_true] at h
  rw [h.1, h.2]
theorem bn_eqT (b : Bn) (M : Mem) : oEq false (bnD b) (bnD b) M = .ok (.bl true) M := oEq_exT rfl (by simp [bnD, dpD, dpL])
theorem bn_eqF {a b : Bn} (h : ¬ a = b) (M : Mem) : oEq false (bnD a) (bnD b) M = .ok (.bl false) M := oEq_exF rfl rfl (by simp [bnD, dpD, dpL]) (fun e => h (bn_inj e))
/-- the walk that drops -/
theorem drop_walk {N : Nat} {p : Int} {RR : List D} (hR : atI RR 1 = some (.int p)) (x0 x1 x3 x4 x5 : Option D) : ∀ (hs : List Ev) (s : St) (M : Mem) (y7 : Option D), (∀ e ∈ hs, e ∈ s.V) → (hs.map (·.p)).Nodup → (s.V.map (·.p)).Nodup → RpAt M N s →
    ∃ (M' : Mem) (z7 : Option D), forL (fun _ => True) (gN 7) L_replayed_0 (hs.map hv) [x0, x1, some (.ref N), x3, x4, x5, some (.lst RR), y7] M = .ok (.nx [x0, x1, some (.ref N), x3, x4, x5, some (.lst RR), z7]) M' ∧ RpAt M' N (if p ∈ hs.map (fun e => (e.p : Int)) then stDrop s p else s)
  | [], s, M, y7, _, _, _, h => ⟨M, y7, forL_nil, by rw [if_neg (by simp)]; exact h⟩
  | e :: hs, s, M, y7, hm, hn, hV, h => by
    rw [List.map_cons, List.nodup_cons] at hn
    have sg : gN 7 (hv e) [x0, x1, some (.ref N), x3, x4, x5, some (.lst RR), y7] M = .ok [x0, x1, some (.ref N), x3, x4, x5, some (.lst RR), some (hv e)] M := rfl
    have hd : hv e = .tup [.int e.p, .int e.t] := rfl
    have ix : atI [D.int (e.p : Int), .int (e.t : Int)] 0 = some (.int (e.p : Int)) := rfl
    by_cases c : (e.p : Int) = p
    · have q1 : ∀ M, oEq false (.int (e.p : Int)) (.int p) M = .ok (.bl true) M := fun M => by rw [c]; exact oEq_exT rfl (by simp [dpD])
      have hl := leads_V hV (hm e List.mem_cons_self)
      have hdr := Tb.drop_eq h.tab e.p e.t
      rw [hl] at hdr
      simp only at hdr
      obtain ⟨M1, hM1⟩ : ∃ M1, M.set (N + 2) (.dk false (Tb.thereK (s.tab.there.filter fun z => decide (z.p ≠ e.p)))) = M1 := ⟨_, rfl⟩
      rw [hM1] at hdr
      have ht := h.tab.setT (s.tab.there.filter fun z => decide (z.p ≠ e.p))
      rw [hM1] at ht
      have st1 : ({ s.tab with there := s.tab.there.filter fun z => decide (z.p ≠ e.p) } : Tb.Tab) = (stDrop s p).tab := by
        unfold St.tab stDrop
        simp only [Tb.Tab.mk.injEq, true_and, and_true]
        rw [List.filter_map]
        congr 1
        refine List.filter_congr fun z _ => ?_
        rw [← c]
        show decide (z.p ≠ e.p) = _
        rw [decide_eq_decide]
        constructor
        · intro h h2; exact h (by omega)
        · intro h h2; exact h (by omega)
      rw [st1] at ht
      have h1 : RpAt M1 N (stDrop s p) := ⟨ht, by rw [← hM1, List.getElem?_set_ne (by omega)]; exact h.th⟩
      have hnot : ¬ p ∈ hs.map (fun e => (e.p : Int)) := fun z => by
        obtain ⟨w, hw, e2⟩ := List.mem_map.mp z
        exact hn.1 (List.mem_map.mpr ⟨w, hw, by show w.p = e.p; omega⟩)
      have body : L_replayed_0 [x0, x1, some (.ref N), x3, x4, x5, some (.lst RR), some (hv e)] M = .ok (.nx [x0, x1, some (.ref N), x3, x4, x5, some (.lst RR), some (hv e)]) M1 := by
        rw [hd]
        have io := insOf_at h.tab.ins
        push_cast [L_replayed_0, oIxA_tup, oIxA_lst, ix, hR, q1, mMth_eq, io, Tb.lk_drop, hdr]
      obtain ⟨M', z7, e1, e2⟩ := drop_walk hR x0 x1 x3 x4 x5 hs (stDrop s p) M1 (some (hv e)) (fun w hw => List.mem_filter.mpr ⟨hm w (List.mem_cons_of_mem _ hw), decide_eq_true fun y => hnot (List.mem_map.mpr ⟨w, hw, y⟩)⟩) hn.2 (hV.sublist ((List.filter_sublist).map _)) h1
      rw [if_neg hnot] at e2
      refine ⟨M', z7, ?_, ?_⟩
      · rw [List.map_cons, forL_consP trivial, sg, R.bind_ok, body, R.bind_ok]
        exact e1
      · rw [List.map_cons, if_pos (by rw [c]; exact List.mem_cons_self)]
        exact e2
    · have q1 : ∀ M, oEq false (.int (e.p : Int)) (.int p) M = .ok (.bl false) M := fun M => oEq_exF rfl rfl (by simp [dpD]) (fun z => c (by injection z))
      have body : L_replayed_0 [x0, x1, some (.ref N), x3, x4, x5, some (.lst RR), some (hv e)] M = .ok (.nx [x0, x1, some (.ref N), x3, x4, x5, some (.lst RR), some (hv e)]) M := by
        rw [hd]
        push_cast [L_replayed_0, oIxA_tup, oIxA_lst, ix, hR, q1]
      obtain ⟨M', z7, e1, e2⟩ := drop_walk hR x0 x1 x3 x4 x5 hs s M (some (hv e)) (fun w hw => hm w (List.mem_cons_of_mem _ hw)) hn.2 hV h
      refine ⟨M', z7, ?_, ?_⟩
      · rw [List.map_cons, forL_consP trivial, sg, R.bind_ok, body, R.bind_ok]
        exact e1
      · have : (p ∈ (e :: hs).map fun e => (e.p : Int)) ↔ p ∈ hs.map fun e => (e.p : Int) := by
          rw [List.map_cons, List.mem_cons]
          exact ⟨fun z => z.elim (fun w => absurd w.symm c) id, .inr⟩
        by_cases c2 : p ∈ hs.map fun e => (e.p : Int)
        · rw [if_pos (this.mpr c2)]; rw [if_pos c2] at e2; exact e2
        · rw [if_neg (fun z => c2 (this.mp z))]; rw [if_neg c2] at e2; exact e2
theorem oAdd_tupR {c : Bool} {a b : List D} {M : Mem} (h : a.length + b.length ≤ 16777216) : oAdd c (.tup a) (.tup b) M = .ok (.tup (a ++ b)) M := by
  have e : oAdd c (.tup a) (.tup b) M = oAddT (.tup a) (.tup b) M := rfl
  rw [e]
  simp only [oAddT, if_pos h]
theorem tG_of {α β : Type} [DecidableEq α] : ∀ {A : List (α × β)} {p : α × β}, (A.map (·.1)).Nodup → p ∈ A → tG A p.1 = some p.2
  | q :: A, p, hn, hp => by
    rw [List.map_cons, List.nodup_cons] at hn
    rcases List.mem_cons.mp hp with rfl | hp
    · unfold tG; simp
    · have e : ¬ q.1 = p.1 := fun z => hn.1 (List.mem_map.mpr ⟨p, hp, z.symm⟩)
      have := tG_of hn.2 hp
      unfold tG at this ⊢
      simpa [e] using this
theorem gS_rw4 (a b : D) (rest : List D) (h : rest.length ≤ 100) {env : Fn.Env} {M : Mem} : gS 3 2 (gsCons (gN 4) (gsCons (gN 5) (gsCons (gN 6) gsNil))) (.tup (a :: b :: rest)) env M = .ok (((env.set 4 (some a)).set 5 (some b)).set 6 (some (.lst rest))) M := by
  rw [gS_eq, if_pos ⟨by simp, by simp; omega⟩]
  have e1 : (a :: b :: rest).take 2 = [a, b] := rfl
  have e2 : (a :: b :: rest).drop 2 = rest := rfl
  have e3 : (a :: b :: rest).length + 1 - 3 = rest.length := by simp
  rw [e1, e2, e3, List.take_length, List.drop_length]
  rfl
theorem w4 {r : Rw} (w : List Nat) (h : rwW r ≠ w) : ∀ M, oEq false (.str (rwW r)) (.str w) M = .ok (.bl false) M := fun M => sEqF h M
theorem alK_len (l : List (Tb.Th × (Bn × List (List Nat) × Int))) : (alK l).length = l.length := by simp [alK, tM]
/-- the numbers that were put, behind a row -/
def NsSt (ns ns' : List Int) : Rw → Prop
  | .put _ _ _ n _ _ _ _ => ¬ n ∈ ns ∧ ns' = ns ++ [n]
  | _ => ns' = ns
theorem replay_turn {M : Mem} {N m : Nat} {b : Bn} {th th' : List (Bn × Int)} {ns ns' : List Int} {s : St} {r : Rw} (ok : SOk b m th ns s) (hm : m ≤ 1000) (h0 : thN0 th) (t : ThSt th r th') (hn : NsSt ns ns' r) (h : RpAt M N s) (x0 y4 y5 y6 y7 : Option D) : ∃ (z4 z5 z6 z7 : Option D) (M' : Mem), ((gS 3 2 (gsCons (gN 4) (gsCons (gN 5) (gsCons (gN 6) gsNil)))) (rwD r) [x0, some (bnD b), some (.ref N), some (.ref (N + 4)), y4, y5, y6, y7] M).bind (fun e1 m1 => L_replayed_1 e1 m1) = .ok (.nx [x0, some (bnD b), some (.ref N), some (.ref (N + 4)), z4, z5, z6, z7]) M' ∧ RpAt M' N (stF b s r) := by
  rw [rwD, rw_split, gS_rw4 _ _ _ (by have := rwR_len r; omega), R.bind_ok]
  have io := insOf_at h.tab.ins
  cases t with
  | @put t b' hm' n pl rs f a p hp =>
    have q1 : ∀ M, oEq false (.str (rwW (.put t b' hm' n pl rs f a))) (.str wPut) M = .ok (.bl true) M := fun M => sEqT _ M
    have q2 := w4 (r := .put t b' hm' n pl rs f a) wDrop (by simp only [rwW]; decide)
    have a0 : atI (rwR (.put t b' hm' n pl rs f a)) 0 = some (bnD b') := rfl
    have a1 : atI (rwR (.put t b' hm' n pl rs f a)) 1 = some (.str hm') := rfl
    have a2 : atI (rwR (.put t b' hm' n pl rs f a)) 2 = some (.int n) := rfl
    have c36 : Fn.cutD (rwR (.put t b' hm' n pl rs f a)) (some 3) (some 6) = [bnD pl, .tup (rs.map .str), .int f] := rfl
    by_cases c : b' = b
    · subst c
      rw [stF_p1]
      have hx : ¬ (hm', n) ∈ s.tab.known := fun z => by
        obtain ⟨y, hy, e⟩ := List.mem_map.mp (show (hm', n) ∈ s.al.map (·.1) from z)
        have := ok.kn y hy
        rw [e] at this
        exact (show ¬ n ∈ ns ∧ ns' = ns ++ [n] from hn).1 this
      obtain ⟨M1, ep, tab1, len1, oth⟩ := Tb.put_new h.tab (hm', n) hx (by have := ok.lv; show (s.V.map Ev.en).length < _; rw [List.length_map]; omega) (by have := ok.lu; show s.us.length < _; omega) (by have := ok.la; show (s.al.map _).length < _; rw [List.length_map]; omega) (frq1 s) (frq2 s) (frq3 s) (fr_le ok)
      have th1 : M1[N + 4]? = some (.dt false (alK s.al)) := by rw [oth (N + 4) (by omega) (by omega) (by omega)]; exact h.th
      have hl4 : N + 4 < M1.length := (List.getElem?_eq_some_iff.mp th1).1
      have hx2 : ¬ (hm', n) ∈ s.al.map (·.1) := hx
      have pt : sPut M1 (.ref (N + 4)) (.tup [.str hm', .int n]) (.tup [bnD pl, .tup (rs.map .str), .int f]) = some (M1.set (N + 4) (.dt false (alK (s.al ++ [((hm', n), (pl, rs, f))])))) := by
        rw [sPut_dt th1 (show keyT (.tup [.str hm', .int n]) = some (Tb.tkk (hm', n)) from rfl) (by rw [alK_len]; have := ok.la; omega)]
        have e := pA_tM (vf := alV) tkk_inj' s.al (hm', n) (pl, rs, f)
        rw [tP_new hx2] at e
        unfold alK
        rw [← e]
        rfl
      have tt : ∀ M, oTuple [.lst [bnD pl, .tup (rs.map .str), .int f]] M = .ok (.tup [bnD pl, .tup (rs.map .str), .int f]) M := fun M => rfl
      have e0 := bn_eqT b'
      refine ⟨some (.str (rwW (.put t b' hm' n pl rs f a))), some (.int (rwT (.put t b' hm' n pl rs f a))), some (.lst (rwR (.put t b' hm' n pl rs f a))), y7, M1.set (N + 4) (.dt false (alK (s.al ++ [((hm', n), (pl, rs, f))]))), ?_, ?_, ?_⟩
      · generalize M1.set (N + 4) (.dt false (alK (s.al ++ [((hm', n), (pl, rs, f))]))) = M2 at *
        generalize rwR (.put t b' hm' n pl rs f a) = R0 at *
        generalize rwW (.put t b' hm' n pl rs f a) = W0 at *
        generalize bnD b' = B0 at *
        generalize bnD pl = B1 at *
        push_cast [L_replayed_1, q1, oIxA_lst, a0, e0, mMth_eq, io, Tb.lk_put, a1, a2, ep, oSl_lst, c36, tt, gIxA_eq, pt, q2]
        all_goals rfl
      · rw [put_tab]
        exact tab_other tab1 (by omega) (by omega) (by omega) (by omega)
      · exact List.getElem?_set_self hl4
    · have e0 := bn_eqF c
      rw [stF_p2 c]
      refine ⟨some (.str (rwW (.put t b' hm' n pl rs f a))), some (.int (rwT (.put t b' hm' n pl rs f a))), some (.lst (rwR (.put t b' hm' n pl rs f a))), y7, M, ?_, h⟩
      generalize rwR (.put t b' hm' n pl rs f a) = R0 at *
      generalize rwW (.put t b' hm' n pl rs f a) = W0 at *
      generalize bnD b' = B0 at *
      generalize bnD b = B1 at *
      push_cast [L_replayed_1, q1, oIxA_lst, a0, e0, q2]
      all_goals rfl
  | @drop t b' p hmem =>
    have q1 := w4 (r := .drop t b' p) wPut (by simp only [rwW]; decide)
    have q2 : ∀ M, oEq false (.str (rwW (.drop t b' p))) (.str wDrop) M = .ok (.bl true) M := fun M => sEqT _ M
    have a0 : atI (rwR (.drop t b' p)) 0 = some (bnD b') := rfl
    have a1 : atI (rwR (.drop t b' p)) 1 = some (.int p) := rfl
    by_cases c : b' = b
    · subst c
      rw [stF_d1]
      have e0 := bn_eqT b'
      have hh := Tb.handles_eq h.tab (by have := ok.lv; show (s.V.map Ev.en).length < _; rw [List.length_map]; omega)
      have es : sortD (s.tab.there.map Tb.hD) = (srtV s.V).map hv := sort_hv ok.nd
      rw [es] at hh
      have pm := srtV_perm s.V
      obtain ⟨M', z7, e1, e2⟩ := drop_walk (N := N) a1 x0 (some (bnD b')) (some (.ref (N + 4))) (some (.str (rwW (.drop t b' p)))) (some (.int (rwT (.drop t b' p)))) (srtV s.V) s M y7 (fun e he => pm.mem_iff.mp he) ((pm.map (·.p)).nodup_iff.mpr ok.nd) ok.nd h
      have hin : p ∈ (srtV s.V).map (fun e => (e.p : Int)) := by
        obtain ⟨q, hq⟩ := h0 _ hmem
        have hq : p = (q : Int) := hq
        rw [hq] at hmem
        obtain ⟨e, he, e2⟩ := List.mem_map.mp ((ok.pl q).mpr hmem)
        exact List.mem_map.mpr ⟨e, pm.mem_iff.mpr he, by rw [hq]; show (e.p : Int) = q; omega⟩
      rw [if_pos hin] at e2
      refine ⟨some (.str (rwW (.drop t b' p))), some (.int (rwT (.drop t b' p))), some (.lst (rwR (.drop t b' p))), z7, M', ?_, e2⟩
      generalize rwR (.drop t b' p) = R0 at *
      generalize rwW (.drop t b' p) = W0 at *
      generalize bnD b' = B0 at *
      generalize (srtV s.V).map hv = H0 at *
      push_cast [L_replayed_1, q1, oIxA_lst, a0, e0, q2, mMth_eq, io, Tb.lk_handles, hh, mFor_eq, e1]
      all_goals rfl
    · have e0 := bn_eqF c
      rw [stF_d2 c]
      refine ⟨some (.str (rwW (.drop t b' p))), some (.int (rwT (.drop t b' p))), some (.lst (rwR (.drop t b' p))), y7, M, ?_, h⟩
      generalize rwR (.drop t b' p) = R0 at *
      generalize rwW (.drop t b' p) = W0 at *
      generalize bnD b' = B0 at *
      generalize bnD b = B1 at *
      push_cast [L_replayed_1, q1, oIxA_lst, a0, e0, q2]
      all_goals rfl
  | other h1 h2 =>
    have e : stF b s r = s := by cases r <;> first | rfl | (exact absurd rfl h1) | (exact absurd rfl h2)
    have q1 := w4 wPut h1
    have q2 := w4 wDrop h2
    rw [e]
    refine ⟨some (.str (rwW r)), some (.int (rwT r)), some (.lst (rwR r)), y7, M, ?_, h⟩
    generalize rwR r = R0 at *
    generalize rwW r = W0 at *
    generalize bnD b = B1 at *
    push_cast [L_replayed_1, q1, q2]
    all_goals rfl
theorem replay_run {M : Mem} {N : Nat} {b : Bn} {L : List Rw} {th : List (Bn × Int)} {ns cs : List Int} (hh : Hist L th ns cs) (hl : L.length ≤ 1000) (h : RpAt M N ⟨[], [], []⟩) (x0 : Option D) : ∃ (z4 z5 z6 z7 : Option D) (M' : Mem), RunL (gS 3 2 (gsCons (gN 4) (gsCons (gN 5) (gsCons (gN 6) gsNil)))) L_replayed_1 (L.map rwD) [x0, some (bnD b), some (.ref N), some (.ref (N + 4)), none, none, none, none] M [x0, some (bnD b), some (.ref N), some (.ref (N + 4)), z4, z5, z6, z7] M' ∧ RpAt M' N (stL b L) := by
  induction hh with
  | nil => exact ⟨none, none, none, none, M, ⟨rfl, rfl⟩, h⟩
  | @snoc l th th' ns ns' cs cs' r hh ok t hn hc ih =>
    rw [List.length_append, List.length_singleton] at hl
    obtain ⟨z4, z5, z6, z7, M1, e1, h1⟩ := ih (by omega)
    have hn' : NsSt ns ns' r := by cases r <;> exact hn
    obtain ⟨w4, w5, w6, w7, M2, e2, h2⟩ := replay_turn (stL_ok hh) (by omega) (hist_n0 hh) t hn' h1 x0 z4 z5 z6 z7
    refine ⟨w4, w5, w6, w7, M2, ?_, ?_⟩
    · rw [List.map_append]
      exact RunL.snoc e2 e1
    · unfold stL at h2 ⊢
      rw [List.foldl_append]
      exact h2
theorem replayed_eq {X : D} {b : Bn} {L : List Rw} {th : List (Bn × Int)} {ns cs : List Int} (hX : ∀ M, srcOf M X = some ⟨L.map rwD, fun _ => True⟩) (hh : Hist L th ns cs) (hl : L.length ≤ 1000) (M : Mem) : ∃ M', g_replayed [X, bnD b] M = .ok (.tup [.ref M.length, .ref (M.length + 4)]) M' ∧ RpAt M' M.length (stL b L) := by
  have e := Tb.init_eq M
  obtain ⟨M1, hM1⟩ : ∃ M1, M ++ [.ins 0 (Tb.tabF (M.length + 1) (M.length + 2) (M.length + 3)), .lst [], .dk false [], .dt false [], .dt false []] = M1 := ⟨_, rfl⟩
  have gn : ∀ (n : Nat), M1[M.length + n]? = ([.ins 0 (Tb.tabF (M.length + 1) (M.length + 2) (M.length + 3)), .lst [], .dk false [], .dt false [], .dt false []] : Mem)[n]? := fun n => by
    rw [← hM1, List.getElem?_append_right (by omega)]
    congr 1
    omega
  have h0 : RpAt M1 M.length ⟨[], [], []⟩ := ⟨⟨gn 0, gn 1, gn 2, gn 3, by omega, by omega, by omega, by omega, by omega, by omega⟩, gn 4⟩
  obtain ⟨z4, z5, z6, z7, M2, e1, h2⟩ := replay_run (b := b) hh hl h0 (some X)
  have e2 := RunL.run e1
  have hx := hX M1
  refine ⟨M2, ?_, h2⟩
  have le : (M ++ [Cell.ins 0 (Tb.tabF (M.length + 1) (M.length + 2) (M.length + 3)), .lst [], .dk false [], .dt false []]).length = M.length + 4 := by simp
  have ap : M ++ [Cell.ins 0 (Tb.tabF (M.length + 1) (M.length + 2) (M.length + 3)), .lst [], .dk false [], .dt false []] ++ [Cell.dt false []] = M1 := by rw [← hM1, List.append_assoc]; rfl
  obtain ⟨M0, hM0⟩ : ∃ M0, M ++ [Cell.ins 0 (Tb.tabF (M.length + 1) (M.length + 2) (M.length + 3)), .lst [], .dk false [], .dt false []] = M0 := ⟨_, rfl⟩
  rw [hM0] at e le ap
  have hB : B_replayed [some X, some (bnD b), none, none, none, none, none, none] M = .ok (.rt (.tup [.ref M.length, .ref (M.length + 4)])) M2 := by
    generalize bnD b = B0 at *
    push_cast [B_replayed, mMake_eq, e, mDNewT_eq, le, ap, hx, mFor_eq, e2]
  show runB B_replayed 8 [X, bnD b] M = _
  rw [runB_rt (N := 8) hB]
def evD (e : Ev) : D := .tup [hv e, .str e.x.1, .int e.x.2, bnD e.pl, .tup (e.rs.map .str), .int e.f]
noncomputable def tabL (b : Bn) (L : List Rw) : List D := (srtV (stL b L).V).map evD
theorem table_eq {X : D} {b : Bn} {L : List Rw} {th : List (Bn × Int)} {ns cs : List Int} (hX : ∀ M, srcOf M X = some ⟨L.map rwD, fun _ => True⟩) (hh : Hist L th ns cs) (hl : L.length ≤ 1000) (M : Mem) : ∃ M', g_table [X, bnD b] M = .ok (.ref M'.length) (M' ++ [.lst (tabL b L)]) := by
  obtain ⟨M1, e1, h⟩ := replayed_eq (b := b) hX hh hl M
  have ok := stL_ok (b := b) hh
  have hhd := Tb.handles_eq h.tab (by have := ok.lv; show ((stL b L).V.map Ev.en).length < _; rw [List.length_map]; omega)
  have es : sortD ((stL b L).tab.there.map Tb.hD) = (srtV (stL b L).V).map hv := sort_hv ok.nd
  rw [es] at hhd
  have pm := srtV_perm (stL b L).V
  have io := insOf_at h.tab.ins
  have hsl : ((srtV (stL b L).V).map hv).length < 16777216 := by
    rw [List.length_map, pm.length_eq]
    have := ok.lv
    omega
  have c1 : ∀ (x0 x1 : Option D), compL (fun _ => True) (gN 4) tsYes C_table_0 [x0, x1, some (.ref M.length), some (.ref (M.length + 4)), none] ((srtV (stL b L).V).map hv) M1 = .ok (tabL b L) M1 := fun x0 x1 => by
    refine compL_m trivial hv evD (srtV (stL b L).V) fun e he => ⟨[x0, x1, some (.ref M.length), some (.ref (M.length + 4)), some (hv e)], rfl, ?_⟩
    have hm := pm.mem_iff.mp he
    have l1 : g_Table_leads [.ref M.length, hv e] M1 = .ok (Tb.thD e.x) M1 := by
      have := Tb.leads_eq h.tab e.p e.t
      rw [leads_V ok.nd hm] at this
      exact this
    have i1 : oIxA (.ref (M.length + 4)) (Tb.thD e.x) M1 = .ok (alV e.b) M1 := by
      refine oIxA_dt h.th (Tb.keyT_th e.x) ?_
      have := gA_tM (vf := alV) tkk_inj' e.x (stL b L).al
      rw [tG_of ok.na (ok.hv e hm)] at this
      exact this
    have d1 : ∀ M, oAdd false (.tup [hv e]) (Tb.thD e.x) M = .ok (.tup [hv e, .str e.x.1, .int e.x.2]) M := fun M => oAdd_tupR (by simp)
    have d2 : ∀ M, oAdd false (.tup [hv e, .str e.x.1, .int e.x.2]) (alV e.b) M = .ok (evD e) M := fun M => oAdd_tupR (by simp)
    generalize evD e = E1 at *
    generalize alV e.b = E2 at *
    generalize Tb.thD e.x = E3 at *
    generalize hv e = E4 at *
    push_cast [C_table_0, mMth_eq, io, Tb.lk_leads, l1, i1, d1, d2]
  refine ⟨M1, ?_⟩
  have w4' : ∀ (y0 y1 y2 y3 y4 : Option D), wipeE [y0, y1, y2, y3, y4] [4] = [y0, y1, y2, y3, none] := fun _ _ _ _ _ => rfl
  have hB : B_table [some X, some (bnD b), none, none, none] M = .ok (.rt (.ref M1.length)) (M1 ++ [.lst (tabL b L)]) := by
    have hsl' : (srtV (stL b L).V).length < 16777216 := by rw [List.length_map] at hsl; exact hsl
    generalize bnD b = B0 at *
    generalize tabL b L = TL at *
    generalize hH : (srtV (stL b L).V).map hv = H0 at *
    push_cast [B_table, e1, mLc_eq, mMth_eq, io, Tb.lk_handles, hhd, hsl, w4', c1]
  show runB B_table 5 [X, bnD b] M = _
  rw [runB_rt (N := 5) hB]
open Classical in
noncomputable def isPB (b : Bn) : Rw → Bool
  | .put _ b' _ _ _ _ _ _ => decide (b' = b)
  | _ => false
def putH : Rw → D
  | .put _ _ hm n _ _ _ _ => .tup [.str hm, .int n]
  | _ => .non
noncomputable def evrL (b : Bn) (l : List Rw) : List D := (l.filter (isPB b)).map putH
theorem ever_eq {X : D} {b : Bn} {L : List Rw} (hX : ∀ M, srcOf M X = some ⟨L.map rwD, fun _ => True⟩) (hl : L.length ≤ 1000) (M : Mem) : g_ever [X, bnD b] M = .ok (.ref M.length) (M ++ [.lst (evrL b L)]) := by
  have c1 : ∀ (x0 : Option D), compL (fun _ => True) (gN 2) T_ever_0 C_ever_1 [x0, some (bnD b), none] (L.map rwD) M = .ok (evrL b L) M := fun x0 => by
    refine compL_fm trivial rwD (isPB b) putH L fun r _ => ⟨[x0, some (bnD b), some (rwD r)], rfl, ?_, fun hp => ?_⟩
    · have a0 := rw_at0 r
      by_cases h1 : rwW r = wPut
      · obtain ⟨t, b', hm, n, pl, rs, f, a, rfl⟩ : ∃ t b' hm n pl rs f a, r = .put t b' hm n pl rs f a := by cases r <;> first | (exact ⟨_, _, _, _, _, _, _, _, rfl⟩) | (simp only [rwW] at h1; exact absurd h1 (by decide))
        have q1 : ∀ M, oEq false (.str (rwW (.put t b' hm n pl rs f a))) (.str wPut) M = .ok (.bl true) M := fun M => sEqT _ M
        have x2 : atI (rwL (.put t b' hm n pl rs f a)) 2 = some (bnD b') := rfl
        have e0 : ∀ M, oEq false (bnD b') (bnD b) M = .ok (.bl (isPB b (.put t b' hm n pl rs f a))) M := fun M => by
          by_cases c : b' = b
          · subst c; rw [bn_eqT]; simp [isPB]
          · rw [bn_eqF c]; simp [isPB, c]
        rw [rwD]
        generalize isPB b (.put t b' hm n pl rs f a) = I0 at *
        generalize rwL (.put t b' hm n pl rs f a) = R0 at *
        generalize rwW (.put t b' hm n pl rs f a) = W0 at *
        generalize bnD b' = B0 at *
        generalize bnD b = B1 at *
        push_cast [T_ever_0, a0, q1, x2, e0]
        all_goals rfl
      · have q1 := w4 wPut h1
        have e : isPB b r = false := by cases r <;> first | rfl | (exact absurd rfl h1)
        rw [e, rwD]
        generalize rwL r = R0 at *
        generalize rwW r = W0 at *
        generalize bnD b = B1 at *
        push_cast [T_ever_0, a0, q1]
        all_goals rfl
    · obtain ⟨t, b', hm, n, pl, rs, f, a, rfl⟩ : ∃ t b' hm n pl rs f a, r = .put t b' hm n pl rs f a := by cases r <;> first | (exact ⟨_, _, _, _, _, _, _, _, rfl⟩) | (cases hp)
      have x3 : atI (rwL (.put t b' hm n pl rs f a)) 3 = some (.str hm) := rfl
      have x4 : atI (rwL (.put t b' hm n pl rs f a)) 4 = some (.int n) := rfl
      rw [rwD]
      show _ = R.ok (D.tup [.str hm, .int n]) M
      generalize rwL (.put t b' hm n pl rs f a) = R0 at *
      generalize bnD b = B1 at *
      push_cast [C_ever_1, x3, x4]
      all_goals rfl
  have hx := hX M
  have hll : (L.map rwD).length < 16777216 := by rw [List.length_map]; omega
  have w2 : ∀ (y0 y1 y2 : Option D), wipeE [y0, y1, y2] [2] = [y0, y1, none] := fun _ _ _ => rfl
  have hB : B_ever [some X, some (bnD b), none] M = .ok (.rt (.ref M.length)) (M ++ [.lst (evrL b L)]) := by
    generalize bnD b = B0 at *
    generalize evrL b L = TL at *
    generalize L.map rwD = LR at *
    push_cast [B_ever, mLc_eq, hx, hll, w2, c1]
  show runB B_ever 3 [X, bnD b] M = _
  rw [runB_rt (N := 3) hB]
theorem ever_al (b : Bn) (L : List Rw) : (stL b L).al.map (fun y => D.tup [.str y.1.1, .int y.1.2]) = evrL b L := by
  have : ∀ (l : List Rw) (s : St), (l.foldl (stF b) s).al.map (fun y => D.tup [.str y.1.1, .int y.1.2]) = s.al.map (fun y => D.tup [.str y.1.1, .int y.1.2]) ++ evrL b l := by
    intro l
    induction l with
    | nil => intro s; simp [evrL]
    | cons r l ih =>
      intro s
      rw [List.foldl_cons, ih]
      cases r with
      | put t b' hm n pl rs f a =>
        by_cases c : b' = b
        · subst c
          rw [stF_p1]
          unfold stPut evrL
          rw [List.filter_cons_of_pos (by simp [isPB])]
          simp [putH]
        · rw [stF_p2 c]
          unfold evrL
          rw [List.filter_cons_of_neg (by simp [isPB, c])]
      | drop t b' p =>
        by_cases c : b' = b
        · subst c; rw [stF_d1]; rfl
        · rw [stF_d2 c]; rfl
      | _ => rfl
  have := this L ⟨[], [], []⟩
  simpa [stL] using this
namespace Tb
theorem least_free {T : Tab} {f n : Nat} (h1 : ∀ q, q < f → T.has q = true) (h2 : T.has f = false) (hn : f ≤ n) : ∃ r, ((List.range (n + 1)).filter fun q => !T.has q).map (fun q : Nat => (q : Int)) = (f : Int) :: r ∧ least (f : Int) r = f := by
  have hs : ∃ r, (List.range (n + 1)).filter (fun q => !T.has q) = f :: r ∧ ∀ q ∈ r, f ≤ q := by
    have e : List.range (n + 1) = List.range f ++ (f :: (List.range (n - f)).map fun q => f + 1 + q) := by
      rw [show n + 1 = f + (n - f + 1) by omega, List.range_add, List.range_succ_eq_map]
      simp [Nat.add_comm, Nat.add_left_comm]
    rw [e, List.filter_append, List.filter_eq_nil_iff.mpr fun q hq => by simp [h1 q (List.mem_range.mp hq)], List.nil_append, List.filter_cons_of_pos (by simp [h2])]
    refine ⟨_, rfl, fun q hq => ?_⟩
    obtain ⟨a, _, rfl⟩ := List.mem_map.mp (List.mem_filter.mp hq).1
    omega
  obtain ⟨r, e, hr⟩ := hs
  refine ⟨r.map fun q : Nat => (q : Int), by rw [e]; rfl, ?_⟩
  have hm := least_mem (r.map fun q : Nat => (q : Int)) (f : Int)
  have hle := least_le (r.map fun q : Nat => (q : Int)) (f : Int) (f : Int) (List.mem_cons_self ..)
  rcases List.mem_cons.mp hm with z | z
  · exact z
  · obtain ⟨q, hq, hq2⟩ := List.mem_map.mp z
    have := hr q hq
    omega
end Tb
theorem app_get2 {A B : Mem} {c c' c'' : Cell} {N : Nat} (h : A.length = N) : (A ++ c :: c' :: c'' :: B)[N + 2]? = some c'' := by
  rw [List.getElem?_append_right (by omega)]
  have : N + 2 - A.length = 2 := by omega
  rw [this]
  rfl
theorem app_set2 {A B : Mem} {c c' c'' d : Cell} {N : Nat} (h : A.length = N) : (A ++ c :: c' :: c'' :: B).set (N + 2) d = A ++ c :: c' :: d :: B := by
  rw [List.set_append_right _ _ (by omega)]
  have : N + 2 - A.length = 2 := by omega
  rw [this]
  rfl
def kN (p : Nat) : KK := .inl (p : Int)
theorem kN_inj (a b : Nat) (h : kN a = kN b) : a = b := by
  have := Sum.inl.inj h
  omega
def vA (V : List Ev) : List (Nat × Ev) := V.map fun e => (e.p, e)
def vK (V : List Ev) : List (KK × D) := tM kN evD (vA V)
def uK (U : List (Nat × Nat)) : List (KK × D) := tM kN (fun t : Nat => D.int t) U
theorem vA_keys (V : List Ev) : (vA V).map (·.1) = V.map (·.p) := by unfold vA; rw [List.map_map]; rfl
theorem vK_len (V : List Ev) : (vK V).length = V.length := by simp [vK, tM, vA]
theorem uK_len (U : List (Nat × Nat)) : (uK U).length = U.length := by simp [uK, tM]
theorem vK_has (s : St) (q : Nat) : (gA (vK s.V) (.inl (q : Int))).isSome = s.tab.has q := by
  have e : gA (vK s.V) (kN q) = (tG (vA s.V) q).map evD := gA_tM kN_inj q _
  show (gA (vK s.V) (kN q)).isSome = _
  rw [e]
  by_cases c : q ∈ s.V.map (·.p)
  · obtain ⟨v, hv⟩ := tG_some (A := vA s.V) (a := q) (by rw [vA_keys]; exact c)
    rw [hv, has_V.mpr c]
    rfl
  · rw [tG_none (A := vA s.V) (a := q) (by rw [vA_keys]; exact c)]
    cases h : s.tab.has q with
    | false => rfl
    | true => exact absurd (has_V.mp h) c
theorem vK_at {V : List Ev} {e : Ev} (hn : (V.map (·.p)).Nodup) (he : e ∈ V) : gA (vK V) (.inl (e.p : Int)) = some (evD e) := by
  have h : gA (vK V) (kN e.p) = (tG (vA V) e.p).map evD := gA_tM kN_inj e.p _
  have h2 := tG_of (A := vA V) (p := (e.p, e)) (by rw [vA_keys]; exact hn) (List.mem_map.mpr ⟨e, he, rfl⟩)
  rw [h2] at h
  exact h
theorem vK_new {V : List Ev} {e : Ev} (h : ¬ e.p ∈ V.map (·.p)) : pA (vK V) (.inl (e.p : Int)) (evD e) = vK (V ++ [e]) := by
  have h1 := pA_tM (vf := evD) kN_inj (vA V) e.p e
  rw [tP_new (by rw [vA_keys]; exact h)] at h1
  show pA (tM kN evD (vA V)) (kN e.p) (evD e) = _
  rw [h1]
  unfold vK vA
  rw [List.map_append]
  rfl
theorem vK_drop (V : List Ev) (p : Int) : dA (vK V) (.inl p) = vK (V.filter fun e => decide ((e.p : Int) ≠ p)) := by
  unfold dA vK tM vA
  rw [List.map_map, List.map_map, List.filter_map]
  congr 1
  apply List.filter_congr
  intro e _
  show decide (kN e.p ≠ .inl p) = _
  rw [decide_eq_decide]
  constructor
  · intro h z; exact h (by unfold kN; rw [z])
  · intro h z; exact h (Sum.inl.inj z)
theorem tG_tP {α β : Type} [DecidableEq α] (a x : α) (b : β) (A : List (α × β)) : tG (tP A a b) x = if x = a then some b else tG A x := by
  by_cases hc : a ∈ A.map (·.1)
  · unfold tP
    rw [if_pos (any_key.mpr hc)]
    induction A with
    | nil => cases hc
    | cons p A ih =>
      by_cases e : p.1 = a
      · by_cases c : x = a
        · rw [if_pos c]; subst c; unfold tG; simp [e]
        · rw [if_neg c]
          have e2 : ¬ p.1 = x := fun z => c (z.symm.trans e)
          have e3 : ¬ a = x := fun z => c z.symm
          by_cases hc2 : a ∈ A.map (·.1)
          · have := ih hc2
            rw [if_neg c] at this
            unfold tG at this ⊢
            simp only [List.map_cons, if_pos e, List.find?_cons, e3, e2, decide_false]
            exact this
          · have hs : (A.map fun q => if q.1 = a then (q.1, b) else q) = A := by
              refine (List.map_congr_left fun q hq => ?_).trans (List.map_id A)
              rw [if_neg (fun z => hc2 (List.mem_map.mpr ⟨q, hq, z⟩))]
              rfl
            unfold tG
            rw [List.map_cons, if_pos e, hs]
            simp only [List.find?_cons, e, e3, decide_false]
      · have hm : a ∈ A.map (·.1) := by
          rw [List.map_cons] at hc
          rcases List.mem_cons.mp hc with z | z
          · exact absurd z.symm e
          · exact z
        have := ih hm
        unfold tG at this ⊢
        rw [List.map_cons, if_neg e, List.find?_cons, List.find?_cons]
        by_cases c : p.1 = x
        · have : ¬ x = a := fun z => e (c.trans z)
          rw [if_neg this]
          simp [c]
        · rw [decide_eq_false c]
          exact this
  · rw [tP_new hc]
    by_cases c : x = a
    · rw [if_pos c]
      subst c
      have := tG_none hc
      unfold tG at this ⊢
      rw [List.find?_append]
      rw [Option.map_eq_none_iff] at this
      rw [this]
      simp
    · rw [if_neg c]
      have e3 : ¬ a = x := fun z => c z.symm
      unfold tG
      rw [List.find?_append]
      cases h : A.find? fun p => decide (p.1 = x) with
      | none => simp [e3]
      | some w => rfl
theorem us_getD (s : St) (q : Nat) : (s.tab.us (frP s)).getD q 0 = s.us.getD q 0 := by
  unfold Tb.Tab.us
  split
  · show (s.us ++ [0]).getD q 0 = _
    rw [List.getD_eq_getElem?_getD, List.getD_eq_getElem?_getD]
    by_cases c : q < s.us.length
    · rw [List.getElem?_append_left c]
    · rw [List.getElem?_append_right (by omega), List.getElem?_eq_none (l := s.us) (by omega)]
      cases h : q - s.us.length with
      | zero => rfl
      | succ n => rfl
  · rfl
def cmD (y : Tb.Th × (Bn × List (List Nat) × Int)) : D := .tup [.str y.1.1, .int y.1.2]
def dqM (s : St) (U : List (Nat × Nat)) : Mem := [.dk false (vK s.V), .dk false (uK U), .lst (s.al.map cmD)]
/-- the law's turns are the table's -/
def UOk (s : St) (U : List (Nat × Nat)) : Prop := ∀ q, (tG U q).getD 0 = s.us.getD q 0
theorem UOk.put {b : Bn} {m : Nat} {th : List (Bn × Int)} {ns : List Int} {s : St} {U : List (Nat × Nat)} (ok : SOk b m th ns s) (h : UOk s U) (hm : List Nat) (n : Int) (pl : Bn) (rs : List (List Nat)) (f : Int) : UOk (stPut s hm n pl rs f) (tP U (frP s) (frT s + 1)) := fun q => by
  rw [tG_tP]
  show _ = ((s.tab.us (frP s)).set (frP s) (frT s + 1)).getD q 0
  by_cases c : q = frP s
  · rw [if_pos c, c, List.getD_eq_getElem?_getD, List.getElem?_set_self (fr_lt ok)]
  · rw [if_neg c, List.getD_eq_getElem?_getD, List.getElem?_set_ne (fun z => c z.symm), ← List.getD_eq_getElem?_getD, us_getD]
    exact h q
theorem due_place {M : Mem} {N : Nat} {s : St} (hg : M[N]? = some (.dk false (vK s.V))) (hl : s.V.length < 1000000) (x0 x1 x3 x4 x5 x6 : Option D) :
    (mCall oMinL (aCons (mLc false [7] (iR1 (aCons (mOp (oAdd false) (mCall oLenA (aCons (mVar 2) aNil)) (mC (.int 1))) aNil)) (gN 7) T_law_due_0 C_law_due_1) aNil)) [x0, x1, some (.ref N), x3, x4, x5, x6, none] M = .ok (.int (frP s)) M := by
  have hr : rngItems 0 (s.V.length + 1) = (List.range (s.V.length + 1)).map fun q : Nat => D.int q := by unfold rngItems; simp
  have hin : ∀ q : Nat, oInA true (.int q) (.ref N) M = .ok (.bl (!s.tab.has q)) M := fun q => by
    rw [oInA_dk hg, vK_has]
    cases s.tab.has q <;> rfl
  have c := compL_fm (P := fun _ => True) (M := M) trivial (g := gN 7) (t := T_law_due_0) (f := C_law_due_1) (env := wipeE [x0, x1, some (.ref N), x3, x4, x5, x6, none] [7]) (fun q : Nat => D.int q) (fun q => !s.tab.has q) (fun q : Nat => D.int q) (List.range (s.V.length + 1)) fun q _ => by
    refine ⟨[x0, x1, some (.ref N), x3, x4, x5, x6, some (.int q)], rfl, ?_, fun _ => rfl⟩
    push_cast [T_law_due_0, hin]
  have h0 : frP s ≤ s.V.length := by have := frq1 s; rwa [show s.tab.there.length = s.V.length from by show (s.V.map Ev.en).length = _; rw [List.length_map]] at this
  obtain ⟨r, e1, e2⟩ := Tb.least_free (frq2 s) (frq3 s) h0
  have hm : ((List.range (s.V.length + 1)).filter fun q => !s.tab.has q).map (fun q : Nat => D.int q) = ((frP s : Int) :: r).map D.int := by rw [← e1, List.map_map]; rfl
  rw [hm, ← hr] at c
  have ln : oLenA [.ref N] M = .ok (.int s.V.length) M := by rw [oLenA_dk hg, vK_len]
  have mn : oMinL [.lst (((frP s : Int) :: r).map D.int)] M = .ok (.int (frP s)) M := by
    simp only [oMinL, lstOf, Option.bind_some, intsOf_map, e2]
  have cast : ((s.V.length : Int) + 1) = ((s.V.length + 1 : Nat) : Int) := by simp
  simp -implicitDefEqProofs (disch := first | assumption | omega | (simp only [List.length_cons, List.length_nil, List.length_append, List.length_map, List.length_take, List.length_drop, rngItems_len]; omega)) only [mSeq_eq, mIfS_eq, mSet_eq, mRet_eq, mRetN_eq, mExpr_eq, mPass_eq, mAsg_eq, mPar_eq, mAug_eq, bOf_eq, tOf_eq, tAndM_eq, tOrM_eq, tNotM_eq, tsYes_eq, mOp_eq, mUn_eq, mVar_eq, mC_eq, mCall_eq, mFun_eq, mFunKw_eq, mMeth_eq, mAnd_eq, mOr_eq, mNot_eq, mIf_eq, mChain_eq, mSl_eq, pNone_eq, pSome_eq, aCons_eq, aNil_eq, mTup_eq, mLst_eq, gN_eq, gT_eq, gsNil_eq, gsCons_eq, mkL_t, mkL_f, R.bind_ok, R.bind_no, R.nox_ok, List.getElem?_cons_zero, List.getElem?_cons_succ, List.set_cons_zero, List.set_cons_succ, List.length_cons, List.length_nil, List.append_nil, List.nil_append, List.cons_append, piApp_on, oLen_fz, oLen_lst, oLen_tup, oLt_int, oLe_int, oGt_int, oGe_int, oAdd_int, oSub_int, oIx_fz, oIx_lst, oIx_tup, oMax_int, oMin_int, oInt_bl, oInt_int, oIsi_bl, oNeg_int, oTuple_lst, oTuple_tup, iR1_eq, iR2_eq, iSq_eq, iStrM_eq, srcOf_tup, srcOf_lst, srcOf_fz, if_true, if_false, Bool.false_eq_true, Bool.true_eq_false, reduceIte, Nat.reduceAdd, Nat.reduceLeDiff, Nat.reduceEqDiff, Bool.not_true, Bool.not_false, decide_true, decide_false, and_self, and_true, true_and, oMod_int, oMul_r, oMul_l, oLen_str, oAdd_str, oSl_str, oSl_tup, oSl_lst, oSl_fz, rngOk_of, oEq_int, oEq_bl, beq_self_eq_true, Int.toNat_natCast, mFor_eq, mLc_eq, app_get0, app_get1, app_set0, app_set1, tyOk, oTuple_ref, oList_ref, oLen_refM, oIx_refM, oAppM, oExtM, srcOf_refM, ifLt24, ifLe24, ln, cast, c, mn]
theorem u_get {M : Mem} {N : Nat} {U : List (Nat × Nat)} (hg : M[N]? = some (.dk false (uK U))) (p : Nat) : oGetM (.ref N) [.int p, .int 0] M = .ok (.int ((tG U p).getD 0 : Nat)) M := by
  rw [oGetM_dk2 hg]
  have e : gA (uK U) (kN p) = (tG U p).map fun t : Nat => D.int t := gA_tM kN_inj p _
  have e : gA (uK U) (.inl (p : Int)) = (tG U p).map fun t : Nat => D.int t := e
  rw [e]
  cases tG U p <;> rfl
theorem due_turn {M : Mem} {N m : Nat} {b : Bn} {th th' : List (Bn × Int)} {ns ns' : List Int} {s : St} {r : Rw} {U : List (Nat × Nat)} (hN : M.length = N) (ok : SOk b m th ns s) (hm : m ≤ 1000) (h0 : thN0 th) (t : ThSt th r th') (hn : NsSt ns ns' r) (hU : UOk s U) (hul : U.length ≤ m) (x0 y5 y6 : Option D) : ∃ (z5 z6 : Option D) (U' : List (Nat × Nat)), L_law_due_2 [x0, some (bnD b), some (.ref N), some (.ref (N + 1)), some (.ref (N + 2)), some (rwD r), y6, none] (M ++ dqM s U) = .ok (.nx [x0, some (bnD b), some (.ref N), some (.ref (N + 1)), some (.ref (N + 2)), z5, z6, none]) (M ++ dqM (stF b s r) U') ∧ UOk (stF b s r) U' ∧ U'.length ≤ m + 1 := by
  have g0 : (M ++ dqM s U)[N]? = some (.dk false (vK s.V)) := app_get0 hN
  have g1 : (M ++ dqM s U)[N + 1]? = some (.dk false (uK U)) := app_get1 hN
  have a0 := rw_at0 r
  cases t with
  | @put t b' hm' n pl rs f a p hp =>
    have q1 : ∀ M, oEq false (.str (rwW (.put t b' hm' n pl rs f a))) (.str wPut) M = .ok (.bl true) M := fun M => sEqT _ M
    have q2 := w4 (r := .put t b' hm' n pl rs f a) wDrop (by simp only [rwW]; decide)
    have a2 : atI (rwL (.put t b' hm' n pl rs f a)) 2 = some (bnD b') := rfl
    have c38 : Fn.cutD (rwL (.put t b' hm' n pl rs f a)) (some 3) (some 8) = [.str hm', .int n, bnD pl, .tup (rs.map .str), .int f] := rfl
    have c35 : Fn.cutD (rwL (.put t b' hm' n pl rs f a)) (some 3) (some 5) = [.str hm', .int n] := rfl
    by_cases c : b' = b
    · subst c
      rw [stF_p1]
      have e0 := bn_eqT b'
      obtain ⟨v, hv1⟩ : ∃ v : Ev, (⟨frP s, frT s, (hm', n), pl, rs, f⟩ : Ev) = v := ⟨_, rfl⟩
      have pe := due_place g0 (by have := ok.lv; omega) x0 (some (bnD b')) (some (.ref (N + 1))) (some (.ref (N + 2))) (some (rwD (.put t b' hm' n pl rs f a))) y6
      have ug : oGetM (.ref (N + 1)) [.int (frP s), .int 0] (M ++ dqM s U) = .ok (.int (frT s)) (M ++ dqM s U) := by
        rw [u_get g1, hU (frP s), ← us_getD]
        rfl
      have fn : ¬ v.p ∈ s.V.map (·.p) := fun z => by
        rw [← hv1] at z
        have := has_V.mpr z
        rw [frq3 s] at this
        cases this
      have pt : sPut (M ++ dqM s U) (.ref N) (.int (frP s)) (evD v) = some (M ++ [.dk false (vK (s.V ++ [v])), .dk false (uK U), .lst (s.al.map cmD)]) := by
        have hh : (frP s : Int) = v.p := by rw [← hv1]
        rw [hh, sPut_dk g0 (by rw [vK_len]; have := ok.lv; omega), vK_new fn]
        exact congrArg some (app_set0 hN)
      obtain ⟨M1, hM1⟩ : ∃ M1, M ++ [Cell.dk false (vK (s.V ++ [v])), .dk false (uK U), .lst (s.al.map cmD)] = M1 := ⟨_, rfl⟩
      rw [hM1] at pt
      have g11 : M1[N + 1]? = some (.dk false (uK U)) := by rw [← hM1]; exact app_get1 hN
      have ug1 : oGetM (.ref (N + 1)) [.int (frP s), .int 0] M1 = .ok (.int (frT s)) M1 := by
        rw [u_get g11, hU (frP s), ← us_getD]
        rfl
      have pt1 : sPut M1 (.ref (N + 1)) (.int (frP s)) (.int ((frT s : Int) + 1)) = some (M ++ [.dk false (vK (s.V ++ [v])), .dk false (uK (tP U (frP s) (frT s + 1))), .lst (s.al.map cmD)]) := by
        rw [sPut_dk g11 (by rw [uK_len]; omega)]
        have e : pA (uK U) (kN (frP s)) (.int ((frT s + 1 : Nat) : Int)) = uK (tP U (frP s) (frT s + 1)) := pA_tM (vf := fun t : Nat => D.int t) kN_inj U (frP s) (frT s + 1)
        have e : pA (uK U) (.inl (frP s : Int)) (.int ((frT s : Int) + 1)) = uK (tP U (frP s) (frT s + 1)) := e
        rw [e, ← hM1]
        exact congrArg some (app_set1 hN)
      obtain ⟨M2, hM2⟩ : ∃ M2, M ++ [Cell.dk false (vK (s.V ++ [v])), .dk false (uK (tP U (frP s) (frT s + 1))), .lst (s.al.map cmD)] = M2 := ⟨_, rfl⟩
      rw [hM2] at pt1
      have g22 : M2[N + 2]? = some (.lst (s.al.map cmD)) := by rw [← hM2]; exact app_get2 hN
      have ty2 : tyOk "list" M2 (.ref (N + 2)) = true := tyOk_at g22
      have tyd : ∀ Q, (∃ U, Q[N + 1]? = some (Cell.dk false (uK U))) → tyOk "dict" Q (.ref (N + 1)) = true := fun Q h => by obtain ⟨U, h⟩ := h; exact tyOk_dk h
      have ty0 := tyd _ ⟨_, g1⟩
      have ty1 := tyd _ ⟨_, g11⟩
      have ap : oAppend (.ref (N + 2)) [.tup [.str hm', .int n]] M2 = .ok .non (M ++ dqM (stPut s hm' n pl rs f) (tP U (frP s) (frT s + 1))) := by
        rw [oAppend_at g22 (by rw [List.length_map]; have := ok.la; omega), ← hM2, app_set2 hN]
        unfold dqM stPut
        rw [hv1, List.map_append]
        rfl
      have d1 : ∀ M, oAdd false (.tup [.tup [.int (frP s), .int (frT s)]]) (.tup [.str hm', .int n, bnD pl, .tup (rs.map .str), .int f]) M = .ok (evD v) M := fun M => by
        rw [oAdd_tupR (by simp), ← hv1]
        rfl
      refine ⟨some (rwD (.put t b' hm' n pl rs f a)), some (.int (frP s)), tP U (frP s) (frT s + 1), ?_, hU.put ok hm' n pl rs f, Nat.le_trans (tP_len ..) (by omega)⟩
      have rd : rwD (.put t b' hm' n pl rs f a) = .tup (rwL (.put t b' hm' n pl rs f a)) := rfl
      rw [rd] at pe ⊢
      generalize M ++ dqM (stPut s hm' n pl rs f) (tP U (frP s) (frT s + 1)) = M3 at *
      generalize M ++ dqM s U = M0 at *
      generalize rwL (.put t b' hm' n pl rs f a) = R0 at *
      generalize rwW (.put t b' hm' n pl rs f a) = W0 at *
      generalize bnD b' = B0 at *
      generalize bnD pl = B1 at *
      generalize evD v = E1 at *
      generalize hPX : (mCall oMinL (aCons (mLc false [7] (iR1 (aCons (mOp (oAdd false) (mCall oLenA (aCons (mVar 2) aNil)) (mC (.int 1))) aNil)) (gN 7) T_law_due_0 C_law_due_1) aNil)) = PX at *
      have hdef : L_law_due_2 = L_law_due_2 := rfl
      unfold L_law_due_2
      rw [hPX]
      push_cast [oIxA_tup, a0, q1, a2, e0, pe, ty0, ug, oSl_tup, c38, d1, gIxA_eq, pt, ty1, ug1, pt1, ty2, c35, ap, q2]
      all_goals rfl
    · have e0 := bn_eqF c
      rw [stF_p2 c]
      refine ⟨some (rwD (.put t b' hm' n pl rs f a)), y6, U, ?_, hU, by omega⟩
      have rd : rwD (.put t b' hm' n pl rs f a) = .tup (rwL (.put t b' hm' n pl rs f a)) := rfl
      rw [rd]
      generalize M ++ dqM s U = M0 at *
      generalize rwL (.put t b' hm' n pl rs f a) = R0 at *
      generalize rwW (.put t b' hm' n pl rs f a) = W0 at *
      generalize bnD b' = B0 at *
      generalize bnD b = B1 at *
      push_cast [L_law_due_2, oIxA_tup, a0, q1, a2, e0, q2]
      all_goals rfl
  | @drop t b' p hmem =>
    have q1 := w4 (r := .drop t b' p) wPut (by simp only [rwW]; decide)
    have q2 : ∀ M, oEq false (.str (rwW (.drop t b' p))) (.str wDrop) M = .ok (.bl true) M := fun M => sEqT _ M
    have a2 : atI (rwL (.drop t b' p)) 2 = some (bnD b') := rfl
    have a3 : atI (rwL (.drop t b' p)) 3 = some (.int p) := rfl
    have rd : rwD (.drop t b' p) = .tup (rwL (.drop t b' p)) := rfl
    by_cases c : b' = b
    · subst c
      rw [stF_d1]
      have e0 := bn_eqT b'
      obtain ⟨q, hq⟩ := h0 _ hmem
      have hq : p = (q : Int) := hq
      have hqm := hmem
      rw [hq] at hqm
      obtain ⟨e, he, e2⟩ := List.mem_map.mp ((ok.pl q).mpr hqm)
      have hp2 : p = (e.p : Int) := by rw [hq]; show (q : Int) = e.p; omega
      have po : oPopE (.ref N) [.int p] (M ++ dqM s U) = .ok (evD e) (M ++ dqM (stDrop s p) U) := by
        rw [oPopE_dk g0 (by rw [hp2]; exact vK_at ok.nd he), vK_drop]
        exact congrArg (R.ok (evD e)) (app_set0 hN)
      have ty : tyOk "dict" (M ++ dqM s U) (.ref N) = true := tyOk_dk g0
      refine ⟨some (rwD (.drop t b' p)), y6, U, ?_, hU, by omega⟩
      rw [rd]
      generalize M ++ dqM (stDrop s p) U = M3 at *
      generalize M ++ dqM s U = M0 at *
      generalize rwL (.drop t b' p) = R0 at *
      generalize rwW (.drop t b' p) = W0 at *
      generalize bnD b' = B0 at *
      push_cast [L_law_due_2, oIxA_tup, a0, q1, q2, a2, e0, ty, a3, po]
      all_goals rfl
    · have e0 := bn_eqF c
      rw [stF_d2 c]
      refine ⟨some (rwD (.drop t b' p)), y6, U, ?_, hU, by omega⟩
      rw [rd]
      generalize M ++ dqM s U = M0 at *
      generalize rwL (.drop t b' p) = R0 at *
      generalize rwW (.drop t b' p) = W0 at *
      generalize bnD b' = B0 at *
      generalize bnD b = B1 at *
      push_cast [L_law_due_2, oIxA_tup, a0, q1, q2, a2, e0]
      all_goals rfl
  | other h1 h2 =>
    have e : stF b s r = s := by cases r <;> first | rfl | (exact absurd rfl h1) | (exact absurd rfl h2)
    have q1 := w4 wPut h1
    have q2 := w4 wDrop h2
    rw [e]
    refine ⟨some (rwD r), y6, U, ?_, hU, by omega⟩
    have rd : rwD r = .tup (rwL r) := rfl
    rw [rd]
    generalize M ++ dqM s U = M0 at *
    generalize rwL r = R0 at *
    generalize rwW r = W0 at *
    generalize bnD b = B1 at *
    push_cast [L_law_due_2, oIxA_tup, a0, q1, q2]
    all_goals rfl
theorem due_run {M : Mem} {N : Nat} {b : Bn} {L : List Rw} {th : List (Bn × Int)} {ns cs : List Int} (hh : Hist L th ns cs) (hl : L.length ≤ 1000) (hN : M.length = N) (x0 : Option D) : ∃ (z5 z6 : Option D) (U : List (Nat × Nat)), RunL (gN 5) L_law_due_2 (L.map rwD) [x0, some (bnD b), some (.ref N), some (.ref (N + 1)), some (.ref (N + 2)), none, none, none] (M ++ dqM ⟨[], [], []⟩ []) [x0, some (bnD b), some (.ref N), some (.ref (N + 1)), some (.ref (N + 2)), z5, z6, none] (M ++ dqM (stL b L) U) ∧ UOk (stL b L) U ∧ U.length ≤ L.length := by
  induction hh with
  | nil => exact ⟨none, none, [], ⟨rfl, rfl⟩, fun q => rfl, Nat.le_refl _⟩
  | @snoc l th th' ns ns' cs cs' r hh ok t hn hc ih =>
    rw [List.length_append, List.length_singleton] at hl
    obtain ⟨z5, z6, U, e1, hU, hul⟩ := ih (by omega)
    have hn' : NsSt ns ns' r := by cases r <;> exact hn
    obtain ⟨w5, w6, U2, e2, hU2, hul2⟩ := due_turn hN (stL_ok (b := b) hh) (by omega) (hist_n0 hh) t hn' hU hul x0 z5 z6
    have es : stL b (l ++ [r]) = stF b (stL b l) r := by unfold stL; rw [List.foldl_append]; rfl
    refine ⟨w5, w6, U2, ?_, by rw [es]; exact hU2, by rw [List.length_append, List.length_singleton]; exact hul2⟩
    rw [List.map_append, es]
    refine RunL.snoc (e' := [x0, some (bnD b), some (.ref N), some (.ref (N + 1)), some (.ref (N + 2)), z5, z6, none]) (m' := M ++ dqM (stL b l) U) ?_ e1
    exact e2
theorem ev_px {b : Bn} {m : Nat} {th : List (Bn × Int)} {ns : List Int} {s : St} (e : Ev) : Px 2 (evD e) := Px.tup (n := 1) (PxL.cons (Px.tup (n := 0) (PxL.cons (Px.int _) (PxL.cons (Px.int _) PxL.nil))) (PxL.cons (Px.str _) (PxL.cons (Px.int _) (PxL.cons (Px.tup (n := 0) (PxL.cons (Px.str _) (PxL.cons (Px.str _) PxL.nil))) (PxL.cons (Px.tup (n := 0) fun d hd => by
  obtain ⟨w, _, rfl⟩ := List.mem_map.mp hd
  exact Px.str _) (PxL.cons (Px.int _) PxL.nil))))))
theorem tab_px (b : Bn) (L : List Rw) : PxL 2 (tabL b L) := fun d hd => by
  obtain ⟨e, _, rfl⟩ := List.mem_map.mp hd
  exact ev_px (b := b) (m := 0) (th := []) (ns := []) (s := ⟨[], [], []⟩) e
theorem al_px (l : List (Tb.Th × (Bn × List (List Nat) × Int))) : PxL 1 (l.map cmD) := fun d hd => by
  obtain ⟨y, _, rfl⟩ := List.mem_map.mp hd
  exact Px.tup (n := 0) (PxL.cons (Px.str _) (PxL.cons (Px.int _) PxL.nil))
theorem pxl_py {n : Nat} {l : List D} (h : PxL n l) : ∃ ps, pyL l = some ps := by
  have pl : PlL n l := fun d hd => (h d hd).pl
  obtain ⟨ps, h1, _⟩ := pl.py
  exact ⟨ps, h1⟩
theorem due_eq {X : D} {b : Bn} {L : List Rw} {th : List (Bn × Int)} {ns cs : List Int} (hX : ∀ M, srcOf M X = some ⟨L.map rwD, fun _ => True⟩) (hh : Hist L th ns cs) (hl : L.length ≤ 1000) (M : Mem) : g_law_due [X, bnD b] M = .ok (.tup [.lst (tabL b L), .lst (evrL b L)]) M := by
  obtain ⟨z5, z6, U, e1, hU, hul⟩ := due_run (b := b) hh hl (rfl : M.length = M.length) (some X)
  have e2 := RunL.run e1
  have ok := stL_ok (b := b) hh
  have g0 : (M ++ dqM (stL b L) U)[M.length]? = some (.dk false (vK (stL b L).V)) := app_get0 rfl
  have g2 : (M ++ dqM (stL b L) U)[M.length + 2]? = some (.lst ((stL b L).al.map cmD)) := app_get2 rfl
  have pm := srtV_perm (stL b L).V
  have hs : oSortS false [.ref M.length] (M ++ dqM (stL b L) U) = .ok (.lst ((srtV (stL b L).V).map fun e => D.int e.p)) (M ++ dqM (stL b L) U) := by
    have f1 : (vK (stL b L).V).map (fun kv => keyD kv.1) = ((stL b L).V.map fun e => (e.p : Int)).map D.int := by unfold vK tM vA; rw [List.map_map, List.map_map, List.map_map]; rfl
    have f2 : sortD (((stL b L).V.map fun e => (e.p : Int)).map D.int) = (srtV (stL b L).V).map fun e => D.int e.p := by rw [← sort_pv, List.map_map]; rfl
    simp only [oSortS, g0, f1, sortOk_ints, if_true, f2, mkL_f]
  have c1 : ∀ (x2 x3 x4 x5 : Option D), compL (fun _ => True) (gN 6) tsYes C_law_due_3 [some X, some (bnD b), some (.ref M.length), x2, x3, x4, none, x5] ((srtV (stL b L).V).map fun e => D.int e.p) (M ++ dqM (stL b L) U) = .ok (tabL b L) (M ++ dqM (stL b L) U) := fun x2 x3 x4 x5 => by
    refine compL_m trivial (fun e : Ev => D.int e.p) evD (srtV (stL b L).V) fun e he => ⟨[some X, some (bnD b), some (.ref M.length), x2, x3, x4, some (.int e.p), x5], rfl, ?_⟩
    have i1 := oIxA_dk g0 (vK_at ok.nd (pm.mem_iff.mp he))
    generalize evD e = E1 at *
    push_cast [C_law_due_3, i1]
  have w6' : ∀ (y0 y1 y2 y3 y4 y5 y6 y7 : Option D), wipeE [y0, y1, y2, y3, y4, y5, y6, y7] [6] = [y0, y1, y2, y3, y4, y5, none, y7] := fun _ _ _ _ _ _ _ _ => rfl
  have hsl : ((srtV (stL b L).V).map fun e => D.int e.p).length < 16777216 := by
    rw [List.length_map, pm.length_eq]
    have := ok.lv
    omega
  have hx := hX (M ++ [.dk false [], .dk false [], .lst []])
  have e2' : forL (fun _ => True) (gN 5) L_law_due_2 (L.map rwD) [some X, some (bnD b), some (.ref M.length), some (.ref (M.length + 1)), some (.ref (M.length + 2)), none, none, none] (M ++ [.dk false [], .dk false [], .lst []]) = .ok (.nx [some X, some (bnD b), some (.ref M.length), some (.ref (M.length + 1)), some (.ref (M.length + 2)), z5, z6, none]) (M ++ dqM (stL b L) U) := e2
  have hB : B_law_due [some X, some (bnD b), none, none, none, none, none, none] M = .ok (.rt (.tup [.lst (tabL b L), .ref (M.length + 2)])) (M ++ dqM (stL b L) U) := by
    generalize hM1 : M ++ dqM (stL b L) U = M1 at *
    generalize bnD b = B0 at *
    generalize tabL b L = TL at *
    generalize hH : ((srtV (stL b L).V).map fun e => D.int e.p) = H0 at *
    push_cast [B_law_due, mDNewK_eq, List.length_append, List.append_assoc, hx, mFor_eq, e2', mLc_eq, hs, hsl, w6', c1]
  have hal : (stL b L).al.map cmD = evrL b L := ever_al b L
  rw [← hal]
  obtain ⟨p1, hp1⟩ := pxl_py (tab_px b L)
  obtain ⟨p2, hp2⟩ := pxl_py (al_px (stL b L).al)
  have hf : frzD (M ++ dqM (stL b L) U) M.length (.tup [.lst (tabL b L), .ref (M.length + 2)]) = .tup [.lst (tabL b L), .lst ((stL b L).al.map cmD)] := by
    simp only [frzD, frzL, frzL_py _ _ _ _ hp1, g2]
    rw [if_neg (by omega)]
  show gcR M (runB B_law_due 8 [X, bnD b] M) = _
  rw [runB_rt (N := 8) hB]
  unfold gcR
  simp only
  rw [if_pos (by rw [hf]; exact cut_id (d := .tup [.lst (tabL b L), .lst ((stL b L).al.map cmD)]) (by simp only [bdD, bdL, pyL_bd hp1, pyL_bd hp2, Bool.and_self])), hf, List.take_append_of_le_length (by omega), List.take_of_length_le (Nat.le_refl _)]
theorem tab_repr {b : Bn} {L : List Rw} {th : List (Bn × Int)} {ns cs : List Int} (hh : Hist L th ns cs) (hl : L.length ≤ 100) : ∃ s, (∀ M, oRepr [.lst (tabL b L)] M = .ok (.str s) M) ∧ ∀ (M : Mem) (i : Nat), M[i]? = some (.lst (tabL b L)) → oRepr [.ref i] M = .ok (.str s) M := by
  have ok := stL_ok (b := b) hh
  have pm := srtV_perm (stL b L).V
  refine repr_list (w := 60000) (n := 3) (m := 2) ((ShLD.all (w := 500) (m := 100) (by unfold tabL; rw [List.length_map, pm.length_eq]; have := ok.lv; omega) fun d hd => ?_).mono (by omega)) (fun d hd => (tab_px b L d hd).pl) (by omega) (by omega)
  obtain ⟨e, he, rfl⟩ := List.mem_map.mp hd
  have hm := pm.mem_iff.mp he
  obtain ⟨b1, b2, b3, b4, b5, b6⟩ := ok.eb _ (ok.hv e hm)
  obtain ⟨t1, t2⟩ := ok.et e hm
  exact ShD.tup (n := 2) (ShLD.mono (ShLD.cons ((show ShD 64 1 (hv e) from ShD.tup (n := 0) (ShLD.cons (ShD.int (show (0 : Int) ≤ (e.p : Int) by omega) (show (e.p : Int) < 1000000000 by omega)) (.cons (ShD.int (show (0 : Int) ≤ (e.t : Int) by omega) (show (e.t : Int) < 1000000000 by omega)) .nil))).up (by omega)) (.cons ((sh_nm b1).up (by omega)) (.cons ((sh_int b2).up (by omega)) (.cons ((sh_bn b3).up (by omega)) (.cons ((sh_strs b4 b5).up (by omega)) (.cons ((sh_int b6).up (by omega)) .nil)))))) (by omega))
theorem evr_repr {b : Bn} {L : List Rw} {th : List (Bn × Int)} {ns cs : List Int} (hh : Hist L th ns cs) (hl : L.length ≤ 100) : ∃ s, (∀ M, oRepr [.lst (evrL b L)] M = .ok (.str s) M) ∧ ∀ (M : Mem) (i : Nat), M[i]? = some (.lst (evrL b L)) → oRepr [.ref i] M = .ok (.str s) M := by
  have ok := stL_ok (b := b) hh
  have hal : (stL b L).al.map cmD = evrL b L := ever_al b L
  rw [← hal]
  refine repr_list (w := 10100) (n := 1) (m := 1) ((ShLD.all (w := 100) (m := 100) (by rw [List.length_map]; have := ok.la; omega) fun d hd => ?_).mono (by omega)) (fun d hd => (al_px _ d hd).pl) (by omega) (by omega)
  obtain ⟨y, hy, rfl⟩ := List.mem_map.mp hd
  obtain ⟨b1, b2, b3, b4, b5, b6⟩ := ok.eb y hy
  exact ShD.tup (n := 0) (ShLD.mono (ShLD.cons (sh_nm b1) (.cons (sh_int b2) .nil)) (by omega))
theorem oClear_at {M : Mem} {i : Nat} {l : List D} (h : M[i]? = some (.lst l)) : oClear (.ref i) [] M = .ok .non (M.set i (.lst [])) := by simp only [oClear, h]
theorem oAdd_lstR (a b : List D) (h : a.length + b.length ≤ 16777216) (M : Mem) : oAdd false (.lst a) (.lst b) M = .ok (.lst (a ++ b)) M := by
  have e : oAdd false (.lst a) (.lst b) M = oAddL false (.lst a) (.lst b) M := rfl
  rw [e]
  simp only [oAddL, Fn.ownOf, if_pos h]
  rfl
theorem being_turn {M : Mem} (L : List Rw) (j : Nat) {th : List (Bn × Int)} {ns cs : List Int} (hh0 : Hist L th ns cs) (hl0 : L.length ≤ 100) (b : Bn) (x0 x1 x2 x4 y7 y8 y9 y10 : Option D) : ∃ (M' : Mem) (z7 z8 z9 z10 : Option D), L_law_0 [x0, x1, x2, some (.tup (L.map rwD)), x4, some (.int j), some (bnD b), y7, y8, y9, y10] M = .ok (.nx [x0, x1, x2, some (.tup (L.map rwD)), x4, some (.int j), some (bnD b), z7, z8, z9, z10]) M' := by
  have c1 : Fn.cutD (L.map rwD) none (some (j : Int)) = (L.take j).map rwD := by rw [cutD_take, List.map_take]
  obtain ⟨th', ns', cs', hh⟩ := hist_take hh0 j
  have hl : (L.take j).length ≤ 100 := by rw [List.length_take]; omega
  generalize L.take j = T at c1 hh hl
  have e1 := due_eq (X := .tup (T.map rwD)) (b := b) (fun M => srcOf_tup _) hh (by omega) M
  obtain ⟨M1, e2⟩ := table_eq (X := .tup (T.map rwD)) (b := b) (fun M => srcOf_tup _) hh (by omega) M
  obtain ⟨M2, hM2⟩ : ∃ M2, M1 ++ [Cell.lst (tabL b T)] = M2 := ⟨_, rfl⟩
  have e3 := ever_eq (X := .lst (T.map rwD)) (b := b) (L := T) (fun M => srcOf_lst _) (by omega) M2
  obtain ⟨M3, hM3⟩ : ∃ M3, M2 ++ [Cell.lst (evrL b T)] = M3 := ⟨_, rfl⟩
  rw [hM2] at e2
  rw [hM3] at e3
  have l2 : M2.length = M1.length + 1 := by rw [← hM2]; simp
  have ga : M3[M1.length]? = some (.lst (tabL b T)) := by rw [← hM3, List.getElem?_append_left (by omega), ← hM2]; exact app_get0 rfl
  have gb : M3[M2.length]? = some (.lst (evrL b T)) := by rw [← hM3]; exact app_get0 rfl
  obtain ⟨s1, r1, r1'⟩ := tab_repr (b := b) hh hl
  obtain ⟨s2, r2, r2'⟩ := evr_repr (b := b) hh hl
  have ra := r1' M3 M1.length ga
  have rb := r2' M3 M2.length gb
  have i1 : oIsi "list" (.ref M1.length) M3 = .ok (.bl true) M3 := by simp only [oIsi, tyD, ga]; rfl
  have i2 : oIsi "list" (.ref M2.length) M3 = .ok (.bl true) M3 := by simp only [oIsi, tyD, gb]; rfl
  have q1 : ∀ M, oEq true (.str s1) (.str s1) M = .ok (.bl false) M := fun M => oEq_exT rfl (by simp [dpD])
  have q2 : ∀ M, oEq true (.str s2) (.str s2) M = .ok (.bl false) M := fun M => oEq_exT rfl (by simp [dpD])
  have ty1 : tyOk "list" M3 (.ref M1.length) = true := tyOk_at ga
  obtain ⟨M4, hM4⟩ : ∃ M4, M3.set M1.length (.lst []) = M4 := ⟨_, rfl⟩
  have cl : oClear (.ref M1.length) [] M3 = .ok .non M4 := by rw [oClear_at ga, hM4]
  have gb4 : M4[M2.length]? = some (.lst (evrL b T)) := by rw [← hM4, List.getElem?_set_ne (by omega)]; exact gb
  have ty2 : tyOk "list" M4 (.ref M2.length) = true := tyOk_at gb4
  have hev : (evrL b T).length ≤ 100 := by
    unfold evrL
    rw [List.length_map]
    exact Nat.le_trans (List.length_filter_le _ _) hl
  obtain ⟨M5, hM5⟩ : ∃ M5, M4.set M2.length (.lst (evrL b T ++ [.tup [.str b.1, .int 0]])) = M5 := ⟨_, rfl⟩
  have ap : oAppend (.ref M2.length) [.tup [.str b.1, .int 0]] M4 = .ok .non M5 := by rw [oAppend_at gb4 (by omega), hM5]
  have ix : ∀ M, oIx (bnD b) (.int 0) M = .ok (.str b.1) M := fun M => rfl
  have lo : ∀ M, oList false [.tup (T.map rwD)] M = .ok (.lst (T.map rwD)) M := fun M => rfl
  refine ⟨M5, some (.lst (tabL b T)), some (.lst (evrL b T)), some (.ref M1.length), some (.ref M2.length), ?_⟩
  generalize T.map rwD = TR at *
  generalize L.map rwD = LR at *
  generalize bnD b = B0 at *
  generalize tabL b T = TL at *
  generalize evrL b T = EL at *
  push_cast [L_law_0, mSl_eq, oSl_tup, c1, e1, e2, lo, e3, i1, ra, r1, q1, i2, rb, r2, q2, ty1, cl, ty2, ix, ap]
theorem size_turn {M : Mem} (L : List Rw) (j : Nat) {th : List (Bn × Int)} {ns cs : List Int} (hh0 : Hist L th ns cs) (hl0 : L.length ≤ 100) (F : List Bn) (hF : F.length ≤ 100) (x0 x1 x2 y6 y7 y8 y9 y10 : Option D) : ∃ (M' : Mem) (z6 z7 z8 z9 z10 : Option D), L_law_1 [x0, x1, x2, some (.tup (L.map rwD)), some (.lst (F.map bnD)), some (.int j), y6, y7, y8, y9, y10] M = .ok (.nx [x0, x1, x2, some (.tup (L.map rwD)), some (.lst (F.map bnD)), some (.int j), z6, z7, z8, z9, z10]) M' := by
  have ad : ∀ M, oAdd false (.lst (F.map bnD)) (.lst [.tup [.str [122, 122, 122, 122, 122, 122], .str [122, 122, 122, 122, 122, 122]]]) M = .ok (.lst ((F ++ [([122, 122, 122, 122, 122, 122], [122, 122, 122, 122, 122, 122])]).map bnD)) M := fun M => by
    rw [oAdd_lstR _ _ (by rw [List.length_map]; simp; omega), List.map_append]
    rfl
  obtain ⟨F', hF'⟩ : ∃ F' : List Bn, F ++ [([122, 122, 122, 122, 122, 122], [122, 122, 122, 122, 122, 122])] = F' := ⟨_, rfl⟩
  rw [hF'] at ad
  have key : ∀ (F' : List Bn) (M : Mem) (y6 y7 y8 y9 y10 : Option D), ∃ (M' : Mem) (z6 z7 z8 z9 z10 : Option D), forL (fun _ => True) (gN 6) L_law_0 (F'.map bnD) [x0, x1, x2, some (.tup (L.map rwD)), some (.lst (F.map bnD)), some (.int j), y6, y7, y8, y9, y10] M = .ok (.nx [x0, x1, x2, some (.tup (L.map rwD)), some (.lst (F.map bnD)), some (.int j), z6, z7, z8, z9, z10]) M' := by
    intro F'
    induction F' with
    | nil => exact fun M y6 y7 y8 y9 y10 => ⟨M, y6, y7, y8, y9, y10, forL_nil⟩
    | cons b F' ih =>
      intro M y6 y7 y8 y9 y10
      obtain ⟨M1, z7, z8, z9, z10, e1⟩ := being_turn (M := M) L j hh0 hl0 b x0 x1 x2 (some (.lst (F.map bnD))) y7 y8 y9 y10
      obtain ⟨M2, w6, w7, w8, w9, w10, e2⟩ := ih M1 (some (bnD b)) z7 z8 z9 z10
      have sg : gN 6 (bnD b) [x0, x1, x2, some (.tup (L.map rwD)), some (.lst (F.map bnD)), some (.int j), y6, y7, y8, y9, y10] M = .ok [x0, x1, x2, some (.tup (L.map rwD)), some (.lst (F.map bnD)), some (.int j), some (bnD b), y7, y8, y9, y10] M := rfl
      refine ⟨M2, w6, w7, w8, w9, w10, ?_⟩
      rw [List.map_cons, forL_consP trivial, sg, R.bind_ok, e1, R.bind_ok]
      exact e2
  obtain ⟨M', z6, z7, z8, z9, z10, e⟩ := key F' M y6 y7 y8 y9 y10
  refine ⟨M', z6, z7, z8, z9, z10, ?_⟩
  generalize L.map rwD = LR at *
  generalize F.map bnD = FR at *
  generalize F'.map bnD = FR' at *
  push_cast [L_law_1, ad, mFor_eq, e]
theorem cell_turn (ns : List Int) (k : Nat) (hk : k < 1000) (M : Mem) (y2 y3 y4 y5 y6 y7 y8 y9 y10 : Option D) : ∃ M' z2 z3 z4 z5 z6 z7 z8 z9 z10, L_law_2 [some (.fz (intsD ns)), some (.int (0 + (k : Int))), y2, y3, y4, y5, y6, y7, y8, y9, y10] M = .ok (.nx [some (.fz (intsD ns)), some (.int (0 + (k : Int))), z2, z3, z4, z5, z6, z7, z8, z9, z10]) M' := by
  obtain ⟨s, hs, e1⟩ := flow_eq ns k M hk
  have hf : FlAt (M ++ [s.c]) M.length (M ++ [s.c]) := ⟨⟨s, hs, by rw [app_set0 rfl]⟩, by simp⟩
  obtain ⟨v, M1, v1, h1, e2⟩ := draw_eq hf 40 (by omega) (by omega)
  obtain ⟨K, L, th, ns', cs, M2, hK, hh, hB, hL, h2, e3⟩ := history_eq h1 (10 + v) (by omega)
  have hL' : L.length ≤ 100 := by omega
  have hF : K.folk.length ≤ 100 := by rw [hK.lf]; omega
  obtain ⟨u, M3, u1, h3, e4⟩ := draw_eq h2 ((L.length : Int) + 1) (by omega) (by omega)
  have z : (0 + (k : Int)) = (k : Int) := by omega
  have e3' : g_law_history [.ref M.length, .int (10 + (v : Int))] M1 = .ok (.tup [.tup (L.map rwD), .lst (K.folk.map bnD)]) M2 := by
    have : ((10 + v : Nat) : Int) = 10 + (v : Int) := by omega
    rw [← this]
    exact e3
  have hlen : ∀ M, oLen [.tup (L.map rwD)] M = .ok (.int (L.length : Nat)) M := fun M => by rw [oLen_tup, List.length_map]
  obtain ⟨M6, z5, z6, z7, z8, z9, z10, lp⟩ : ∃ (M6 : Mem) (z5 z6 z7 z8 z9 z10 : Option D), forL (fun _ => True) (gN 5) L_law_1 [.int (L.length : Nat), .int (u : Nat), .int (L.length : Nat)] [some (.fz (intsD ns)), some (.int (k : Int)), some (.ref M.length), some (.tup (L.map rwD)), some (.lst (K.folk.map bnD)), y5, y6, y7, y8, y9, y10] M3 = .ok (.nx [some (.fz (intsD ns)), some (.int (k : Int)), some (.ref M.length), some (.tup (L.map rwD)), some (.lst (K.folk.map bnD)), z5, z6, z7, z8, z9, z10]) M6 := by
    have sg : ∀ (y y6 y7 y8 y9 y10 : Option D) (j : Nat) (Q : Mem), gN 5 (.int j) [some (.fz (intsD ns)), some (.int (k : Int)), some (.ref M.length), some (.tup (L.map rwD)), some (.lst (K.folk.map bnD)), y, y6, y7, y8, y9, y10] Q = .ok [some (.fz (intsD ns)), some (.int (k : Int)), some (.ref M.length), some (.tup (L.map rwD)), some (.lst (K.folk.map bnD)), some (.int j), y6, y7, y8, y9, y10] Q := fun _ _ _ _ _ _ _ _ => rfl
    obtain ⟨Q1, a6, a7, a8, a9, a10, t1⟩ := size_turn (M := M3) L L.length hh hL' K.folk hF (some (.fz (intsD ns))) (some (.int (k : Int))) (some (.ref M.length)) y6 y7 y8 y9 y10
    obtain ⟨Q2, b6, b7, b8, b9, b10, t2⟩ := size_turn (M := Q1) L u hh hL' K.folk hF (some (.fz (intsD ns))) (some (.int (k : Int))) (some (.ref M.length)) a6 a7 a8 a9 a10
    obtain ⟨Q3, c6, c7, c8, c9, c10, t3⟩ := size_turn (M := Q2) L L.length hh hL' K.folk hF (some (.fz (intsD ns))) (some (.int (k : Int))) (some (.ref M.length)) b6 b7 b8 b9 b10
    refine ⟨Q3, some (.int (L.length : Nat)), c6, c7, c8, c9, c10, ?_⟩
    rw [forL_consP trivial, sg, R.bind_ok, t1, R.bind_ok]
    simp only
    rw [forL_consP trivial, sg, R.bind_ok, t2, R.bind_ok]
    simp only
    rw [forL_consP trivial, sg, R.bind_ok, t3, R.bind_ok]
    exact forL_nil
  refine ⟨M6, some (.ref M.length), some (.tup (L.map rwD)), some (.lst (K.folk.map bnD)), z5, z6, z7, z8, z9, z10, ?_⟩
  rw [z]
  push_cast [L_law_2, e1, e2, e3', mFor_eq, hlen, e4, lp]
theorem law_holds : ∀ ns : List Int, ns.length ≤ 63 → ∃ m, g_law [.fz (ns.map .int)] [] = .ok (.bl true) m := fun ns hns => by
  show ∃ m, g_law [.fz (intsD ns)] [] = .ok (.bl true) m
  obtain ⟨c, hc, hc2⟩ : ∃ c : Nat, c < 1000 ∧ max 1 (min 4 ns.length) = c := ⟨_, by omega, rfl⟩
  obtain ⟨env', m', e, y1, y2, y3, y4, y5, y6, y7, y8, y9, y10, rfl⟩ := forL_inv (g := gN 1) (body := L_law_2) (fun k env M => ∃ (y1 y2 y3 y4 y5 y6 y7 y8 y9 y10 : Option D), env = [some (.fz (intsD ns)), y1, y2, y3, y4, y5, y6, y7, y8, y9, y10]) (rngItems 0 c) 0 [some (.fz (intsD ns)), none, none, none, none, none, none, none, none, none, none] [] ⟨_, _, _, _, _, _, _, _, _, _, rfl⟩ (by
    rintro k d env M hk ⟨y1, y2, y3, y4, y5, y6, y7, y8, y9, y10, rfl⟩
    obtain ⟨rfl, hkm⟩ := rngItems_get hk
    obtain ⟨M', z2, z3, z4, z5, z6, z7, z8, z9, z10, e⟩ := cell_turn ns k (by omega) M y2 y3 y4 y5 y6 y7 y8 y9 y10
    exact ⟨_, _, e, _, _, _, _, _, _, _, _, _, _, rfl⟩)
  refine ⟨m', runB_rt (N := 11) (?_ : B_law [some (.fz (intsD ns)), none, none, none, none, none, none, none, none, none, none] [] = _)⟩
  have il : (intsD ns).length = ns.length := by simp [intsD]
  have hmn : ∀ M, oMin [.int 4, .int (ns.length : Int)] M = .ok (.int ((min 4 ns.length : Nat) : Int)) M := fun M => by
    rw [oMin_int]
    congr 2
    split <;> omega
  have hmx : ∀ M, oMax [.int 1, .int ((min 4 ns.length : Nat) : Int)] M = .ok (.int (c : Int)) M := fun M => by
    rw [oMax_int]
    congr 2
    rw [← hc2]
    split <;> omega
  have tc : (c : Int).toNat = c := by omega
  simp -implicitDefEqProofs (disch := first | assumption | omega | (simp only [List.length_cons, List.length_nil, List.length_append, List.length_map, List.length_take, List.length_drop, rngItems_len]; omega)) only [mSeq_eq, mIfS_eq, mSet_eq, mRet_eq, mRetN_eq, mExpr_eq, mPass_eq, mAsg_eq, mPar_eq, mAug_eq, bOf_eq, tOf_eq, tAndM_eq, tOrM_eq, tNotM_eq, tsYes_eq, mOp_eq, mUn_eq, mVar_eq, mC_eq, mCall_eq, mFun_eq, mFunKw_eq, mMeth_eq, mAnd_eq, mOr_eq, mNot_eq, mIf_eq, mChain_eq, mSl_eq, pNone_eq, pSome_eq, aCons_eq, aNil_eq, mTup_eq, mLst_eq, gN_eq, gT_eq, gsNil_eq, gsCons_eq, mkL_t, mkL_f, R.bind_ok, R.bind_no, R.nox_ok, List.getElem?_cons_zero, List.getElem?_cons_succ, List.set_cons_zero, List.set_cons_succ, List.length_cons, List.length_nil, List.append_nil, List.nil_append, List.cons_append, piApp_on, oLen_fz, oLen_lst, oLen_tup, oLt_int, oLe_int, oGt_int, oGe_int, oAdd_int, oSub_int, oIx_fz, oIx_lst, oIx_tup, oMax_int, oMin_int, oInt_bl, oInt_int, oIsi_bl, oNeg_int, oTuple_lst, oTuple_tup, iR1_eq, iR2_eq, iSq_eq, iStrM_eq, srcOf_tup, srcOf_lst, srcOf_fz, if_true, if_false, Bool.false_eq_true, Bool.true_eq_false, reduceIte, Nat.reduceAdd, Nat.reduceLeDiff, Nat.reduceEqDiff, Bool.not_true, Bool.not_false, decide_true, decide_false, and_self, and_true, true_and, oMod_int, oMul_r, oMul_l, oLen_str, oAdd_str, oSl_str, oSl_tup, oSl_lst, oSl_fz, rngOk_of, oEq_int, oEq_bl, beq_self_eq_true, Int.toNat_natCast, mFor_eq, mLc_eq, app_get0, app_get1, app_set0, app_set1, tyOk, oTuple_ref, oList_ref, oLen_refM, oIx_refM, oAppM, oExtM, srcOf_refM, ifLt24, ifLe24, B_law, il, hmn, hmx, tc, e]
end K21
set_option pp.deepTerms false
set_option pp.maxSteps 400
set_option Elab.async false
set_option linter.all false
set_option maxRecDepth 100000
set_option maxHeartbeats 4000000
namespace K21
open PySem PySem.Spec PyProof.Rows L2 Fn
/-- what the top has written -/
structure Tx (K : PySem.W.Frag) (mg : Str → Option Value) (cl : Nat → Addr) where
  a_Table___init__ : Addr
  d_Table___init__ : FuncData
  f_Table___init__ : Fun K "__init__" "Table.__init__" s_Table___init__ a_Table___init__ d_Table___init__
  b_Table___init__ : Binds K d_Table___init__ ["self"] []
  a_Table_free_place : Addr
  d_Table_free_place : FuncData
  f_Table_free_place : Fun K "free_place" "Table.free_place" s_Table_free_place a_Table_free_place d_Table_free_place
  me_Table_free_place : Meth K (cl 0) "free_place" a_Table_free_place
  b_Table_free_place : Binds K d_Table_free_place ["self"] []
  a_Table_leads : Addr
  d_Table_leads : FuncData
  f_Table_leads : Fun K "leads" "Table.leads" s_Table_leads a_Table_leads d_Table_leads
  me_Table_leads : Meth K (cl 0) "leads" a_Table_leads
  b_Table_leads : Binds K d_Table_leads ["self", "handle"] []
  a_Table_handles : Addr
  d_Table_handles : FuncData
  f_Table_handles : Fun K "handles" "Table.handles" s_Table_handles a_Table_handles d_Table_handles
  me_Table_handles : Meth K (cl 0) "handles" a_Table_handles
  b_Table_handles : Binds K d_Table_handles ["self"] []
  a_ever : Addr
  d_ever : FuncData
  f_ever : Fun K "ever" "ever" s_ever a_ever d_ever
  m_ever : mg "ever" = some (.ref a_ever)
  b_ever : Binds K d_ever ["rows", "being"] []
  a_law_cell : Addr
  d_law_cell : FuncData
  f_law_cell : Fun K "_law_cell" "_law_cell" s_law_cell a_law_cell d_law_cell
  m_law_cell : mg "_law_cell" = some (.ref a_law_cell)
  b_law_cell : Binds K d_law_cell ["_law_script", "_law_k"] []
  a_law_draw : Addr
  d_law_draw : FuncData
  f_law_draw : Fun K "_law_draw" "_law_draw" s_law_draw a_law_draw d_law_draw
  m_law_draw : mg "_law_draw" = some (.ref a_law_draw)
  b_law_draw : Binds K d_law_draw ["_law_flow_here", "_law_wide"] []
  a_law_forms : Addr
  d_law_forms : FuncData
  f_law_forms : Fun K "_law_forms" "_law_forms" s_law_forms a_law_forms d_law_forms
  m_law_forms : mg "_law_forms" = some (.ref a_law_forms)
  b_law_forms : Binds K d_law_forms [] []
  a_law_due : Addr
  d_law_due : FuncData
  f_law_due : Fun K "_law_due" "_law_due" s_law_due a_law_due d_law_due
  m_law_due : mg "_law_due" = some (.ref a_law_due)
  b_law_due : Binds K d_law_due ["_law_lines", "_law_being"] []
  a_Table_put : Addr
  d_Table_put : FuncData
  f_Table_put : Fun K "put" "Table.put" s_Table_put a_Table_put d_Table_put
  me_Table_put : Meth K (cl 0) "put" a_Table_put
  b_Table_put : Binds K d_Table_put ["self", "house", "number"] []
  a_Table_drop : Addr
  d_Table_drop : FuncData
  f_Table_drop : Fun K "drop" "Table.drop" s_Table_drop a_Table_drop d_Table_drop
  me_Table_drop : Meth K (cl 0) "drop" a_Table_drop
  b_Table_drop : Binds K d_Table_drop ["self", "handle"] []
  a_law_flow : Addr
  d_law_flow : FuncData
  f_law_flow : Fun K "_law_flow" "_law_flow" s_law_flow a_law_flow d_law_flow
  m_law_flow : mg "_law_flow" = some (.ref a_law_flow)
  b_law_flow : Binds K d_law_flow ["_law_script", "_law_k"] []
  a_law_names : Addr
  d_law_names : FuncData
  f_law_names : Fun K "_law_names" "_law_names" s_law_names a_law_names d_law_names
  m_law_names : mg "_law_names" = some (.ref a_law_names)
  b_law_names : Binds K d_law_names ["_law_flow_here", "_law_size"] []
  a_law_number : Addr
  d_law_number : FuncData
  f_law_number : Fun K "_law_number" "_law_number" s_law_number a_law_number d_law_number
  m_law_number : mg "_law_number" = some (.ref a_law_number)
  b_law_number : Binds K d_law_number ["_law_flow_here"] []
  a_law_mixed : Addr
  d_law_mixed : FuncData
  f_law_mixed : Fun K "_law_mixed" "_law_mixed" s_law_mixed a_law_mixed d_law_mixed
  m_law_mixed : mg "_law_mixed" = some (.ref a_law_mixed)
  b_law_mixed : Binds K d_law_mixed ["_law_flow_here", "_law_some"] []
  a_law_new_ask : Addr
  d_law_new_ask : FuncData
  f_law_new_ask : Fun K "_law_new_ask" "_law_new_ask" s_law_new_ask a_law_new_ask d_law_new_ask
  m_law_new_ask : mg "_law_new_ask" = some (.ref a_law_new_ask)
  b_law_new_ask : Binds K d_law_new_ask ["_law_flow_here", "_law_world_here"] []
  a_replayed : Addr
  d_replayed : FuncData
  f_replayed : Fun K "replayed" "replayed" s_replayed a_replayed d_replayed
  m_replayed : mg "replayed" = some (.ref a_replayed)
  b_replayed : Binds K d_replayed ["rows", "being"] []
  a_law_rights : Addr
  d_law_rights : FuncData
  f_law_rights : Fun K "_law_rights" "_law_rights" s_law_rights a_law_rights d_law_rights
  m_law_rights : mg "_law_rights" = some (.ref a_law_rights)
  b_law_rights : Binds K d_law_rights ["_law_flow_here", "_law_names_here"] []
  a_law_world : Addr
  d_law_world : FuncData
  f_law_world : Fun K "_law_world" "_law_world" s_law_world a_law_world d_law_world
  m_law_world : mg "_law_world" = some (.ref a_law_world)
  b_law_world : Binds K d_law_world ["_law_flow_here"] []
  a_table : Addr
  d_table : FuncData
  f_table : Fun K "table" "table" s_table a_table d_table
  m_table : mg "table" = some (.ref a_table)
  b_table : Binds K d_table ["rows", "being"] []
  a_law_put_row : Addr
  d_law_put_row : FuncData
  f_law_put_row : Fun K "_law_put_row" "_law_put_row" s_law_put_row a_law_put_row d_law_put_row
  m_law_put_row : mg "_law_put_row" = some (.ref a_law_put_row)
  b_law_put_row : Binds K d_law_put_row ["_law_flow_here", "_law_world_here", "_law_being", "_law_ask"] []
  a_law_grant_row : Addr
  d_law_grant_row : FuncData
  f_law_grant_row : Fun K "_law_grant_row" "_law_grant_row" s_law_grant_row a_law_grant_row d_law_grant_row
  m_law_grant_row : mg "_law_grant_row" = some (.ref a_law_grant_row)
  b_law_grant_row : Binds K d_law_grant_row ["_law_flow_here", "_law_world_here", "_law_ask"] []
  a_law_part : Addr
  d_law_part : FuncData
  f_law_part : Fun K "_law_part" "_law_part" s_law_part a_law_part d_law_part
  m_law_part : mg "_law_part" = some (.ref a_law_part)
  b_law_part : Binds K d_law_part ["_law_flow_here", "_law_names_here", "_law_form"] []
  a_law_deed_row : Addr
  d_law_deed_row : FuncData
  f_law_deed_row : Fun K "_law_deed_row" "_law_deed_row" s_law_deed_row a_law_deed_row d_law_deed_row
  m_law_deed_row : mg "_law_deed_row" = some (.ref a_law_deed_row)
  b_law_deed_row : Binds K d_law_deed_row ["_law_flow_here", "_law_world_here", "_law_by", "_law_ask"] []
  a_law_own_row : Addr
  d_law_own_row : FuncData
  f_law_own_row : Fun K "_law_own_row" "_law_own_row" s_law_own_row a_law_own_row d_law_own_row
  m_law_own_row : mg "_law_own_row" = some (.ref a_law_own_row)
  b_law_own_row : Binds K d_law_own_row ["_law_flow_here", "_law_world_here", "_law_form"] []
  a_law_said_row : Addr
  d_law_said_row : FuncData
  f_law_said_row : Fun K "_law_said_row" "_law_said_row" s_law_said_row a_law_said_row d_law_said_row
  m_law_said_row : mg "_law_said_row" = some (.ref a_law_said_row)
  b_law_said_row : Binds K d_law_said_row ["_law_flow_here", "_law_world_here", "_law_form"] []
  a_law_grown : Addr
  d_law_grown : FuncData
  f_law_grown : Fun K "_law_grown" "_law_grown" s_law_grown a_law_grown d_law_grown
  m_law_grown : mg "_law_grown" = some (.ref a_law_grown)
  b_law_grown : Binds K d_law_grown ["_law_flow_here", "_law_world_here", "_law_size"] []
  a_law_history : Addr
  d_law_history : FuncData
  f_law_history : Fun K "_law_history" "_law_history" s_law_history a_law_history d_law_history
  m_law_history : mg "_law_history" = some (.ref a_law_history)
  b_law_history : Binds K d_law_history ["_law_flow_here", "_law_size"] []
  a_law : Addr
  d_law : FuncData
  f_law : Fun K "law" "law" s_law a_law d_law
  m_law : mg "law" = some (.ref a_law)
  b_law : Binds K d_law ["_law_script"] []
  cls_Table : Cls K (cl 0)
  c_Table : mg "Table" = some (.ref (cl 0))
  mk_Table : Mk K (cl 0) a_Table___init__
  na_Table_used : NoAttr K (cl 0) "used"
  na_Table_there : NoAttr K (cl 0) "there"
  na_Table_known : NoAttr K (cl 0) "known"
  n_enumerate : mg "enumerate" = none
  n_isinstance : mg "isinstance" = none
  n_len : mg "len" = none
  n_list : mg "list" = none
  n_max : mg "max" = none
  n_min : mg "min" = none
  n_range : mg "range" = none
  n_repr : mg "repr" = none
  n_sorted : mg "sorted" = none
  n_tuple : mg "tuple" = none
section
variable {P : Program} {w : World} {K : PySem.W.Frag} {mg : Str → Option Value} {base : Heap} {cl : Nat → Addr}
theorem ok_Table___init__ (T : Tx K mg cl) : FnOk P w K mg base CX0 1 T.a_Table___init__ T.d_Table___init__ ["self"] (spOf ⟨K, cl, w⟩ 1 g_Table___init__) := by
  refine fn_def (B := B_Table___init__) T.f_Table___init__ sc_Table___init__ (fun cdv A outer s H E hr => ?_) (fun ds M _ => ref_run B_Table___init__ 1 ds M)
  have hu := huE hr
  have hu1 := hu1E hr
  exact (sb_cons (ss_fld (c0 := 0) T.cls_Table T.na_Table_used (sn_var (pv 0)) (sn_lst true sa_nil)) (sb_cons (ss_fld (c0 := 0) T.cls_Table T.na_Table_there (sn_var (pv 0)) sn_dnewK) (sb_one (ss_fld (c0 := 0) T.cls_Table T.na_Table_known (sn_var (pv 0)) sn_dnewT))))
theorem ok_Table_free_place (T : Tx K mg cl) : FnOk P w K mg base CX0 1 T.a_Table_free_place T.d_Table_free_place ["self"] (spOf ⟨K, cl, w⟩ 1 g_Table_free_place) := by
  refine fn_def (B := B_Table_free_place) T.f_Table_free_place sc_Table_free_place (fun cdv A outer s H E hr => ?_) (fun ds M _ => ref_run B_Table_free_place 2 ds M)
  have hu := huE hr
  have hu1 := hu1E hr
  exact (sb_cons (ss_set (i := 1) sn_int sc_Table_free_place.nd rfl (.inl rfl)) (sb_cons (ss_while PassesOwn.never (st_cmp (op_inA hu) op2_inA rfl (sn_var (pv 1)) (sn_fld (c0 := 0) T.cls_Table T.na_Table_there (sn_var (pv 0)))) (sb_one (ss_aug (i := 1) ip2_add sn_int ip_add sc_Table_free_place.nd rfl (.inl rfl)))) (sb_one (ss_ret (sn_var (pv 1))))))
theorem ok_Table_leads (T : Tx K mg cl) : FnOk P w K mg base CX0 1 T.a_Table_leads T.d_Table_leads ["self", "handle"] (spOf ⟨K, cl, w⟩ 2 g_Table_leads) := by
  refine fn_def (B := B_Table_leads) T.f_Table_leads sc_Table_leads (fun cdv A outer s H E hr => ?_) (fun ds M _ => ref_run B_Table_leads 4 ds M)
  have hu := huE hr
  have hu1 := hu1E hr
  exact (sb_cons (ss_asg (sl := [2, 3]) (sn_var (pv 1)) (sg_tup rfl (sgs_cons (sg_name (pg_name (i := 2) sc_Table_leads.nd rfl (.inl rfl)) (by decide)) (sgs_cons (sg_name (pg_name (i := 3) sc_Table_leads.nd rfl (.inl rfl)) (by decide)) sgs_nil)))) (sb_cons (ss_if (PW.pt (sw_or (st_cmp (op_notInA hu) op2_notInA rfl (sn_var (pv 2)) (sn_fld (c0 := 0) T.cls_Table T.na_Table_there (sn_var (pv 0)))) (sw_or1 (st_cmp (op_neP hu) op2_ne (nomark _) (sn_ixA hu (sn_ixA hu (sn_fld (c0 := 0) T.cls_Table T.na_Table_there (sn_var (pv 0))) (sn_var (pv 2))) sn_int) (sn_var (pv 3)))))) (sb_one (ss_ret sn_non)) sb_nil) (sb_one (ss_ret (sn_ixA hu (sn_ixA hu (sn_fld (c0 := 0) T.cls_Table T.na_Table_there (sn_var (pv 0))) (sn_var (pv 2))) sn_int)))))
theorem ok_Table_handles (T : Tx K mg cl) : FnOk P w K mg base CX0 1 T.a_Table_handles T.d_Table_handles ["self"] (spOf ⟨K, cl, w⟩ 1 g_Table_handles) := by
  refine fn_def (B := B_Table_handles) T.f_Table_handles sc_Table_handles (fun cdv A outer s H E hr => ?_) (fun ds M _ => ref_run B_Table_handles 4 ds M)
  have hu := huE hr
  have hu1 := hu1E hr
  exact (sb_one (ss_ret (sn_callB (cr_sortedD hu) (fn_sorted (c := false)) rfl T.n_sorted (by decide +kernel) (sa_cons (sn_lock (mFld 0 "there" (mVar 0)) (sn_lc false (own := [("place", 1), ("turn", 2), ("thing", 3)]) rfl sc_Table_handles.nd (si_itemsA (sn_fld (c0 := 0) T.cls_Table T.na_Table_there (sn_var (pv 0)))) (blkOk_by (N := ["self", "place", "turn", "thing"]) (sc := defScope s_Table_handles) (by decide +kernel)) (fun _ _ _ _ _ => (sg_tup rfl (sgs_cons (sg_name (pg_name (i := 1) sc_Table_handles.nd rfl (.inl rfl)) (by decide)) (sgs_cons (sg_tup rfl (sgs_cons (sg_name (pg_name (i := 2) sc_Table_handles.nd rfl (.inl rfl)) (by decide)) (sgs_cons (sg_name (pg_name (i := 3) sc_Table_handles.nd rfl (.inl rfl)) (by decide)) sgs_nil))) sgs_nil)))) (fun _ _ _ _ _ => sts_nil) (fun _ _ _ _ _ => (sn_tup (sa_cons (sn_var (pv 1)) (sa_cons (sn_var (pv 2)) sa_nil)))))) sa_nil))))
theorem ok_ever (T : Tx K mg cl) : FnOk P w K mg base CX0 1 T.a_ever T.d_ever ["rows", "being"] (spOf ⟨K, cl, w⟩ 2 g_ever) := by
  refine fn_def (B := B_ever) T.f_ever sc_ever (fun cdv A outer s H E hr => ?_) (fun ds M _ => ref_run B_ever 3 ds M)
  have hu := huE hr
  have hu1 := hu1E hr
  exact (sb_one (ss_ret (sn_lc true (own := [("row", 2)]) rfl sc_ever.nd (si_seq (sn_var (pv 0))) (blkOk_by (N := ["rows", "being", "row"]) (sc := defScope s_ever) (by decide +kernel)) (fun _ _ _ _ _ => (sg_name (pg_name (i := 2) sc_ever.nd rfl (.inl rfl)) (by decide))) (fun _ _ _ _ _ => (sts_one (PW.pt (sw_and (st_cmp (op_eqP hu) op2_eq (nomark _) (sn_ix (sn_var (pv 2)) sn_int) (sn_strL (by decide +kernel))) (sw_and1 (st_cmp (op_eqP hu) op2_eq (nomark _) (sn_ix (sn_var (pv 2)) sn_int) (sn_var (pv 1)))))))) (fun _ _ _ _ _ => (sn_tup (sa_cons (sn_ix (sn_var (pv 2)) sn_int) (sa_cons (sn_ix (sn_var (pv 2)) sn_int) sa_nil)))))))
theorem ok_law_cell (T : Tx K mg cl) : FnOk P w K mg base CX0 1 T.a_law_cell T.d_law_cell ["_law_script", "_law_k"] (spOf ⟨K, cl, w⟩ 2 g_law_cell) := by
  refine fn_def (B := B_law_cell) T.f_law_cell sc_law_cell (fun cdv A outer s H E hr => ?_) (fun ds M _ => ref_run B_law_cell 3 ds M)
  have hu := huE hr
  have hu1 := hu1E hr
  exact (sb_cons (ss_if (st_cmp (op_lt.or op_lt_str) op2_ord (nomark _) (sn_var (pv 1)) (sn_callB call_lenA fn_len rfl T.n_len PySem.boot_len (sa_cons (sn_var (pv 0)) sa_nil))) (sb_one (ss_ret (sn_ix (sn_var (pv 0)) (sn_var (pv 1))))) sb_nil) (sb_cons (ss_set (i := 2) (sn_add false (sn_mul false (sn_var (pv 1)) sn_int) sn_int) sc_law_cell.nd rfl (.inl rfl)) (sb_cons (ss_if (st_cmp (op_gt.or op_gt_str) op2_ord (nomark _) (sn_callB call_lenA fn_len rfl T.n_len PySem.boot_len (sa_cons (sn_var (pv 0)) sa_nil)) sn_int) (sb_one (ss_set (i := 2) (sn_add false (sn_mul false (sn_mod (sn_ix (sn_var (pv 0)) (sn_mod (sn_mul false (sn_var (pv 1)) sn_int) (sn_callB call_lenA fn_len rfl T.n_len PySem.boot_len (sa_cons (sn_var (pv 0)) sa_nil)))) sn_int) sn_int) (sn_mul false (sn_var (pv 1)) sn_int)) sc_law_cell.nd rfl (.inl rfl))) sb_nil) (sb_one (ss_ret (sn_mul false (sn_mod (sn_var (pv 2)) sn_int) sn_int))))))
theorem ok_law_draw (T : Tx K mg cl) : FnOk P w K mg base CX0 1 T.a_law_draw T.d_law_draw ["_law_flow_here", "_law_wide"] (spOf ⟨K, cl, w⟩ 2 g_law_draw) := by
  refine fn_def (B := B_law_draw) T.f_law_draw sc_law_draw (fun cdv A outer s H E hr => ?_) (fun ds M _ => ref_run B_law_draw 4 ds M)
  have hu := huE hr
  have hu1 := hu1E hr
  exact (sb_cons (ss_if (st_cmp (op_gt.or op_gt_str) op2_ord (nomark _) (sn_ix (sn_var (pv 0)) sn_int) sn_int) (sb_cons (ss_set (i := 2) (sn_mod (sn_ix (sn_var (pv 0)) sn_int) (sn_var (pv 1))) sc_law_draw.nd rfl (.inl rfl)) (sb_cons (ss_asg (sl := []) (sn_div (sn_ix (sn_var (pv 0)) sn_int) (sn_var (pv 1))) (sg_ix (sn_var (pv 0)) sn_int)) (sb_one (ss_ret (sn_var (pv 2)))))) sb_nil) (sb_cons (ss_asg (sl := []) (sn_add false (sn_ix (sn_var (pv 0)) sn_int) sn_int) (sg_ix (sn_var (pv 0)) sn_int)) (sb_cons (ss_set (i := 3) (sn_mod (sn_add false (sn_add false (sn_mul false (sn_ix (sn_var (pv 0)) sn_int) (sn_add false sn_int (sn_mul false sn_int (sn_ix (sn_var (pv 0)) sn_int)))) (sn_mul false sn_int (sn_ix (sn_var (pv 0)) sn_int))) sn_int) sn_int) sc_law_draw.nd rfl (.inl rfl)) (sb_cons (ss_set (i := 3) (sn_mod (sn_mul false (sn_var (pv 3)) (sn_var (pv 3))) sn_int) sc_law_draw.nd rfl (.inl rfl)) (sb_one (ss_ret (sn_mod (sn_div (sn_mod (sn_mul false (sn_add false (sn_var (pv 3)) sn_int) (sn_add false (sn_var (pv 3)) sn_int)) sn_int) sn_int) (sn_var (pv 1)))))))))
theorem ok_law_forms (T : Tx K mg cl) : FnOk P w K mg base CX0 1 T.a_law_forms T.d_law_forms [] (spOf ⟨K, cl, w⟩ 0 g_law_forms) := by
  refine fn_def (B := B_law_forms) T.f_law_forms sc_law_forms (fun cdv A outer s H E hr => ?_) (fun ds M _ => ref_run B_law_forms 3 ds M)
  have hu := huE hr
  have hu1 := hu1E hr
  exact (sb_cons (ss_set (i := 0) (sn_disp (fs := [((mC (.str [114, 111, 111, 116])), (mC (.str [99, 111, 117, 110, 116, 32, 99, 111, 117, 110, 116, 32, 112, 108, 97, 99, 101, 32, 114, 105, 103, 104, 116, 115, 32, 99, 111, 117, 110, 116, 32, 112, 108, 97, 99, 101, 32, 99, 111, 117, 110, 116, 63]))), ((mC (.str [99, 117, 116])), (mC (.str [99, 111, 117, 110, 116, 32, 99, 111, 117, 110, 116]))), ((mC (.str [100, 114, 111, 112])), (mC (.str [99, 111, 117, 110, 116, 32, 112, 108, 97, 99, 101, 32, 99, 111, 117, 110, 116])))]) (pps_cons (sn_strL (by decide +kernel)) (sn_strL (by decide +kernel)) (pps_cons (sn_strL (by decide +kernel)) (sn_strL (by decide +kernel)) (pps_cons (sn_strL (by decide +kernel)) (sn_strL (by decide +kernel)) pps_nil)))) sc_law_forms.nd rfl (.inl rfl)) (sb_cons (ss_asg (sl := []) (sn_add false (sn_ixA hu (sn_var (pv 0)) (sn_strL (by decide +kernel))) (sn_strL (by decide +kernel))) (sg_ixA hu (sn_var (pv 0)) (sn_strL (by decide +kernel)))) (sb_cons (ss_asg (sl := []) (sn_strL (by decide +kernel)) (sg_ixA hu (sn_var (pv 0)) (sn_strL (by decide +kernel)))) (sb_cons (ss_asg (sl := [0, 0, 0]) (sn_tup (sa_cons (sn_strL (by decide +kernel)) (sa_cons (sn_strL (by decide +kernel)) (sa_cons (sn_strL (by decide +kernel)) sa_nil)))) (sg_tup rfl (sgs_cons (sg_ixA hu (sn_var (pv 0)) (sn_strL (by decide +kernel))) (sgs_cons (sg_ixA hu (sn_var (pv 0)) (sn_strL (by decide +kernel))) (sgs_cons (sg_ixA hu (sn_var (pv 0)) (sn_strL (by decide +kernel))) sgs_nil))))) (sb_cons (ss_asg (sl := []) (sn_strL (by decide +kernel)) (sg_ixA hu (sn_var (pv 0)) (sn_strL (by decide +kernel)))) (sb_cons (ss_asg (sl := []) (sn_strL (by decide +kernel)) (sg_ixA hu (sn_var (pv 0)) (sn_strL (by decide +kernel)))) (sb_cons (ss_set (i := 1) (sn_disp (fs := [((mC (.str [104, 97, 110, 100])), (mC (.str [112, 108, 97, 99, 101, 32, 110, 97, 109, 101, 32, 99, 111, 117, 110, 116, 32, 114, 105, 103, 104, 116, 115, 32, 99, 111, 117, 110, 116, 32, 99, 111, 117, 110, 116, 32, 112, 108, 97, 99, 101]))), ((mC (.str [99, 117, 116])), (mC (.str [112, 108, 97, 99, 101, 32, 110, 97, 109, 101, 32, 99, 111, 117, 110, 116, 32, 99, 111, 117, 110, 116])))]) (pps_cons (sn_strL (by decide +kernel)) (sn_strL (by decide +kernel)) (pps_cons (sn_strL (by decide +kernel)) (sn_strL (by decide +kernel)) pps_nil))) sc_law_forms.nd rfl (.inl rfl)) (sb_cons (ss_asg (sl := []) (sn_strL (by decide +kernel)) (sg_ixA hu (sn_var (pv 1)) (sn_strL (by decide +kernel)))) (sb_cons (ss_set (i := 2) (sn_disp (fs := [((mC (.str [116, 97, 107, 101, 110])), (mC (.str [110, 97, 109, 101, 32, 99, 111, 117, 110, 116]))), ((mC (.str [103, 111, 110, 101])), (mC (.str []))), ((mC (.str [100, 111, 110, 101])), (mC (.str []))), ((mC (.str [102, 111, 117, 110, 100])), (mC (.str [110, 97, 109, 101, 32, 99, 111, 117, 110, 116]))), ((mC (.str [110, 111])), (mC (.str [110, 97, 109, 101])))]) (pps_cons (sn_strL (by decide +kernel)) (sn_strL (by decide +kernel)) (pps_cons (sn_strL (by decide +kernel)) (sn_strL (by decide +kernel)) (pps_cons (sn_strL (by decide +kernel)) (sn_strL (by decide +kernel)) (pps_cons (sn_strL (by decide +kernel)) (sn_strL (by decide +kernel)) (pps_cons (sn_strL (by decide +kernel)) (sn_strL (by decide +kernel)) pps_nil)))))) sc_law_forms.nd rfl (.inl rfl)) (sb_one (ss_ret (sn_disp (fs := [((mC (.str [114, 111, 119])), (mVar 0)), ((mC (.str [119, 104, 97, 116])), (mVar 1)), ((mC (.str [97, 110, 115, 119, 101, 114])), (mVar 2))]) (pps_cons (sn_strL (by decide +kernel)) (sn_var (pv 0)) (pps_cons (sn_strL (by decide +kernel)) (sn_var (pv 1)) (pps_cons (sn_strL (by decide +kernel)) (sn_var (pv 2)) pps_nil)))))))))))))))
theorem ok_law_due (T : Tx K mg cl) : FnOk P w K mg base CX0 1 T.a_law_due T.d_law_due ["_law_lines", "_law_being"] (spOf ⟨K, cl, w⟩ 2 g_law_due) := by
  refine fn_def (B := B_law_due) T.f_law_due sc_law_due (fun cdv A outer s H E hr => ?_) (fun ds M _ => ref_gc B_law_due 8 ds M)
  have hu := huE hr
  have hu1 := hu1E hr
  exact (sb_cons (ss_asg (sl := [2, 3, 4]) (sn_tup (sa_cons sn_dnewK (sa_cons sn_dnewK (sa_cons (sn_lst true sa_nil) sa_nil)))) (sg_tup rfl (sgs_cons (sg_name (pg_name (i := 2) sc_law_due.nd rfl (.inr rfl)) (by decide)) (sgs_cons (sg_name (pg_name (i := 3) sc_law_due.nd rfl (.inl rfl)) (by decide)) (sgs_cons (sg_name (pg_name (i := 4) sc_law_due.nd rfl (.inl rfl)) (by decide)) sgs_nil))))) (sb_cons (ss_for (sl := [5]) PassesOwn.never rfl (si_seq (sn_var (pv 0))) (sg_name (pg_name (i := 5) sc_law_due.nd rfl (.inl rfl)) (by decide)) (sb_cons (ss_if (PW.pt (sw_and (st_cmp (op_eqP hu) op2_eq (nomark _) (sn_ixA hu (sn_var (pv 5)) sn_int) (sn_strL (by decide +kernel))) (sw_and1 (st_cmp (op_eqP hu) op2_eq (nomark _) (sn_ixA hu (sn_var (pv 5)) sn_int) (sn_var (pv 1)))))) (sb_cons (ss_set (i := 6) (sn_callB (cr_min rfl) fn_minL rfl T.n_min (by decide +kernel) (sa_cons (sn_lc false (own := [("_law_k", 7)]) rfl sc_law_due.nd (si_range1 rfl T.n_range (sa_cons (sn_add false (sn_callB call_lenAA fn_lenA rfl T.n_len PySem.boot_len (sa_cons (sn_var (pv 2)) sa_nil)) sn_int) sa_nil)) (blkOk_by (N := ["_law_lines", "_law_being", "_law_there", "_law_used", "_law_came", "_law_row", "_law_place", "_law_k"]) (sc := defScope s_law_due) (by decide +kernel)) (fun _ _ _ _ _ => (sg_name (pg_name (i := 7) sc_law_due.nd rfl (.inl rfl)) (by decide))) (fun _ _ _ _ _ => (sts_one (st_cmp (op_notInA hu) op2_notInA rfl (sn_var (pv 7)) (sn_var (pv 2))))) (fun _ _ _ _ _ => (sn_var (pv 7)))) sa_nil)) sc_law_due.nd rfl (.inl rfl)) (sb_cons (ss_asg (sl := []) (sn_add false (sn_tup (sa_cons (sn_tup (sa_cons (sn_var (pv 6)) (sa_cons (sn_meth PySem.F.plainAttrs_dict PySem.F.slot_dict_get PySem.F.type_dict_get (mt_dget hu) mt1_dget (sn_var (pv 3)) (sa_cons (sn_var (pv 6)) (sa_cons sn_int sa_nil))) sa_nil))) sa_nil)) (sn_sl false (sn_var (pv 5)) (sp_some sn_int) (sp_some sn_int))) (sg_ixA hu (sn_var (pv 2)) (sn_var (pv 6)))) (sb_cons (ss_asg (sl := []) (sn_add false (sn_meth PySem.F.plainAttrs_dict PySem.F.slot_dict_get PySem.F.type_dict_get (mt_dget hu) mt1_dget (sn_var (pv 3)) (sa_cons (sn_var (pv 6)) (sa_cons sn_int sa_nil))) sn_int) (sg_ixA hu (sn_var (pv 3)) (sn_var (pv 6)))) (sb_one (ss_expr (sn_meth PySem.F.plainAttrs_list PySem.F.slot_list_append PySem.F.type_list_append mt_append mt1_append (sn_var (pv 4)) (sa_cons (sn_sl false (sn_var (pv 5)) (sp_some sn_int) (sp_some sn_int)) sa_nil))))))) sb_nil) (sb_one (ss_if (PW.pt (sw_and (st_cmp (op_eqP hu) op2_eq (nomark _) (sn_ixA hu (sn_var (pv 5)) sn_int) (sn_strL (by decide +kernel))) (sw_and1 (st_cmp (op_eqP hu) op2_eq (nomark _) (sn_ixA hu (sn_var (pv 5)) sn_int) (sn_var (pv 1)))))) (sb_one (ss_expr (sn_meth PySem.F.plainAttrs_dict PySem.F.slot_dict_pop PySem.F.type_dict_pop (mt_popE hu) mt1_popE (sn_var (pv 2)) (sa_cons (sn_ixA hu (sn_var (pv 5)) sn_int) sa_nil)))) sb_nil)))) (sb_one (ss_ret (sn_tup (sa_cons (sn_lc false (own := [("_law_place", 6)]) rfl sc_law_due.nd (si_seq (sn_callB (cr_sortS rfl hu) (fn_sortS (c := false)) rfl T.n_sorted (by decide +kernel) (sa_cons (sn_var (pv 2)) sa_nil))) (blkOk_by (N := ["_law_lines", "_law_being", "_law_there", "_law_used", "_law_came", "_law_row", "_law_place", "_law_k"]) (sc := defScope s_law_due) (by decide +kernel)) (fun _ _ _ _ _ => (sg_name (pg_name (i := 6) sc_law_due.nd rfl (.inl rfl)) (by decide))) (fun _ _ _ _ _ => sts_nil) (fun _ _ _ _ _ => (sn_ixA hu (sn_var (pv 2)) (sn_var (pv 6))))) (sa_cons (sn_var (pv 4)) sa_nil)))))))
theorem ok_Table_put (T : Tx K mg cl) : FnOk P w K mg base CX0 2 T.a_Table_put T.d_Table_put ["self", "house", "number"] (spOf ⟨K, cl, w⟩ 3 g_Table_put) := by
  refine fn_def (B := B_Table_put) T.f_Table_put sc_Table_put (fun cdv A outer s H E hr => ?_) (fun ds M _ => ref_run B_Table_put 6 ds M)
  have hu := huE hr
  have hu1 := hu1E hr
  exact (sb_cons (ss_set (i := 3) (sn_tup (sa_cons (sn_var (pv 1)) (sa_cons (sn_var (pv 2)) sa_nil))) sc_Table_put.nd rfl (.inl rfl)) (sb_cons (ss_if (st_cmp (op_inA hu) op2_inA rfl (sn_var (pv 3)) (sn_fld (c0 := 0) T.cls_Table T.na_Table_known (sn_var (pv 0)))) (sb_one (ss_ret sn_non)) sb_nil) (sb_cons (ss_asg (sl := []) sn_bl (sg_ixA hu (sn_fld (c0 := 0) T.cls_Table T.na_Table_known (sn_var (pv 0))) (sn_var (pv 3)))) (sb_cons (ss_set (i := 4) (sn_mth0 (c0 := 0) (sn_var (pv 0)) T.cls_Table T.me_Table_free_place (ok_Table_free_place T) (hr.mono (by decide)) T.b_Table_free_place .nil closedK_nil passA) sc_Table_put.nd rfl (.inl rfl)) (sb_cons (ss_if (st_cmp (op_eqP hu) op2_eq (nomark _) (sn_var (pv 4)) (sn_callB call_lenAA fn_lenA rfl T.n_len PySem.boot_len (sa_cons (sn_fld (c0 := 0) T.cls_Table T.na_Table_used (sn_var (pv 0))) sa_nil))) (sb_one (ss_expr (sn_meth PySem.F.plainAttrs_list PySem.F.slot_list_append PySem.F.type_list_append mt_append mt1_append (sn_fld (c0 := 0) T.cls_Table T.na_Table_used (sn_var (pv 0))) (sa_cons sn_int sa_nil)))) sb_nil) (sb_cons (ss_set (i := 5) (sn_ixA hu (sn_fld (c0 := 0) T.cls_Table T.na_Table_used (sn_var (pv 0))) (sn_var (pv 4))) sc_Table_put.nd rfl (.inl rfl)) (sb_cons (ss_augIx ip2_add ip_add hu (sn_fld (c0 := 0) T.cls_Table T.na_Table_used (sn_var (pv 0))) (sn_var (pv 4)) sn_int) (sb_cons (ss_asg (sl := []) (sn_tup (sa_cons (sn_var (pv 5)) (sa_cons (sn_var (pv 3)) sa_nil))) (sg_ixA hu (sn_fld (c0 := 0) T.cls_Table T.na_Table_there (sn_var (pv 0))) (sn_var (pv 4)))) (sb_one (ss_ret (sn_tup (sa_cons (sn_var (pv 4)) (sa_cons (sn_var (pv 5)) sa_nil)))))))))))))
theorem ok_Table_drop (T : Tx K mg cl) : FnOk P w K mg base CX0 2 T.a_Table_drop T.d_Table_drop ["self", "handle"] (spOf ⟨K, cl, w⟩ 2 g_Table_drop) := by
  refine fn_def (B := B_Table_drop) T.f_Table_drop sc_Table_drop (fun cdv A outer s H E hr => ?_) (fun ds M _ => ref_run B_Table_drop 2 ds M)
  have hu := huE hr
  have hu1 := hu1E hr
  exact (sb_cons (ss_if (st_isN (sn_mth (c0 := 0) (sn_var (pv 0)) T.cls_Table T.me_Table_leads (ok_Table_leads T) (hr.mono (by decide)) T.b_Table_leads .nil closedK_nil passA (sa_cons (sn_var (pv 1)) sa_nil))) (sb_one (ss_ret sn_bl)) sb_nil) (sb_cons (ss_expr (sn_meth PySem.F.plainAttrs_dict PySem.F.slot_dict_pop PySem.F.type_dict_pop (mt_popE hu) mt1_popE (sn_fld (c0 := 0) T.cls_Table T.na_Table_there (sn_var (pv 0))) (sa_cons (sn_ixA hu (sn_var (pv 1)) sn_int) sa_nil))) (sb_one (ss_ret sn_bl))))
theorem ok_law_flow (T : Tx K mg cl) : FnOk P w K mg base CX0 2 T.a_law_flow T.d_law_flow ["_law_script", "_law_k"] (spOf ⟨K, cl, w⟩ 2 g_law_flow) := by
  refine fn_def (B := B_law_flow) T.f_law_flow sc_law_flow (fun cdv A outer s H E hr => ?_) (fun ds M _ => ref_run B_law_flow 4 ds M)
  have hu := huE hr
  have hu1 := hu1E hr
  exact (sb_cons (ss_set (i := 2) (sn_call (ok_law_cell T) (hr.mono (by decide)) rfl T.m_law_cell T.f_law_cell.kp T.b_law_cell .nil closed_nil passA (sa_cons (sn_var (pv 0)) (sa_cons (sn_var (pv 1)) sa_nil))) sc_law_flow.nd rfl (.inl rfl)) (sb_cons (ss_set (i := 3) sn_int sc_law_flow.nd rfl (.inl rfl)) (sb_cons (ss_if (st_cmp (op_ge.or op_ge_str) op2_ord (nomark _) (sn_var (pv 2)) (sn_pow sn_int sn_int)) (sb_one (ss_set (i := 3) (sn_var (pv 2)) sc_law_flow.nd rfl (.inl rfl))) sb_nil) (sb_one (ss_ret (sn_lst true (sa_cons (sn_var (pv 3)) (sa_cons sn_int (sa_cons (sn_add false (sn_mod (sn_var (pv 2)) sn_int) (sn_mul false sn_int (sn_var (pv 1)))) sa_nil)))))))))
theorem ok_law_names (T : Tx K mg cl) : FnOk P w K mg base CX0 2 T.a_law_names T.d_law_names ["_law_flow_here", "_law_size"] (spOf ⟨K, cl, w⟩ 2 g_law_names) := by
  refine fn_def (B := B_law_names) T.f_law_names sc_law_names (fun cdv A outer s H E hr => ?_) (fun ds M _ => ref_gc B_law_names 10 ds M)
  have hu := huE hr
  have hu1 := hu1E hr
  exact (sb_cons (ss_set (i := 2) (sn_strL (by decide +kernel)) sc_law_names.nd rfl (.inr rfl)) (sb_cons (ss_set (i := 3) (sn_meth PySem.F.plainAttrs_str PySem.F.slot_str_join PySem.F.type_str_join mt_join mt1_join (sn_strL (by decide +kernel)) (sa_cons (sn_lc false (own := [("_law_k", 4)]) rfl sc_law_names.nd (si_range1 rfl T.n_range (sa_cons (sn_call (ok_law_draw T) (hr.mono (by decide)) rfl T.m_law_draw T.f_law_draw.kp T.b_law_draw .nil closed_nil passA (sa_cons (sn_var (pv 0)) (sa_cons sn_int sa_nil))) sa_nil)) (blkOk_by (N := ["_law_flow_here", "_law_size", "_law_letters", "_law_stem", "_law_k", "_law_at", "_law_first", "_law_longer", "_law_found", "_law_name"]) (sc := defScope s_law_names) (by decide +kernel)) (fun _ _ _ _ _ => (sg_name (pg_name (i := 4) sc_law_names.nd rfl (.inl rfl)) (by decide))) (fun _ _ _ _ _ => sts_nil) (fun _ _ _ _ _ => (sn_ix (sn_var (pv 2)) (sn_call (ok_law_draw T) (hr.mono (by decide)) rfl T.m_law_draw T.f_law_draw.kp T.b_law_draw .nil closed_nil passA (sa_cons (sn_var (pv 0)) (sa_cons sn_int sa_nil)))))) sa_nil)) sc_law_names.nd rfl (.inl rfl)) (sb_cons (ss_par3 (i := 5) (j := 6) (l := 7) rfl sc_law_names.nd rfl rfl rfl (by decide) (by decide) (by decide) rfl rfl rfl (sa_cons (sn_call (ok_law_draw T) (hr.mono (by decide)) rfl T.m_law_draw T.f_law_draw.kp T.b_law_draw .nil closed_nil passA (sa_cons (sn_var (pv 0)) (sa_cons (sn_add false (sn_callB call_lenA fn_len rfl T.n_len PySem.boot_len (sa_cons (sn_var (pv 3)) sa_nil)) sn_int) sa_nil))) (sa_cons (sn_call (ok_law_draw T) (hr.mono (by decide)) rfl T.m_law_draw T.f_law_draw.kp T.b_law_draw .nil closed_nil passA (sa_cons (sn_var (pv 0)) (sa_cons sn_int sa_nil))) (sa_cons (sn_call (ok_law_draw T) (hr.mono (by decide)) rfl T.m_law_draw T.f_law_draw.kp T.b_law_draw .nil closed_nil passA (sa_cons (sn_var (pv 0)) (sa_cons sn_int sa_nil))) sa_nil))) (by rfl)) (sb_cons (ss_set (i := 8) (sn_lst true sa_nil) sc_law_names.nd rfl (.inl rfl)) (sb_cons (ss_for (sl := [4]) PassesOwn.never rfl (si_range1 rfl T.n_range (sa_cons (sn_var (pv 1)) sa_nil)) (sg_name (pg_name (i := 4) sc_law_names.nd rfl (.inl rfl)) (by decide)) (sb_cons (ss_set (i := 9) (sn_add false (sn_add false (sn_sl false (sn_var (pv 3)) sp_none (sp_some (sn_var (pv 5)))) (sn_ix (sn_var (pv 2)) (sn_mod (sn_add false (sn_var (pv 6)) (sn_mul false sn_int (sn_var (pv 4)))) sn_int))) (sn_sl false (sn_var (pv 3)) (sp_some (sn_var (pv 5))) sp_none)) sc_law_names.nd rfl (.inl rfl)) (sb_cons (ss_if (st_cmp (op_gt.or op_gt_str) op2_ord (nomark _) (sn_mul false (sn_var (pv 7)) (sn_mod (sn_var (pv 4)) sn_int)) sn_int) (sb_one (ss_set (i := 9) (sn_add false (sn_ix (sn_var (pv 8)) (sn_neg sn_int)) (sn_ix (sn_var (pv 2)) (sn_mod (sn_add false (sn_var (pv 6)) (sn_mul false sn_int (sn_var (pv 4)))) sn_int))) sc_law_names.nd rfl (.inl rfl))) sb_nil) (sb_one (ss_expr (sn_meth PySem.F.plainAttrs_list PySem.F.slot_list_append PySem.F.type_list_append mt_append mt1_append (sn_var (pv 8)) (sa_cons (sn_var (pv 9)) sa_nil))))))) (sb_one (ss_ret (sn_var (pv 8)))))))))
theorem ok_law_number (T : Tx K mg cl) : FnOk P w K mg base CX0 2 T.a_law_number T.d_law_number ["_law_flow_here"] (spOf ⟨K, cl, w⟩ 1 g_law_number) := by
  refine fn_def (B := B_law_number) T.f_law_number sc_law_number (fun cdv A outer s H E hr => ?_) (fun ds M _ => ref_run B_law_number 2 ds M)
  have hu := huE hr
  have hu1 := hu1E hr
  exact (sb_cons (ss_set (i := 1) (sn_call (ok_law_draw T) (hr.mono (by decide)) rfl T.m_law_draw T.f_law_draw.kp T.b_law_draw .nil closed_nil passA (sa_cons (sn_var (pv 0)) (sa_cons sn_int sa_nil))) sc_law_number.nd rfl (.inl rfl)) (sb_cons (ss_if (st_cmp (op_lt.or op_lt_str) op2_ord (nomark _) (sn_var (pv 1)) sn_int) (sb_one (ss_ret (sn_call (ok_law_draw T) (hr.mono (by decide)) rfl T.m_law_draw T.f_law_draw.kp T.b_law_draw .nil closed_nil passA (sa_cons (sn_var (pv 0)) (sa_cons (sn_ix (sn_lst false (sa_cons sn_int (sa_cons sn_int (sa_cons sn_int (sa_cons sn_int (sa_cons sn_int (sa_cons sn_int sa_nil))))))) (sn_var (pv 1))) sa_nil))))) sb_nil) (sb_one (ss_ret (sn_ix (sn_lst false (sa_cons (sn_call (ok_law_draw T) (hr.mono (by decide)) rfl T.m_law_draw T.f_law_draw.kp T.b_law_draw .nil closed_nil passA (sa_cons (sn_var (pv 0)) (sa_cons (sn_pow sn_int sn_int) sa_nil))) (sa_cons (sn_sub (sn_sub (sn_pow sn_int sn_int) sn_int) (sn_call (ok_law_draw T) (hr.mono (by decide)) rfl T.m_law_draw T.f_law_draw.kp T.b_law_draw .nil closed_nil passA (sa_cons (sn_var (pv 0)) (sa_cons sn_int sa_nil)))) sa_nil))) (sn_sub (sn_var (pv 1)) sn_int))))))
theorem ok_law_mixed (T : Tx K mg cl) : FnOk P w K mg base CX0 2 T.a_law_mixed T.d_law_mixed ["_law_flow_here", "_law_some"] (spOf ⟨K, cl, w⟩ 2 g_law_mixed) := by
  refine fn_def (B := B_law_mixed) T.f_law_mixed sc_law_mixed (fun cdv A outer s H E hr => ?_) (fun ds M _ => ref_gc B_law_mixed 4 ds M)
  have hu := huE hr
  have hu1 := hu1E hr
  exact (sb_cons (ss_par (i := 2) (j := 3) rfl sc_law_mixed.nd rfl rfl (by decide) rfl rfl (sa_cons (sn_callTy call_list_of (fn_list (c := true)) rfl T.n_list (by decide +kernel) (sa_cons (sn_var (pv 1)) sa_nil)) (sa_cons (sn_lst true sa_nil) sa_nil)) (by rfl)) (sb_cons (ss_while PassesOwn.never (st_cmp (op_neP hu) op2_ne (nomark _) (sn_var (pv 2)) (sn_lst false sa_nil)) (sb_one (ss_expr (sn_meth PySem.F.plainAttrs_list PySem.F.slot_list_append PySem.F.type_list_append mt_append mt1_append (sn_var (pv 3)) (sa_cons (sn_meth PySem.F.plainAttrs_list PySem.F.slot_list_pop PySem.F.type_list_pop mt_popAt mt1_popAt (sn_var (pv 2)) (sa_cons (sn_call (ok_law_draw T) (hr.mono (by decide)) rfl T.m_law_draw T.f_law_draw.kp T.b_law_draw .nil closed_nil passA (sa_cons (sn_var (pv 0)) (sa_cons (sn_callB call_lenA fn_len rfl T.n_len PySem.boot_len (sa_cons (sn_var (pv 2)) sa_nil)) sa_nil))) sa_nil)) sa_nil))))) (sb_one (ss_ret (sn_var (pv 3))))))
theorem ok_law_new_ask (T : Tx K mg cl) : FnOk P w K mg base CX0 2 T.a_law_new_ask T.d_law_new_ask ["_law_flow_here", "_law_world_here"] (spOf ⟨K, cl, w⟩ 2 g_law_new_ask) := by
  refine fn_def (B := B_law_new_ask) T.f_law_new_ask sc_law_new_ask (fun cdv A outer s H E hr => ?_) (fun ds M _ => ref_run B_law_new_ask 3 ds M)
  have hu := huE hr
  have hu1 := hu1E hr
  exact (sb_cons (ss_set (i := 2) (sn_tup (sa_cons (sn_ixA hu (sn_ixA hu (sn_var (pv 1)) (sn_strL (by decide +kernel))) (sn_call (ok_law_draw T) (hr.mono (by decide)) rfl T.m_law_draw T.f_law_draw.kp T.b_law_draw .nil closed_nil passA (sa_cons (sn_var (pv 0)) (sa_cons sn_int sa_nil)))) (sa_cons (sn_call (ok_law_draw T) (hr.mono (by decide)) rfl T.m_law_draw T.f_law_draw.kp T.b_law_draw .nil closed_nil passA (sa_cons (sn_var (pv 0)) (sa_cons sn_int sa_nil))) sa_nil))) sc_law_new_ask.nd rfl (.inl rfl)) (sb_cons (ss_while PassesOwn.never (st_cmp (op_inA hu) op2_inA rfl (sn_var (pv 2)) (sn_ixA hu (sn_var (pv 1)) (sn_strL (by decide +kernel)))) (sb_one (ss_set (i := 2) (sn_tup (sa_cons (sn_ixA hu (sn_var (pv 2)) sn_int) (sa_cons (sn_add false (sn_ixA hu (sn_var (pv 2)) sn_int) sn_int) sa_nil))) sc_law_new_ask.nd rfl (.inl rfl)))) (sb_cons (ss_expr (sn_meth PySem.F.plainAttrs_list PySem.F.slot_list_append PySem.F.type_list_append mt_append mt1_append (sn_ixA hu (sn_var (pv 1)) (sn_strL (by decide +kernel))) (sa_cons (sn_var (pv 2)) sa_nil))) (sb_one (ss_ret (sn_var (pv 2)))))))
theorem ok_replayed (T : Tx K mg cl) : FnOk P w K mg base CX0 3 T.a_replayed T.d_replayed ["rows", "being"] (spOf ⟨K, cl, w⟩ 2 g_replayed) := by
  refine fn_def (B := B_replayed) T.f_replayed sc_replayed (fun cdv A outer s H E hr => ?_) (fun ds M _ => ref_run B_replayed 8 ds M)
  have hu := huE hr
  have hu1 := hu1E hr
  exact (sb_cons (ss_par (i := 2) (j := 3) rfl sc_replayed.nd rfl rfl (by decide) rfl rfl (sa_cons (sn_make0 (c0 := 0) T.mk_Table (ok_Table___init__ T) (hr.mono (by decide)) rfl T.c_Table T.b_Table___init__ .nil closedK_nil passA) (sa_cons sn_dnewT sa_nil)) (by rfl)) (sb_cons (ss_for (sl := [4, 5, 6]) PassesOwn.never rfl (si_seq (sn_var (pv 0))) (sg_star (i := 2) rfl (sgs_cons (sg_name (pg_name (i := 4) sc_replayed.nd rfl (.inl rfl)) (by decide)) (sgs_cons (sg_name (pg_name (i := 5) sc_replayed.nd rfl (.inl rfl)) (by decide)) (sgs_star (sg_name (pg_name (i := 6) sc_replayed.nd rfl (.inl rfl)) (by decide)) sgs_nil))) (by decide)) (sb_cons (ss_if (PW.pt (sw_and (st_cmp (op_eqP hu) op2_eq (nomark _) (sn_var (pv 4)) (sn_strL (by decide +kernel))) (sw_and1 (st_cmp (op_eqP hu) op2_eq (nomark _) (sn_ixA hu (sn_var (pv 6)) sn_int) (sn_var (pv 1)))))) (sb_cons (ss_expr (sn_mth (c0 := 0) (sn_var (pv 2)) T.cls_Table T.me_Table_put (ok_Table_put T) (hr.mono (by decide)) T.b_Table_put .nil closedK_nil passA (sa_cons (sn_ixA hu (sn_var (pv 6)) sn_int) (sa_cons (sn_ixA hu (sn_var (pv 6)) sn_int) sa_nil)))) (sb_one (ss_asg (sl := []) (sn_callTy call_tuple_of fn_tuple rfl T.n_tuple (by decide +kernel) (sa_cons (sn_sl false (sn_var (pv 6)) (sp_some sn_int) (sp_some sn_int)) sa_nil)) (sg_ixA hu (sn_var (pv 3)) (sn_tup (sa_cons (sn_ixA hu (sn_var (pv 6)) sn_int) (sa_cons (sn_ixA hu (sn_var (pv 6)) sn_int) sa_nil))))))) sb_nil) (sb_one (ss_if (PW.pt (sw_and (st_cmp (op_eqP hu) op2_eq (nomark _) (sn_var (pv 4)) (sn_strL (by decide +kernel))) (sw_and1 (st_cmp (op_eqP hu) op2_eq (nomark _) (sn_ixA hu (sn_var (pv 6)) sn_int) (sn_var (pv 1)))))) (sb_one (ss_for (sl := [7]) PassesOwn.never rfl (si_seq (sn_mth0 (c0 := 0) (sn_var (pv 2)) T.cls_Table T.me_Table_handles (ok_Table_handles T) (hr.mono (by decide)) T.b_Table_handles .nil closedK_nil passA)) (sg_name (pg_name (i := 7) sc_replayed.nd rfl (.inl rfl)) (by decide)) (sb_one (ss_if (st_cmp (op_eqP hu) op2_eq (nomark _) (sn_ixA hu (sn_var (pv 7)) sn_int) (sn_ixA hu (sn_var (pv 6)) sn_int)) (sb_one (ss_expr (sn_mth (c0 := 0) (sn_var (pv 2)) T.cls_Table T.me_Table_drop (ok_Table_drop T) (hr.mono (by decide)) T.b_Table_drop .nil closedK_nil passA (sa_cons (sn_var (pv 7)) sa_nil)))) sb_nil)))) sb_nil)))) (sb_one (ss_ret (sn_tup (sa_cons (sn_var (pv 2)) (sa_cons (sn_var (pv 3)) sa_nil)))))))
theorem ok_law_rights (T : Tx K mg cl) : FnOk P w K mg base CX0 3 T.a_law_rights T.d_law_rights ["_law_flow_here", "_law_names_here"] (spOf ⟨K, cl, w⟩ 2 g_law_rights) := by
  refine fn_def (B := B_law_rights) T.f_law_rights sc_law_rights (fun cdv A outer s H E hr => ?_) (fun ds M _ => ref_run B_law_rights 3 ds M)
  have hu := huE hr
  have hu1 := hu1E hr
  exact (sb_cons (ss_set (i := 2) (sn_callB (cr_sortedD hu) (fn_sorted (c := false)) rfl T.n_sorted (by decide +kernel) (sa_cons (sn_sl false (sn_call (ok_law_mixed T) (hr.mono (by decide)) rfl T.m_law_mixed T.f_law_mixed.kp T.b_law_mixed .nil closed_nil passA (sa_cons (sn_var (pv 0)) (sa_cons (sn_var (pv 1)) sa_nil))) sp_none (sp_some (sn_add false sn_int (sn_call (ok_law_draw T) (hr.mono (by decide)) rfl T.m_law_draw T.f_law_draw.kp T.b_law_draw .nil closed_nil passA (sa_cons (sn_var (pv 0)) (sa_cons sn_int sa_nil)))))) sa_nil)) sc_law_rights.nd rfl (.inl rfl)) (sb_one (ss_ret (sn_callTy call_tuple_of fn_tuple rfl T.n_tuple (by decide +kernel) (sa_cons (sn_var (pv 2)) sa_nil)))))
theorem ok_law_world (T : Tx K mg cl) : FnOk P w K mg base CX0 3 T.a_law_world T.d_law_world ["_law_flow_here"] (spOf ⟨K, cl, w⟩ 1 g_law_world) := by
  refine fn_def (B := B_law_world) T.f_law_world sc_law_world (fun cdv A outer s H E hr => ?_) (fun ds M _ => ref_run B_law_world 4 ds M)
  have hu := huE hr
  have hu1 := hu1E hr
  exact (sb_cons (ss_set (i := 1) (sn_call (ok_law_names T) (hr.mono (by decide)) rfl T.m_law_names T.f_law_names.kp T.b_law_names .nil closed_nil passA (sa_cons (sn_var (pv 0)) (sa_cons sn_int sa_nil))) sc_law_world.nd rfl (.inr rfl)) (sb_cons (ss_set (i := 2) (sn_disp (fs := [((mC (.str [104, 101, 114, 101])), (mOp oIxA (mVar 1) (mC (.int 0)))), ((mC (.str [104, 111, 109, 101, 115])), (mSl false (mVar 1) pNone (pSome (mC (.int 3))))), ((mC (.str [114, 105, 103, 104, 116, 115])), (mSl false (mVar 1) (pSome (mC (.int 7))) (pSome (mC (.int 12))))), ((mC (.str [119, 111, 114, 100, 115])), (mSl false (mVar 1) (pSome (mC (.int 12))) pNone)), ((mC (.str [108, 105, 110, 101, 115])), (mLst true aNil)), ((mC (.str [116, 105, 99, 107])), (mC (.int 0)))]) (pps_cons (sn_strL (by decide +kernel)) (sn_ixA hu (sn_var (pv 1)) sn_int) (pps_cons (sn_strL (by decide +kernel)) (sn_sl false (sn_var (pv 1)) sp_none (sp_some sn_int)) (pps_cons (sn_strL (by decide +kernel)) (sn_sl false (sn_var (pv 1)) (sp_some sn_int) (sp_some sn_int)) (pps_cons (sn_strL (by decide +kernel)) (sn_sl false (sn_var (pv 1)) (sp_some sn_int) sp_none) (pps_cons (sn_strL (by decide +kernel)) (sn_lst true sa_nil) (pps_cons (sn_strL (by decide +kernel)) sn_int pps_nil))))))) sc_law_world.nd rfl (.inl rfl)) (sb_cons (ss_asg (sl := []) (sn_lc false (own := [("_law_name", 3)]) rfl sc_law_world.nd (si_seq (sn_sl false (sn_var (pv 1)) (sp_some sn_int) (sp_some sn_int))) (blkOk_by (N := ["_law_flow_here", "_law_names_here", "_law_world_here", "_law_name"]) (sc := defScope s_law_world) (by decide +kernel)) (fun _ _ _ _ _ => (sg_name (pg_name (i := 3) sc_law_world.nd rfl (.inl rfl)) (by decide))) (fun _ _ _ _ _ => sts_nil) (fun _ _ _ _ _ => (sn_tup (sa_cons (sn_ixA hu (sn_var (pv 1)) sn_int) (sa_cons (sn_var (pv 3)) sa_nil))))) (sg_ixA hu (sn_var (pv 2)) (sn_strL (by decide +kernel)))) (sb_cons (ss_asg (sl := [2, 2, 2, 2]) (sn_tup (sa_cons sn_dnewN (sa_cons (sn_lst true sa_nil) (sa_cons sn_int (sa_cons (sn_lst true sa_nil) sa_nil))))) (sg_tup rfl (sgs_cons (sg_ixA hu (sn_var (pv 2)) (sn_strL (by decide +kernel))) (sgs_cons (sg_ixA hu (sn_var (pv 2)) (sn_strL (by decide +kernel))) (sgs_cons (sg_ixA hu (sn_var (pv 2)) (sn_strL (by decide +kernel))) (sgs_cons (sg_ixA hu (sn_var (pv 2)) (sn_strL (by decide +kernel))) sgs_nil)))))) (sb_cons (ss_asg (sl := [2, 2]) (sn_tup (sa_cons sn_int (sa_cons (sn_lst true sa_nil) sa_nil))) (sg_tup rfl (sgs_cons (sg_ixA hu (sn_var (pv 2)) (sn_strL (by decide +kernel))) (sgs_cons (sg_ixA hu (sn_var (pv 2)) (sn_strL (by decide +kernel))) sgs_nil)))) (sb_one (ss_ret (sn_var (pv 2)))))))))
theorem ok_table (T : Tx K mg cl) : FnOk P w K mg base CX0 4 T.a_table T.d_table ["rows", "being"] (spOf ⟨K, cl, w⟩ 2 g_table) := by
  refine fn_def (B := B_table) T.f_table sc_table (fun cdv A outer s H E hr => ?_) (fun ds M _ => ref_run B_table 5 ds M)
  have hu := huE hr
  have hu1 := hu1E hr
  exact (sb_cons (ss_asg (sl := [2, 3]) (sn_call (ok_replayed T) (hr.mono (by decide)) rfl T.m_replayed T.f_replayed.kp T.b_replayed .nil closed_nil passA (sa_cons (sn_var (pv 0)) (sa_cons (sn_var (pv 1)) sa_nil))) (sg_tup rfl (sgs_cons (sg_name (pg_name (i := 2) sc_table.nd rfl (.inr rfl)) (by decide)) (sgs_cons (sg_name (pg_name (i := 3) sc_table.nd rfl (.inr rfl)) (by decide)) sgs_nil)))) (sb_one (ss_ret (sn_lc true (own := [("handle", 4)]) rfl sc_table.nd (si_seq (sn_mth0 (c0 := 0) (sn_var (pv 2)) T.cls_Table T.me_Table_handles (ok_Table_handles T) (hr.mono (by decide)) T.b_Table_handles .nil closedK_nil passA)) (blkOk_by (N := ["rows", "being", "found", "things", "handle"]) (sc := defScope s_table) (by decide +kernel)) (fun _ _ _ _ _ => (sg_name (pg_name (i := 4) sc_table.nd rfl (.inl rfl)) (by decide))) (fun _ _ _ _ _ => sts_nil) (fun _ _ _ _ _ => (sn_add false (sn_add false (sn_tup (sa_cons (sn_var (pv 4)) sa_nil)) (sn_mth (c0 := 0) (sn_var (pv 2)) T.cls_Table T.me_Table_leads (ok_Table_leads T) (hr.mono (by decide)) T.b_Table_leads .nil closedK_nil passA (sa_cons (sn_var (pv 4)) sa_nil))) (sn_ixA hu (sn_var (pv 3)) (sn_mth (c0 := 0) (sn_var (pv 2)) T.cls_Table T.me_Table_leads (ok_Table_leads T) (hr.mono (by decide)) T.b_Table_leads .nil closedK_nil passA (sa_cons (sn_var (pv 4)) sa_nil)))))))))
theorem ok_law_put_row (T : Tx K mg cl) : FnOk P w K mg base CX0 4 T.a_law_put_row T.d_law_put_row ["_law_flow_here", "_law_world_here", "_law_being", "_law_ask"] (spOf ⟨K, cl, w⟩ 4 g_law_put_row) := by
  refine fn_def (B := B_law_put_row) T.f_law_put_row sc_law_put_row (fun cdv A outer s H E hr => ?_) (fun ds M _ => ref_run B_law_put_row 9 ds M)
  have hu := huE hr
  have hu1 := hu1E hr
  exact (sb_cons (ss_asg (sl := []) (sn_add false (sn_ixA hu (sn_var (pv 1)) (sn_strL (by decide +kernel))) sn_int) (sg_ixA hu (sn_var (pv 1)) (sn_strL (by decide +kernel)))) (sb_cons (ss_set (i := 4) sn_int sc_law_put_row.nd rfl (.inl rfl)) (sb_cons (ss_while PassesOwn.never (st_cmp (op_inA hu) op2_inA rfl (sn_tup (sa_cons (sn_var (pv 2)) (sa_cons (sn_var (pv 4)) sa_nil))) (sn_ixA hu (sn_var (pv 1)) (sn_strL (by decide +kernel)))) (sb_one (ss_set (i := 4) (sn_add false (sn_var (pv 4)) sn_int) sc_law_put_row.nd rfl (.inl rfl)))) (sb_cons (ss_asg (sl := []) sn_bl (sg_ixA hu (sn_ixA hu (sn_var (pv 1)) (sn_strL (by decide +kernel))) (sn_tup (sa_cons (sn_var (pv 2)) (sa_cons (sn_var (pv 4)) sa_nil))))) (sb_cons (ss_set (i := 5) (sn_ixA hu (sn_ixA hu (sn_var (pv 1)) (sn_strL (by decide +kernel))) (sn_call (ok_law_draw T) (hr.mono (by decide)) rfl T.m_law_draw T.f_law_draw.kp T.b_law_draw .nil closed_nil passA (sa_cons (sn_var (pv 0)) (sa_cons sn_int sa_nil)))) sc_law_put_row.nd rfl (.inl rfl)) (sb_cons (ss_set (i := 6) (sn_tup (sa_cons (sn_var (pv 5)) (sa_cons (sn_ixA hu (sn_ixA hu (sn_var (pv 1)) (sn_strL (by decide +kernel))) (sn_call (ok_law_draw T) (hr.mono (by decide)) rfl T.m_law_draw T.f_law_draw.kp T.b_law_draw .nil closed_nil passA (sa_cons (sn_var (pv 0)) (sa_cons sn_int sa_nil)))) sa_nil))) sc_law_put_row.nd rfl (.inl rfl)) (sb_cons (ss_set (i := 7) (sn_add false (sn_ixA hu (sn_lst false (sa_cons (sn_ixA hu (sn_var (pv 1)) (sn_strL (by decide +kernel))) (sa_cons (sn_sub sn_int (sn_ixA hu (sn_var (pv 1)) (sn_strL (by decide +kernel)))) sa_nil))) (sn_call (ok_law_draw T) (hr.mono (by decide)) rfl T.m_law_draw T.f_law_draw.kp T.b_law_draw .nil closed_nil passA (sa_cons (sn_var (pv 0)) (sa_cons sn_int sa_nil)))) (sn_mul false sn_int (sn_call (ok_law_draw T) (hr.mono (by decide)) rfl T.m_law_draw T.f_law_draw.kp T.b_law_draw .nil closed_nil passA (sa_cons (sn_var (pv 0)) (sa_cons sn_int sa_nil))))) sc_law_put_row.nd rfl (.inl rfl)) (sb_cons (ss_set (i := 8) (sn_call (ok_law_rights T) (hr.mono (by decide)) rfl T.m_law_rights T.f_law_rights.kp T.b_law_rights .nil closed_nil passA (sa_cons (sn_var (pv 0)) (sa_cons (sn_ixA hu (sn_var (pv 1)) (sn_strL (by decide +kernel))) sa_nil))) sc_law_put_row.nd rfl (.inl rfl)) (sb_one (ss_ret (sn_tup (sa_cons (sn_strL (by decide +kernel)) (sa_cons (sn_ixA hu (sn_var (pv 1)) (sn_strL (by decide +kernel))) (sa_cons (sn_var (pv 2)) (sa_cons (sn_var (pv 5)) (sa_cons (sn_var (pv 7)) (sa_cons (sn_var (pv 6)) (sa_cons (sn_var (pv 8)) (sa_cons (sn_call (ok_law_draw T) (hr.mono (by decide)) rfl T.m_law_draw T.f_law_draw.kp T.b_law_draw .nil closed_nil passA (sa_cons (sn_var (pv 0)) (sa_cons sn_int sa_nil))) (sa_cons (sn_var (pv 3)) sa_nil))))))))))))))))))))
theorem ok_law_grant_row (T : Tx K mg cl) : FnOk P w K mg base CX0 4 T.a_law_grant_row T.d_law_grant_row ["_law_flow_here", "_law_world_here", "_law_ask"] (spOf ⟨K, cl, w⟩ 3 g_law_grant_row) := by
  refine fn_def (B := B_law_grant_row) T.f_law_grant_row sc_law_grant_row (fun cdv A outer s H E hr => ?_) (fun ds M _ => ref_run B_law_grant_row 12 ds M)
  have hu := huE hr
  have hu1 := hu1E hr
  exact (sb_cons (ss_par (i := 3) (j := 4) rfl sc_law_grant_row.nd rfl rfl (by decide) rfl rfl (sa_cons (sn_callB call_lenAA fn_lenA rfl T.n_len PySem.boot_len (sa_cons (sn_ixA hu (sn_var (pv 1)) (sn_strL (by decide +kernel))) sa_nil)) (sa_cons (sn_tup (sa_cons (sn_ixA hu (sn_ixA hu (sn_var (pv 1)) (sn_strL (by decide +kernel))) (sn_call (ok_law_draw T) (hr.mono (by decide)) rfl T.m_law_draw T.f_law_draw.kp T.b_law_draw .nil closed_nil passA (sa_cons (sn_var (pv 0)) (sa_cons sn_int sa_nil)))) (sa_cons (sn_ixA hu (sn_ixA hu (sn_var (pv 1)) (sn_strL (by decide +kernel))) (sn_call (ok_law_draw T) (hr.mono (by decide)) rfl T.m_law_draw T.f_law_draw.kp T.b_law_draw .nil closed_nil passA (sa_cons (sn_var (pv 0)) (sa_cons sn_int sa_nil)))) sa_nil))) sa_nil)) (by rfl)) (sb_cons (ss_setLc false (i := 5) (own := [("_law_k", 6), ("_law_grant", 7)]) rfl sc_law_grant_row.nd rfl rfl (sw_true rfl rfl rfl (by decide +kernel)) (si_enumX rfl T.n_enumerate (sn_ixA hu (sn_var (pv 1)) (sn_strL (by decide +kernel)))) (blkOk_by (N := ["_law_flow_here", "_law_world_here", "_law_ask", "_law_number_here", "_law_holder", "_law_far", "_law_k", "_law_grant", "_law_parent", "_law_place", "_law_few", "_law_elder"]) (sc := defScope s_law_grant_row) (by decide +kernel)) (fun _ _ _ _ _ => (sg_tup rfl (sgs_cons (sg_name (pg_name (i := 6) sc_law_grant_row.nd rfl (.inl rfl)) (by decide)) (sgs_cons (sg_name (pg_name (i := 7) sc_law_grant_row.nd rfl (.inl rfl)) (by decide)) sgs_nil)))) (fun _ _ _ _ _ => (sts_one (st_cmp (op_gt.or op_gt_str) op2_ord (nomark _) (sn_ixA hu (sn_var (pv 7)) sn_int) sn_int))) (fun _ _ _ _ _ => (sn_var (pv 6)))) (sb_cons (ss_if (PW.pt (sw_and (st_notN (sn_var (pv 2))) (sw_and1 (st_cmp (op_eqP hu) op2_eq (nomark _) (sn_var (pv 5)) (sn_lst false sa_nil))))) (sb_one (ss_ret (sn_tup (sa_cons (sn_strL (by decide +kernel)) (sa_cons (sn_ixA hu (sn_var (pv 1)) (sn_strL (by decide +kernel))) (sa_cons (sn_var (pv 2)) (sa_cons (sn_strL (by decide +kernel)) sa_nil))))))) sb_nil) (sb_cons (ss_set (i := 8) (sn_if (PW.pt (sw_or (st_cmp (op_eqP hu) op2_eq (nomark _) (sn_var (pv 5)) (sn_lst false sa_nil)) (sw_or1 (PW.pt (sw_and (st_isN (sn_var (pv 2))) (sw_and1 (st_cmp (op_eqP hu) op2_eq (nomark _) (sn_call (ok_law_draw T) (hr.mono (by decide)) rfl T.m_law_draw T.f_law_draw.kp T.b_law_draw .nil closed_nil passA (sa_cons (sn_var (pv 0)) (sa_cons sn_int sa_nil))) sn_int))))))) sn_non (sn_ixA hu (sn_var (pv 5)) (sn_call (ok_law_draw T) (hr.mono (by decide)) rfl T.m_law_draw T.f_law_draw.kp T.b_law_draw .nil closed_nil passA (sa_cons (sn_var (pv 0)) (sa_cons (sn_callB call_lenAA fn_lenA rfl T.n_len PySem.boot_len (sa_cons (sn_var (pv 5)) sa_nil)) sa_nil))))) sc_law_grant_row.nd rfl (.inl rfl)) (sb_cons (ss_if (st_isN (sn_var (pv 8))) (sb_one (ss_par3 (i := 9) (j := 10) (l := 5) rfl sc_law_grant_row.nd rfl rfl rfl (by decide) (by decide) (by decide) rfl rfl rfl (sa_cons (sn_tup (sa_cons (sn_ixA hu (sn_var (pv 1)) (sn_strL (by decide +kernel))) (sa_cons (sn_ixA hu (sn_ixA hu (sn_var (pv 1)) (sn_strL (by decide +kernel))) (sn_call (ok_law_draw T) (hr.mono (by decide)) rfl T.m_law_draw T.f_law_draw.kp T.b_law_draw .nil closed_nil passA (sa_cons (sn_var (pv 0)) (sa_cons sn_int sa_nil)))) sa_nil))) (sa_cons (sn_ixA hu (sn_var (pv 1)) (sn_strL (by decide +kernel))) (sa_cons (sn_add false sn_int (sn_call (ok_law_draw T) (hr.mono (by decide)) rfl T.m_law_draw T.f_law_draw.kp T.b_law_draw .nil closed_nil passA (sa_cons (sn_var (pv 0)) (sa_cons sn_int sa_nil)))) sa_nil))) (by rfl))) (sb_one (ss_asg (sl := [11, 9, 10, 5]) (sn_sl false (sn_ixA hu (sn_ixA hu (sn_var (pv 1)) (sn_strL (by decide +kernel))) (sn_var (pv 8))) sp_none (sp_some sn_int)) (sg_tup rfl (sgs_cons (sg_name (pg_name (i := 11) sc_law_grant_row.nd rfl (.inl rfl)) (by decide)) (sgs_cons (sg_name (pg_name (i := 9) sc_law_grant_row.nd rfl (.inl rfl)) (by decide)) (sgs_cons (sg_name (pg_name (i := 10) sc_law_grant_row.nd rfl (.inl rfl)) (by decide)) (sgs_cons (sg_name (pg_name (i := 5) sc_law_grant_row.nd rfl (.inl rfl)) (by decide)) sgs_nil)))))))) (sb_cons (ss_set (i := 7) (sn_tup (sa_cons (sn_var (pv 3)) (sa_cons (sn_var (pv 9)) (sa_cons (sn_call (ok_law_rights T) (hr.mono (by decide)) rfl T.m_law_rights T.f_law_rights.kp T.b_law_rights .nil closed_nil passA (sa_cons (sn_var (pv 0)) (sa_cons (sn_var (pv 10)) sa_nil))) (sa_cons (sn_call (ok_law_draw T) (hr.mono (by decide)) rfl T.m_law_draw T.f_law_draw.kp T.b_law_draw .nil closed_nil passA (sa_cons (sn_var (pv 0)) (sa_cons (sn_var (pv 5)) sa_nil))) (sa_cons (sn_var (pv 4)) (sa_cons (sn_var (pv 8)) sa_nil))))))) sc_law_grant_row.nd rfl (.inl rfl)) (sb_cons (ss_expr (sn_meth PySem.F.plainAttrs_list PySem.F.slot_list_append PySem.F.type_list_append mt_append mt1_append (sn_ixA hu (sn_var (pv 1)) (sn_strL (by decide +kernel))) (sa_cons (sn_var (pv 7)) sa_nil))) (sb_one (ss_ret (sn_if (st_isN (sn_var (pv 2))) (sn_add false (sn_tup (sa_cons (sn_strL (by decide +kernel)) (sa_cons (sn_ixA hu (sn_var (pv 1)) (sn_strL (by decide +kernel))) sa_nil))) (sn_var (pv 7))) (sn_add false (sn_add false (sn_tup (sa_cons (sn_strL (by decide +kernel)) (sa_cons (sn_ixA hu (sn_var (pv 1)) (sn_strL (by decide +kernel))) sa_nil))) (sn_var (pv 7))) (sn_tup (sa_cons (sn_var (pv 2)) sa_nil)))))))))))))
theorem okr_law_part (T : Tx K mg cl) : ∀ n, FnOk P w K mg base CX0 (3 + n) T.a_law_part T.d_law_part ["_law_flow_here", "_law_names_here", "_law_form"] (spOf ⟨K, cl, w⟩ 3 (r_law_part n))
  | 0 => fn_no rfl
  | n + 1 => by
    refine fn_def (B := B_law_part (r_law_part n)) T.f_law_part sc_law_part (fun cdv A outer s H E hr => ?_) (fun ds M _ => ref_gc (B_law_part (r_law_part n)) 7 ds M)
    have hu := huE hr
    have hu1 := hu1E hr
    exact (sb_cons (ss_if (st_cmp (op_eqP hu) op2_eq (nomark _) (sn_ixA hu (sn_var (pv 2)) (sn_neg sn_int)) (sn_strL (by decide +kernel))) (sb_one (ss_ret (sn_if (st_cmp (op_eqP hu) op2_eq (nomark _) (sn_call (ok_law_draw T) (hr.mono (Nat.le_trans (by decide) (Nat.le_add_right 3 n))) rfl T.m_law_draw T.f_law_draw.kp T.b_law_draw .nil closed_nil passA (sa_cons (sn_var (pv 0)) (sa_cons sn_int sa_nil))) sn_int) sn_non (sn_call (okr_law_part T n) hr rfl T.m_law_part T.f_law_part.kp T.b_law_part .nil closed_nil passA (sa_cons (sn_var (pv 0)) (sa_cons (sn_var (pv 1)) (sa_cons (sn_sl false (sn_var (pv 2)) sp_none (sp_some (sn_neg sn_int))) sa_nil))))))) sb_nil) (sb_cons (ss_if (st_cmp (op_eqP hu) op2_eq (nomark _) (sn_var (pv 2)) (sn_strL (by decide +kernel))) (sb_one (ss_ret (sn_call (ok_law_number T) (hr.mono (Nat.le_trans (by decide) (Nat.le_add_right 3 n))) rfl T.m_law_number T.f_law_number.kp T.b_law_number .nil closed_nil passA (sa_cons (sn_var (pv 0)) sa_nil)))) sb_nil) (sb_cons (ss_if (st_cmp (op_eqP hu) op2_eq (nomark _) (sn_var (pv 2)) (sn_strL (by decide +kernel))) (sb_one (ss_ret (sn_ixA hu (sn_var (pv 1)) (sn_call (ok_law_draw T) (hr.mono (Nat.le_trans (by decide) (Nat.le_add_right 3 n))) rfl T.m_law_draw T.f_law_draw.kp T.b_law_draw .nil closed_nil passA (sa_cons (sn_var (pv 0)) (sa_cons (sn_callB call_lenAA fn_lenA rfl T.n_len PySem.boot_len (sa_cons (sn_var (pv 1)) sa_nil)) sa_nil)))))) sb_nil) (sb_cons (ss_if (st_cmp (op_eqP hu) op2_eq (nomark _) (sn_var (pv 2)) (sn_strL (by decide +kernel))) (sb_one (ss_ret (sn_tup (sa_cons (sn_ixA hu (sn_var (pv 1)) (sn_call (ok_law_draw T) (hr.mono (Nat.le_trans (by decide) (Nat.le_add_right 3 n))) rfl T.m_law_draw T.f_law_draw.kp T.b_law_draw .nil closed_nil passA (sa_cons (sn_var (pv 0)) (sa_cons (sn_callB call_lenAA fn_lenA rfl T.n_len PySem.boot_len (sa_cons (sn_var (pv 1)) sa_nil)) sa_nil)))) (sa_cons (sn_ixA hu (sn_var (pv 1)) (sn_call (ok_law_draw T) (hr.mono (Nat.le_trans (by decide) (Nat.le_add_right 3 n))) rfl T.m_law_draw T.f_law_draw.kp T.b_law_draw .nil closed_nil passA (sa_cons (sn_var (pv 0)) (sa_cons (sn_callB call_lenAA fn_lenA rfl T.n_len PySem.boot_len (sa_cons (sn_var (pv 1)) sa_nil)) sa_nil)))) sa_nil))))) sb_nil) (sb_cons (ss_if (st_cmp (op_eqP hu) op2_eq (nomark _) (sn_var (pv 2)) (sn_strL (by decide +kernel))) (sb_one (ss_ret (sn_tup (sa_cons (sn_ixA hu (sn_var (pv 1)) (sn_call (ok_law_draw T) (hr.mono (Nat.le_trans (by decide) (Nat.le_add_right 3 n))) rfl T.m_law_draw T.f_law_draw.kp T.b_law_draw .nil closed_nil passA (sa_cons (sn_var (pv 0)) (sa_cons (sn_callB call_lenAA fn_lenA rfl T.n_len PySem.boot_len (sa_cons (sn_var (pv 1)) sa_nil)) sa_nil)))) (sa_cons (sn_call (ok_law_number T) (hr.mono (Nat.le_trans (by decide) (Nat.le_add_right 3 n))) rfl T.m_law_number T.f_law_number.kp T.b_law_number .nil closed_nil passA (sa_cons (sn_var (pv 0)) sa_nil)) sa_nil))))) sb_nil) (sb_cons (ss_if (st_cmp (op_eqP hu) op2_eq (nomark _) (sn_var (pv 2)) (sn_strL (by decide +kernel))) (sb_one (ss_ret (sn_call (ok_law_rights T) (hr.mono (Nat.le_trans (by decide) (Nat.le_add_right 3 n))) rfl T.m_law_rights T.f_law_rights.kp T.b_law_rights .nil closed_nil passA (sa_cons (sn_var (pv 0)) (sa_cons (sn_var (pv 1)) sa_nil))))) sb_nil) (sb_cons (ss_if (st_cmp (op_eqP hu) op2_eq (nomark _) (sn_var (pv 2)) (sn_strL (by decide +kernel))) (sb_one (ss_ret (sn_callTy call_tuple_of fn_tuple rfl T.n_tuple (by decide +kernel) (sa_cons (sn_lc false (own := [("_law_k", 3)]) rfl sc_law_part.nd (si_range1 rfl T.n_range (sa_cons (sn_add false sn_int (sn_call (ok_law_draw T) (hr.mono (Nat.le_trans (by decide) (Nat.le_add_right 3 n))) rfl T.m_law_draw T.f_law_draw.kp T.b_law_draw .nil closed_nil passA (sa_cons (sn_var (pv 0)) (sa_cons (sn_ixA hu (sn_lst false (sa_cons sn_int (sa_cons sn_int (sa_cons sn_int sa_nil)))) (sn_call (ok_law_draw T) (hr.mono (Nat.le_trans (by decide) (Nat.le_add_right 3 n))) rfl T.m_law_draw T.f_law_draw.kp T.b_law_draw .nil closed_nil passA (sa_cons (sn_var (pv 0)) (sa_cons sn_int sa_nil)))) sa_nil)))) sa_nil)) (blkOk_by (N := ["_law_flow_here", "_law_names_here", "_law_form", "_law_k", "_law_lot", "_law_word", "_law_one"]) (sc := defScope s_law_part) (by decide +kernel)) (fun _ _ _ _ _ => (sg_name (pg_name (i := 3) sc_law_part.nd rfl (.inl rfl)) (by decide))) (fun _ _ _ _ _ => sts_nil) (fun _ _ _ _ _ => (sn_call (ok_law_number T) (hr.mono (Nat.le_trans (by decide) (Nat.le_add_right 3 n))) rfl T.m_law_number T.f_law_number.kp T.b_law_number .nil closed_nil passA (sa_cons (sn_var (pv 0)) sa_nil)))) sa_nil)))) sb_nil) (sb_cons (ss_if (st_cmp (op_eqP hu) op2_eq (nomark _) (sn_var (pv 2)) (sn_strL (by decide +kernel))) (sb_one (ss_ret (sn_ixA hu (sn_lst false (sa_cons sn_non (sa_cons (sn_ixA hu (sn_var (pv 1)) (sn_call (ok_law_draw T) (hr.mono (Nat.le_trans (by decide) (Nat.le_add_right 3 n))) rfl T.m_law_draw T.f_law_draw.kp T.b_law_draw .nil closed_nil passA (sa_cons (sn_var (pv 0)) (sa_cons (sn_callB call_lenAA fn_lenA rfl T.n_len PySem.boot_len (sa_cons (sn_var (pv 1)) sa_nil)) sa_nil)))) (sa_cons (sn_call (ok_law_number T) (hr.mono (Nat.le_trans (by decide) (Nat.le_add_right 3 n))) rfl T.m_law_number T.f_law_number.kp T.b_law_number .nil closed_nil passA (sa_cons (sn_var (pv 0)) sa_nil)) sa_nil)))) (sn_call (ok_law_draw T) (hr.mono (Nat.le_trans (by decide) (Nat.le_add_right 3 n))) rfl T.m_law_draw T.f_law_draw.kp T.b_law_draw .nil closed_nil passA (sa_cons (sn_var (pv 0)) (sa_cons sn_int sa_nil)))))) sb_nil) (sb_cons (ss_set (i := 4) (sn_ixA hu (sn_call0 (ok_law_forms T) (hr.mono (Nat.le_trans (by decide) (Nat.le_add_right 3 n))) rfl T.m_law_forms T.f_law_forms.kp T.b_law_forms .nil closed_nil passA) (sn_var (pv 2))) sc_law_part.nd rfl (.inl rfl)) (sb_cons (ss_set (i := 5) (sn_ixA hu (sn_callB (cr_sortS rfl hu) (fn_sortS (c := false)) rfl T.n_sorted (by decide +kernel) (sa_cons (sn_var (pv 4)) sa_nil)) (sn_call (ok_law_draw T) (hr.mono (Nat.le_trans (by decide) (Nat.le_add_right 3 n))) rfl T.m_law_draw T.f_law_draw.kp T.b_law_draw .nil closed_nil passA (sa_cons (sn_var (pv 0)) (sa_cons (sn_callB call_lenAA fn_lenA rfl T.n_len PySem.boot_len (sa_cons (sn_var (pv 4)) sa_nil)) sa_nil)))) sc_law_part.nd rfl (.inl rfl)) (sb_one (ss_ret (sn_add false (sn_tup (sa_cons (sn_var (pv 5)) sa_nil)) (sn_callTy call_tuple_of fn_tuple rfl T.n_tuple (by decide +kernel) (sa_cons (sn_lc false (own := [("_law_one", 6)]) rfl sc_law_part.nd (si_seq (sn_meth0 PySem.F.plainAttrs_str PySem.F.slot_str_split PySem.F.type_str_split mt_words mt1_words (sn_ixA hu (sn_var (pv 4)) (sn_var (pv 5))))) (blkOk_by (N := ["_law_flow_here", "_law_names_here", "_law_form", "_law_k", "_law_lot", "_law_word", "_law_one"]) (sc := defScope s_law_part) (by decide +kernel)) (fun _ _ _ _ _ => (sg_name (pg_name (i := 6) sc_law_part.nd rfl (.inl rfl)) (by decide))) (fun _ _ _ _ _ => sts_nil) (fun _ _ _ _ _ => (sn_call (okr_law_part T n) hr rfl T.m_law_part T.f_law_part.kp T.b_law_part .nil closed_nil passA (sa_cons (sn_var (pv 0)) (sa_cons (sn_var (pv 1)) (sa_cons (sn_var (pv 6)) sa_nil)))))) sa_nil)))))))))))))))
theorem ok_law_part (T : Tx K mg cl) : FnOk P w K mg base CX0 27 T.a_law_part T.d_law_part ["_law_flow_here", "_law_names_here", "_law_form"] (spOf ⟨K, cl, w⟩ 3 g_law_part) := okr_law_part T 24
theorem okw_law_own_row (T : Tx K mg cl) (n : Nat) (h : FnOk P w K mg base CX0 (27 + 2 * n) T.a_law_deed_row T.d_law_deed_row ["_law_flow_here", "_law_world_here", "_law_by", "_law_ask"] (spOf ⟨K, cl, w⟩ 4 (r_law_deed_row n))) : FnOk P w K mg base CX0 (27 + 2 * n + 1) T.a_law_own_row T.d_law_own_row ["_law_flow_here", "_law_world_here", "_law_form"] (spOf ⟨K, cl, w⟩ 3 (r_law_own_row n)) := by
  refine fn_def (k := 27 + 2 * n) (B := B_law_own_row (r_law_deed_row n)) T.f_law_own_row sc_law_own_row (fun cdv A outer s H E hr => ?_) (fun ds M _ => ref_run (B_law_own_row (r_law_deed_row n)) 8 ds M)
  have hu := huE hr
  have hu1 := hu1E hr
  exact (sb_cons (ss_set (i := 3) (sn_ixA hu (sn_var (pv 1)) (sn_strL (by decide +kernel))) sc_law_own_row.nd rfl (.inl rfl)) (sb_cons (ss_if (PW.pt (sw_and (st_cmp (op_eqP hu) op2_eq (nomark _) (sn_var (pv 2)) sn_int) (sw_and1 (st_cmp (op_neP hu) op2_ne (nomark _) (sn_ixA hu (sn_var (pv 1)) (sn_strL (by decide +kernel))) (sn_lst false sa_nil))))) (sb_cons (ss_set (i := 4) (sn_meth PySem.F.plainAttrs_list PySem.F.slot_list_pop PySem.F.type_list_pop mt_popAt mt1_popAt (sn_ixA hu (sn_var (pv 1)) (sn_strL (by decide +kernel))) (sa_cons (sn_call (ok_law_draw T) (hr.mono (Nat.le_trans (by decide) (Nat.le_add_right 27 (2 * n)))) rfl T.m_law_draw T.f_law_draw.kp T.b_law_draw .nil closed_nil passA (sa_cons (sn_var (pv 0)) (sa_cons (sn_callB call_lenAA fn_lenA rfl T.n_len PySem.boot_len (sa_cons (sn_ixA hu (sn_var (pv 1)) (sn_strL (by decide +kernel))) sa_nil)) sa_nil))) sa_nil)) sc_law_own_row.nd rfl (.inl rfl)) (sb_one (ss_ret (sn_tup (sa_cons (sn_strL (by decide +kernel)) (sa_cons (sn_var (pv 3)) (sa_cons (sn_var (pv 4)) (sa_cons (sn_call (ok_law_part T) (hr.mono (Nat.le_trans (by decide) (Nat.le_add_right 27 (2 * n)))) rfl T.m_law_part T.f_law_part.kp T.b_law_part .nil closed_nil passA (sa_cons (sn_var (pv 0)) (sa_cons (sn_ixA hu (sn_var (pv 1)) (sn_strL (by decide +kernel))) (sa_cons (sn_strL (by decide +kernel)) sa_nil)))) sa_nil)))))))) sb_nil) (sb_cons (ss_if (st_cmp (op_lt.or op_lt_str) op2_ord (nomark _) (sn_var (pv 2)) sn_int) (sb_cons (ss_asg (sl := []) (sn_add false (sn_ixA hu (sn_var (pv 1)) (sn_strL (by decide +kernel))) sn_int) (sg_ixA hu (sn_var (pv 1)) (sn_strL (by decide +kernel)))) (sb_cons (ss_expr (sn_meth PySem.F.plainAttrs_list PySem.F.slot_list_append PySem.F.type_list_append mt_append mt1_append (sn_ixA hu (sn_var (pv 1)) (sn_strL (by decide +kernel))) (sa_cons (sn_sub (sn_ixA hu (sn_var (pv 1)) (sn_strL (by decide +kernel))) sn_int) sa_nil))) (sb_one (ss_ret (sn_tup (sa_cons (sn_strL (by decide +kernel)) (sa_cons (sn_var (pv 3)) (sa_cons (sn_sub (sn_ixA hu (sn_var (pv 1)) (sn_strL (by decide +kernel))) sn_int) (sa_cons (sn_call (ok_law_part T) (hr.mono (Nat.le_trans (by decide) (Nat.le_add_right 27 (2 * n)))) rfl T.m_law_part T.f_law_part.kp T.b_law_part .nil closed_nil passA (sa_cons (sn_var (pv 0)) (sa_cons (sn_ixA hu (sn_var (pv 1)) (sn_strL (by decide +kernel))) (sa_cons (sn_strL (by decide +kernel)) sa_nil)))) sa_nil))))))))) sb_nil) (sb_cons (ss_set (i := 5) (sn_callB (cr_sortedD hu) (fn_sorted (c := false)) rfl T.n_sorted (by decide +kernel) (sa_cons (sn_callTy (call_listA rfl) (fn_listA (c := false)) rfl T.n_list (by decide +kernel) (sa_cons (sn_ixA hu (sn_var (pv 1)) (sn_strL (by decide +kernel))) sa_nil)) sa_nil)) sc_law_own_row.nd rfl (.inl rfl)) (sb_cons (ss_if (PW.pt (sw_and (st_cmp (op_eqP hu) op2_eq (nomark _) (sn_var (pv 2)) sn_int) (sw_and1 (st_cmp (op_neP hu) op2_ne (nomark _) (sn_var (pv 5)) (sn_lst false sa_nil))))) (sb_cons (ss_asg (sl := [6, 7]) (sn_ixA hu (sn_var (pv 5)) (sn_call (ok_law_draw T) (hr.mono (Nat.le_trans (by decide) (Nat.le_add_right 27 (2 * n)))) rfl T.m_law_draw T.f_law_draw.kp T.b_law_draw .nil closed_nil passA (sa_cons (sn_var (pv 0)) (sa_cons (sn_callB call_lenAA fn_lenA rfl T.n_len PySem.boot_len (sa_cons (sn_var (pv 5)) sa_nil)) sa_nil)))) (sg_tup rfl (sgs_cons (sg_name (pg_name (i := 6) sc_law_own_row.nd rfl (.inl rfl)) (by decide)) (sgs_cons (sg_name (pg_name (i := 7) sc_law_own_row.nd rfl (.inl rfl)) (by decide)) sgs_nil)))) (sb_cons (ss_expr (sn_meth PySem.F.plainAttrs_dict PySem.F.slot_dict_pop PySem.F.type_dict_pop (mt_popE hu) mt1_popE (sn_ixA hu (sn_var (pv 1)) (sn_strL (by decide +kernel))) (sa_cons (sn_tup (sa_cons (sn_var (pv 6)) (sa_cons (sn_var (pv 7)) sa_nil))) sa_nil))) (sb_one (ss_ret (sn_tup (sa_cons (sn_strL (by decide +kernel)) (sa_cons (sn_var (pv 3)) (sa_cons (sn_var (pv 6)) (sa_cons (sn_var (pv 7)) sa_nil))))))))) sb_nil) (sb_cons (ss_if (PW.pt (sw_and (st_cmp (op_eqP hu) op2_eq (nomark _) (sn_var (pv 2)) sn_int) (sw_and1 (st_cmp (op_neP hu) op2_ne (nomark _) (sn_ixA hu (sn_var (pv 1)) (sn_strL (by decide +kernel))) (sn_lst false sa_nil))))) (sb_one (ss_ret (sn_tup (sa_cons (sn_strL (by decide +kernel)) (sa_cons (sn_var (pv 3)) (sa_cons (sn_call (ok_law_draw T) (hr.mono (Nat.le_trans (by decide) (Nat.le_add_right 27 (2 * n)))) rfl T.m_law_draw T.f_law_draw.kp T.b_law_draw .nil closed_nil passA (sa_cons (sn_var (pv 0)) (sa_cons (sn_callB call_lenAA fn_lenA rfl T.n_len PySem.boot_len (sa_cons (sn_ixA hu (sn_var (pv 1)) (sn_strL (by decide +kernel))) sa_nil)) sa_nil))) sa_nil)))))) sb_nil) (sb_one (ss_ret (sn_call h hr rfl T.m_law_deed_row T.f_law_deed_row.kp T.b_law_deed_row .nil closed_nil passA (sa_cons (sn_var (pv 0)) (sa_cons (sn_var (pv 1)) (sa_cons sn_non (sa_cons sn_non sa_nil)))))))))))))
theorem okr_law_deed_row (T : Tx K mg cl) : ∀ n, FnOk P w K mg base CX0 (27 + 2 * n) T.a_law_deed_row T.d_law_deed_row ["_law_flow_here", "_law_world_here", "_law_by", "_law_ask"] (spOf ⟨K, cl, w⟩ 4 (r_law_deed_row n))
  | 0 => fn_no rfl
  | n + 1 => by
    have h := okw_law_own_row T n (okr_law_deed_row T n)
    refine fn_def (k := 27 + 2 * n + 1) (B := B_law_deed_row (r_law_own_row n)) T.f_law_deed_row sc_law_deed_row (fun cdv A outer s H E hr => ?_) (fun ds M _ => ref_run (B_law_deed_row (r_law_own_row n)) 9 ds M)
    have hu := huE hr
    have hu1 := hu1E hr
    exact (sb_cons (ss_if (st_cmp (op_eqP hu) op2_eq (nomark _) (sn_ixA hu (sn_var (pv 1)) (sn_strL (by decide +kernel))) (sn_lst false sa_nil)) (sb_one (ss_ret (sn_call h hr rfl T.m_law_own_row T.f_law_own_row.kp T.b_law_own_row .nil closed_nil passA (sa_cons (sn_var (pv 0)) (sa_cons (sn_var (pv 1)) (sa_cons sn_int sa_nil)))))) sb_nil) (sb_cons (ss_set (i := 4) (sn_ixA hu (sn_ixA hu (sn_var (pv 1)) (sn_strL (by decide +kernel))) (sn_call (ok_law_draw T) (hr.mono (Nat.le_trans (by decide) (Nat.le_add_right 27 (2 * n + 1)))) rfl T.m_law_draw T.f_law_draw.kp T.b_law_draw .nil closed_nil passA (sa_cons (sn_var (pv 0)) (sa_cons (sn_callB call_lenAA fn_lenA rfl T.n_len PySem.boot_len (sa_cons (sn_ixA hu (sn_var (pv 1)) (sn_strL (by decide +kernel))) sa_nil)) sa_nil)))) sc_law_deed_row.nd rfl (.inl rfl)) (sb_cons (ss_par (i := 5) (j := 6) rfl sc_law_deed_row.nd rfl rfl (by decide) rfl rfl (sa_cons (sn_tup sa_nil) (sa_cons (sn_ixA hu (sn_var (pv 4)) sn_int) sa_nil)) (by rfl)) (sb_cons (ss_while PassesOwn.never (st_notN (sn_var (pv 6))) (sb_one (ss_par (i := 5) (j := 6) rfl sc_law_deed_row.nd rfl rfl (by decide) rfl rfl (sa_cons (sn_add false (sn_tup (sa_cons (sn_var (pv 6)) sa_nil)) (sn_var (pv 5))) (sa_cons (sn_ixA hu (sn_ixA hu (sn_ixA hu (sn_var (pv 1)) (sn_strL (by decide +kernel))) (sn_var (pv 6))) sn_int) sa_nil)) (by rfl)))) (sb_cons (ss_par (i := 7) (j := 8) rfl sc_law_deed_row.nd rfl rfl (by decide) rfl rfl (sa_cons (sn_ixA hu (sn_var (pv 1)) (sn_strL (by decide +kernel))) (sa_cons (sn_callB call_lenAA fn_lenA rfl T.n_len PySem.boot_len (sa_cons (sn_ixA hu (sn_var (pv 1)) (sn_strL (by decide +kernel))) sa_nil)) sa_nil)) (by rfl)) (sb_one (ss_ret (sn_tup (sa_cons (sn_strL (by decide +kernel)) (sa_cons (sn_var (pv 7)) (sa_cons (sn_ixA hu (sn_var (pv 4)) sn_int) (sa_cons (sn_ixA hu (sn_var (pv 4)) sn_int) (sa_cons (sn_ixA hu (sn_ixA hu (sn_var (pv 4)) sn_int) sn_int) (sa_cons (sn_var (pv 5)) (sa_cons (sn_var (pv 7)) (sa_cons (sn_var (pv 8)) (sa_cons (sn_var (pv 2)) (sa_cons (sn_var (pv 3)) sa_nil))))))))))))))))))
theorem ok_law_deed_row (T : Tx K mg cl) : FnOk P w K mg base CX0 (35) T.a_law_deed_row T.d_law_deed_row ["_law_flow_here", "_law_world_here", "_law_by", "_law_ask"] (spOf ⟨K, cl, w⟩ 4 (g_law_deed_row)) := okr_law_deed_row T 4
theorem ok_law_own_row (T : Tx K mg cl) : FnOk P w K mg base CX0 (36) T.a_law_own_row T.d_law_own_row ["_law_flow_here", "_law_world_here", "_law_form"] (spOf ⟨K, cl, w⟩ 3 (g_law_own_row)) := okw_law_own_row T 4 (okr_law_deed_row T 4)
theorem ok_law_said_row (T : Tx K mg cl) : FnOk P w K mg base CX0 37 T.a_law_said_row T.d_law_said_row ["_law_flow_here", "_law_world_here", "_law_form"] (spOf ⟨K, cl, w⟩ 3 g_law_said_row) := by
  refine fn_def (B := B_law_said_row) T.f_law_said_row sc_law_said_row (fun cdv A outer s H E hr => ?_) (fun ds M _ => ref_run B_law_said_row 8 ds M)
  have hu := huE hr
  have hu1 := hu1E hr
  exact (sb_cons (ss_par (i := 3) (j := 4) rfl sc_law_said_row.nd rfl rfl (by decide) rfl rfl (sa_cons (sn_ixA hu (sn_var (pv 1)) (sn_strL (by decide +kernel))) (sa_cons (sn_ixA hu (sn_var (pv 1)) (sn_strL (by decide +kernel))) sa_nil)) (by rfl)) (sb_cons (ss_setLc false (i := 5) (own := [("_law_row", 6)]) rfl sc_law_said_row.nd rfl rfl (sw_true rfl rfl rfl (by decide +kernel)) (si_seq (sn_var (pv 3))) (blkOk_by (N := ["_law_flow_here", "_law_world_here", "_law_form", "_law_lines", "_law_tick", "_law_opens", "_law_row", "_law_ask"]) (sc := defScope s_law_said_row) (by decide +kernel)) (fun _ _ _ _ _ => (sg_name (pg_name (i := 6) sc_law_said_row.nd rfl (.inl rfl)) (by decide))) (fun _ _ _ _ _ => (sts_one (st_cmp (op_eqP hu) op2_eq (nomark _) (sn_ixA hu (sn_var (pv 6)) sn_int) (sn_strL (by decide +kernel))))) (fun _ _ _ _ _ => (sn_ixA hu (sn_var (pv 6)) sn_int))) (sb_cons (ss_set (i := 7) (sn_if (PW.pt (sw_or (st_cmp (op_eqP hu) op2_eq (nomark _) (sn_var (pv 5)) (sn_lst false sa_nil)) (sw_or (st_cmp (op_eqP hu) op2_eq (nomark _) (sn_var (pv 2)) sn_int) (sw_or1 (st_cmp (op_gt.or op_gt_str) op2_ord (nomark _) (sn_call (ok_law_draw T) (hr.mono (by decide)) rfl T.m_law_draw T.f_law_draw.kp T.b_law_draw .nil closed_nil passA (sa_cons (sn_var (pv 0)) (sa_cons sn_int sa_nil))) sn_int))))) (sn_call (ok_law_new_ask T) (hr.mono (by decide)) rfl T.m_law_new_ask T.f_law_new_ask.kp T.b_law_new_ask .nil closed_nil passA (sa_cons (sn_var (pv 0)) (sa_cons (sn_var (pv 1)) sa_nil))) (sn_ixA hu (sn_var (pv 5)) (sn_neg sn_int))) sc_law_said_row.nd rfl (.inr rfl)) (sb_cons (ss_if (st_cmp (op_neP hu) op2_ne (nomark _) (sn_lc false (own := [("_law_row", 6)]) rfl sc_law_said_row.nd (si_seq (sn_var (pv 3))) (blkOk_by (N := ["_law_flow_here", "_law_world_here", "_law_form", "_law_lines", "_law_tick", "_law_opens", "_law_row", "_law_ask"]) (sc := defScope s_law_said_row) (by decide +kernel)) (fun _ _ _ _ _ => (sg_name (pg_name (i := 6) sc_law_said_row.nd rfl (.inl rfl)) (by decide))) (fun _ _ _ _ _ => (sts_one (PW.pt (sw_and (st_cmp (op_neP hu) op2_ne (nomark _) (sn_ixA hu (sn_var (pv 6)) sn_int) (sn_strL (by decide +kernel))) (sw_and1 (st_cmp (op_inA hu) op2_inA rfl (sn_var (pv 7)) (sn_sl false (sn_var (pv 6)) (sp_some sn_int) sp_none))))))) (fun _ _ _ _ _ => (sn_var (pv 6)))) (sn_lst false sa_nil)) (sb_one (ss_set (i := 7) (sn_call (ok_law_new_ask T) (hr.mono (by decide)) rfl T.m_law_new_ask T.f_law_new_ask.kp T.b_law_new_ask .nil closed_nil passA (sa_cons (sn_var (pv 0)) (sa_cons (sn_var (pv 1)) sa_nil))) sc_law_said_row.nd rfl (.inr rfl))) sb_nil) (sb_cons (ss_if (st_cmp (op_eqP hu) op2_eq (nomark _) (sn_var (pv 2)) sn_int) (sb_one (ss_ret (sn_tup (sa_cons (sn_strL (by decide +kernel)) (sa_cons (sn_var (pv 4)) (sa_cons (sn_var (pv 7)) sa_nil)))))) sb_nil) (sb_cons (ss_if (st_cmp (op_eqP hu) op2_eq (nomark _) (sn_var (pv 2)) sn_int) (sb_one (ss_ret (sn_tup (sa_cons (sn_strL (by decide +kernel)) (sa_cons (sn_var (pv 4)) (sa_cons (sn_var (pv 7)) (sa_cons (sn_ixA hu (sn_lst false (sa_cons (sn_strL (by decide +kernel)) (sa_cons (sn_strL (by decide +kernel)) (sa_cons (sn_strL (by decide +kernel)) (sa_cons (sn_strL (by decide +kernel)) (sa_cons (sn_strL (by decide +kernel)) sa_nil)))))) (sn_call (ok_law_draw T) (hr.mono (by decide)) rfl T.m_law_draw T.f_law_draw.kp T.b_law_draw .nil closed_nil passA (sa_cons (sn_var (pv 0)) (sa_cons sn_int sa_nil)))) sa_nil))))))) sb_nil) (sb_cons (ss_if (st_cmp (op_eqP hu) op2_eq (nomark _) (sn_var (pv 2)) sn_int) (sb_one (ss_ret (sn_call (ok_law_grant_row T) (hr.mono (by decide)) rfl T.m_law_grant_row T.f_law_grant_row.kp T.b_law_grant_row .nil closed_nil passA (sa_cons (sn_var (pv 0)) (sa_cons (sn_var (pv 1)) (sa_cons (sn_var (pv 7)) sa_nil)))))) sb_nil) (sb_one (ss_ret (sn_call (ok_law_deed_row T) (hr.mono (by decide)) rfl T.m_law_deed_row T.f_law_deed_row.kp T.b_law_deed_row .nil closed_nil passA (sa_cons (sn_var (pv 0)) (sa_cons (sn_var (pv 1)) (sa_cons (sn_ixA hu (sn_ixA hu (sn_var (pv 1)) (sn_strL (by decide +kernel))) sn_int) (sa_cons (sn_var (pv 7)) sa_nil))))))))))))))
theorem ok_law_grown (T : Tx K mg cl) : FnOk P w K mg base CX0 38 T.a_law_grown T.d_law_grown ["_law_flow_here", "_law_world_here", "_law_size"] (spOf ⟨K, cl, w⟩ 3 g_law_grown) := by
  refine fn_def (B := B_law_grown) T.f_law_grown sc_law_grown (fun cdv A outer s H E hr => ?_) (fun ds M _ => ref_run B_law_grown 8 ds M)
  have hu := huE hr
  have hu1 := hu1E hr
  exact (sb_one (ss_for (sl := [3]) PassesOwn.never rfl (si_range1 rfl T.n_range (sa_cons (sn_var (pv 2)) sa_nil)) (sg_name (pg_name (i := 3) sc_law_grown.nd rfl (.inl rfl)) (by decide)) (sb_cons (ss_par (i := 4) (j := 5) rfl sc_law_grown.nd rfl rfl (by decide) rfl rfl (sa_cons (sn_call (ok_law_draw T) (hr.mono (by decide)) rfl T.m_law_draw T.f_law_draw.kp T.b_law_draw .nil closed_nil passA (sa_cons (sn_var (pv 0)) (sa_cons sn_int sa_nil))) (sa_cons (sn_call (ok_law_draw T) (hr.mono (by decide)) rfl T.m_law_draw T.f_law_draw.kp T.b_law_draw .nil closed_nil passA (sa_cons (sn_var (pv 0)) (sa_cons sn_int sa_nil))) sa_nil)) (by rfl)) (sb_cons (ss_asg (sl := []) (sn_callB (call_min2 rfl) fn_2I rfl T.n_min (by decide +kernel) (sa_cons sn_int (sa_cons (sn_add false (sn_ixA hu (sn_var (pv 1)) (sn_strL (by decide +kernel))) (sn_mul false (sn_call (ok_law_draw T) (hr.mono (by decide)) rfl T.m_law_draw T.f_law_draw.kp T.b_law_draw .nil closed_nil passA (sa_cons (sn_var (pv 0)) (sa_cons sn_int sa_nil))) (sn_call (ok_law_draw T) (hr.mono (by decide)) rfl T.m_law_draw T.f_law_draw.kp T.b_law_draw .nil closed_nil passA (sa_cons (sn_var (pv 0)) (sa_cons sn_int sa_nil))))) sa_nil))) (sg_ixA hu (sn_var (pv 1)) (sn_strL (by decide +kernel)))) (sb_cons (ss_if (st_cmp (op_lt.or op_lt_str) op2_ord (nomark _) (sn_var (pv 4)) sn_int) (sb_cons (ss_set (i := 6) (sn_ixA hu (sn_lst false (sa_cons sn_non (sa_cons (sn_call (ok_law_new_ask T) (hr.mono (by decide)) rfl T.m_law_new_ask T.f_law_new_ask.kp T.b_law_new_ask .nil closed_nil passA (sa_cons (sn_var (pv 0)) (sa_cons (sn_var (pv 1)) sa_nil))) sa_nil))) (sn_call (ok_law_draw T) (hr.mono (by decide)) rfl T.m_law_draw T.f_law_draw.kp T.b_law_draw .nil closed_nil passA (sa_cons (sn_var (pv 0)) (sa_cons sn_int sa_nil)))) sc_law_grown.nd rfl (.inl rfl)) (sb_one (ss_set (i := 7) (sn_call (ok_law_put_row T) (hr.mono (by decide)) rfl T.m_law_put_row T.f_law_put_row.kp T.b_law_put_row .nil closed_nil passA (sa_cons (sn_var (pv 0)) (sa_cons (sn_var (pv 1)) (sa_cons (sn_ixA hu (sn_ixA hu (sn_var (pv 1)) (sn_strL (by decide +kernel))) (sn_call (ok_law_draw T) (hr.mono (by decide)) rfl T.m_law_draw T.f_law_draw.kp T.b_law_draw .nil closed_nil passA (sa_cons (sn_var (pv 0)) (sa_cons sn_int sa_nil)))) (sa_cons (sn_var (pv 6)) sa_nil))))) sc_law_grown.nd rfl (.inl rfl)))) (sb_one (ss_if (st_cmp (op_lt.or op_lt_str) op2_ord (nomark _) (sn_var (pv 4)) sn_int) (sb_one (ss_set (i := 7) (sn_call (ok_law_said_row T) (hr.mono (by decide)) rfl T.m_law_said_row T.f_law_said_row.kp T.b_law_said_row .nil closed_nil passA (sa_cons (sn_var (pv 0)) (sa_cons (sn_var (pv 1)) (sa_cons (sn_var (pv 5)) sa_nil)))) sc_law_grown.nd rfl (.inl rfl))) (sb_one (ss_set (i := 7) (sn_call (ok_law_own_row T) (hr.mono (by decide)) rfl T.m_law_own_row T.f_law_own_row.kp T.b_law_own_row .nil closed_nil passA (sa_cons (sn_var (pv 0)) (sa_cons (sn_var (pv 1)) (sa_cons (sn_ixA hu (sn_lst false (sa_cons (sn_var (pv 5)) (sa_cons (sn_var (pv 5)) (sa_cons sn_int (sa_cons sn_int (sa_cons sn_int sa_nil)))))) (sn_sub (sn_var (pv 4)) sn_int)) sa_nil)))) sc_law_grown.nd rfl (.inl rfl)))))) (sb_one (ss_expr (sn_meth PySem.F.plainAttrs_list PySem.F.slot_list_append PySem.F.type_list_append mt_append mt1_append (sn_ixA hu (sn_var (pv 1)) (sn_strL (by decide +kernel))) (sa_cons (sn_var (pv 7)) sa_nil)))))))))
theorem ok_law_history (T : Tx K mg cl) : FnOk P w K mg base CX0 39 T.a_law_history T.d_law_history ["_law_flow_here", "_law_size"] (spOf ⟨K, cl, w⟩ 2 g_law_history) := by
  refine fn_def (B := B_law_history) T.f_law_history sc_law_history (fun cdv A outer s H E hr => ?_) (fun ds M _ => ref_gc B_law_history 4 ds M)
  have hu := huE hr
  have hu1 := hu1E hr
  exact (sb_cons (ss_set (i := 2) (sn_call (ok_law_world T) (hr.mono (by decide)) rfl T.m_law_world T.f_law_world.kp T.b_law_world .nil closed_nil passA (sa_cons (sn_var (pv 0)) sa_nil)) sc_law_history.nd rfl (.inl rfl)) (sb_cons (ss_for (sl := [3]) PassesOwn.never rfl (si_range1 rfl T.n_range (sa_cons (sn_call (ok_law_draw T) (hr.mono (by decide)) rfl T.m_law_draw T.f_law_draw.kp T.b_law_draw .nil closed_nil passA (sa_cons (sn_var (pv 0)) (sa_cons sn_int sa_nil))) sa_nil)) (sg_name (pg_name (i := 3) sc_law_history.nd rfl (.inl rfl)) (by decide)) (sb_one (ss_expr (sn_meth PySem.F.plainAttrs_list PySem.F.slot_list_append PySem.F.type_list_append mt_append mt1_append (sn_ixA hu (sn_var (pv 2)) (sn_strL (by decide +kernel))) (sa_cons (sn_call (ok_law_grant_row T) (hr.mono (by decide)) rfl T.m_law_grant_row T.f_law_grant_row.kp T.b_law_grant_row .nil closed_nil passA (sa_cons (sn_var (pv 0)) (sa_cons (sn_var (pv 2)) (sa_cons sn_non sa_nil)))) sa_nil))))) (sb_cons (ss_expr (sn_call (ok_law_grown T) (hr.mono (by decide)) rfl T.m_law_grown T.f_law_grown.kp T.b_law_grown .nil closed_nil passA (sa_cons (sn_var (pv 0)) (sa_cons (sn_var (pv 2)) (sa_cons (sn_var (pv 1)) sa_nil))))) (sb_one (ss_ret (sn_tup (sa_cons (sn_callTy call_tuple_of fn_tuple rfl T.n_tuple (by decide +kernel) (sa_cons (sn_ixA hu (sn_var (pv 2)) (sn_strL (by decide +kernel))) sa_nil)) (sa_cons (sn_ixA hu (sn_var (pv 2)) (sn_strL (by decide +kernel))) sa_nil))))))))
theorem ok_law (T : Tx K mg cl) : FnG P w K mg base CX0 40 T.a_law T.d_law ["_law_script"] (spOf ⟨K, cl, w⟩ 1 g_law) := by
  refine fn_defG (B := B_law) T.f_law sc_law (fun cdv A outer s H E hgd hr => ?_) (fun ds M _ => ref_run B_law 11 ds M)
  have hu := huE hr
  have hu1 := hu1E hr
  exact (sb_cons (ss_for (sl := [1]) PassesOwn.never rfl (si_range1 rfl T.n_range (sa_cons (sn_callB (call_max2 rfl) fn_2I rfl T.n_max (by decide +kernel) (sa_cons sn_int (sa_cons (sn_callB (call_min2 rfl) fn_2I rfl T.n_min (by decide +kernel) (sa_cons sn_int (sa_cons (sn_callB call_lenA fn_len rfl T.n_len PySem.boot_len (sa_cons (sn_var (pv 0)) sa_nil)) sa_nil))) sa_nil))) sa_nil)) (sg_name (pg_name (i := 1) sc_law.nd rfl (.inl rfl)) (by decide)) (sb_cons (ss_set (i := 2) (sn_call (ok_law_flow T) (hr.mono (by decide)) rfl T.m_law_flow T.f_law_flow.kp T.b_law_flow .nil closed_nil passA (sa_cons (sn_var (pv 0)) (sa_cons (sn_var (pv 1)) sa_nil))) sc_law.nd rfl (.inl rfl)) (sb_cons (ss_asg (sl := [3, 4]) (sn_call (ok_law_history T) (hr.mono (by decide)) rfl T.m_law_history T.f_law_history.kp T.b_law_history .nil closed_nil passA (sa_cons (sn_var (pv 2)) (sa_cons (sn_add false sn_int (sn_call (ok_law_draw T) (hr.mono (by decide)) rfl T.m_law_draw T.f_law_draw.kp T.b_law_draw .nil closed_nil passA (sa_cons (sn_var (pv 2)) (sa_cons sn_int sa_nil)))) sa_nil))) (sg_tup rfl (sgs_cons (sg_name (pg_name (i := 3) sc_law.nd rfl (.inl rfl)) (by decide)) (sgs_cons (sg_name (pg_name (i := 4) sc_law.nd rfl (.inl rfl)) (by decide)) sgs_nil)))) (sb_one (ss_for (sl := [5]) PassesOwn.never rfl (si_seq (sn_lst false (sa_cons (sn_callB call_lenA fn_len rfl T.n_len PySem.boot_len (sa_cons (sn_var (pv 3)) sa_nil)) (sa_cons (sn_call (ok_law_draw T) (hr.mono (by decide)) rfl T.m_law_draw T.f_law_draw.kp T.b_law_draw .nil closed_nil passA (sa_cons (sn_var (pv 2)) (sa_cons (sn_add false (sn_callB call_lenA fn_len rfl T.n_len PySem.boot_len (sa_cons (sn_var (pv 3)) sa_nil)) sn_int) sa_nil))) (sa_cons (sn_callB call_lenA fn_len rfl T.n_len PySem.boot_len (sa_cons (sn_var (pv 3)) sa_nil)) sa_nil))))) (sg_name (pg_name (i := 5) sc_law.nd rfl (.inl rfl)) (by decide)) (sb_one (ss_for (sl := [6]) PassesOwn.never rfl (si_seq (sn_add false (sn_var (pv 4)) (sn_lst false (sa_cons (sn_tup (sa_cons (sn_strL (by decide +kernel)) (sa_cons (sn_strL (by decide +kernel)) sa_nil))) sa_nil)))) (sg_name (pg_name (i := 6) sc_law.nd rfl (.inl rfl)) (by decide)) (sb_cons (ss_asg (sl := [7, 8]) (sn_call (ok_law_due T) (hr.mono (by decide)) rfl T.m_law_due T.f_law_due.kp T.b_law_due .nil closed_nil passA (sa_cons (sn_sl false (sn_var (pv 3)) sp_none (sp_some (sn_var (pv 5)))) (sa_cons (sn_var (pv 6)) sa_nil))) (sg_tup rfl (sgs_cons (sg_name (pg_name (i := 7) sc_law.nd rfl (.inl rfl)) (by decide)) (sgs_cons (sg_name (pg_name (i := 8) sc_law.nd rfl (.inl rfl)) (by decide)) sgs_nil)))) (sb_cons (ss_par (i := 9) (j := 10) rfl sc_law.nd rfl rfl (by decide) rfl rfl (sa_cons (sn_call (ok_table T) (hr.mono (by decide)) rfl T.m_table T.f_table.kp T.b_table .nil closed_nil passA (sa_cons (sn_sl false (sn_var (pv 3)) sp_none (sp_some (sn_var (pv 5)))) (sa_cons (sn_var (pv 6)) sa_nil))) (sa_cons (sn_call (ok_ever T) (hr.mono (by decide)) rfl T.m_ever T.f_ever.kp T.b_ever .nil closed_nil passA (sa_cons (sn_callTy call_list_of (fn_list (c := false)) rfl T.n_list (by decide +kernel) (sa_cons (sn_sl false (sn_var (pv 3)) sp_none (sp_some (sn_var (pv 5)))) sa_nil)) (sa_cons (sn_var (pv 6)) sa_nil))) sa_nil)) (by rfl)) (sb_cons (ss_if (PW.pt (sw_or (st_not (st_val (sn_isi (T := "list") rfl T.n_isinstance rfl T.n_list (by decide +kernel) (by decide) (by decide) (by decide) (sn_var (pv 9))))) (sw_or1 (st_cmp (op_neP hu) op2_ne (nomark _) (sn_callB (cr_repr hgd hu) fn_repr rfl T.n_repr PyProof.Rows.boot_repr (sa_cons (sn_var (pv 9)) sa_nil)) (sn_callB (cr_repr hgd hu) fn_repr rfl T.n_repr PyProof.Rows.boot_repr (sa_cons (sn_var (pv 7)) sa_nil)))))) (sb_one (ss_ret sn_bl)) sb_nil) (sb_cons (ss_if (PW.pt (sw_or (st_not (st_val (sn_isi (T := "list") rfl T.n_isinstance rfl T.n_list (by decide +kernel) (by decide) (by decide) (by decide) (sn_var (pv 10))))) (sw_or1 (st_cmp (op_neP hu) op2_ne (nomark _) (sn_callB (cr_repr hgd hu) fn_repr rfl T.n_repr PyProof.Rows.boot_repr (sa_cons (sn_var (pv 10)) sa_nil)) (sn_callB (cr_repr hgd hu) fn_repr rfl T.n_repr PyProof.Rows.boot_repr (sa_cons (sn_var (pv 8)) sa_nil)))))) (sb_one (ss_ret sn_bl)) sb_nil) (sb_cons (ss_expr (sn_meth0 PySem.F.plainAttrs_list PySem.F.slot_list_clear PySem.F.type_list_clear mt_clear mt1_clear (sn_var (pv 9)))) (sb_one (ss_expr (sn_meth PySem.F.plainAttrs_list PySem.F.slot_list_append PySem.F.type_list_append mt_append mt1_append (sn_var (pv 10)) (sa_cons (sn_tup (sa_cons (sn_ix (sn_var (pv 6)) sn_int) (sa_cons sn_int sa_nil))) sa_nil)))))))))))))))) (sb_one (ss_ret sn_bl)))
end
theorem all_mk {l : PySem.W.OpenLaw} {w : World} {K : PySem.W.Frag} {h : Heap} {mg : Str → Option Value} {fa : Addr} (X : K.In h) (G : h.Ns mainGlobals mg) (hfa : mg "law" = some (.ref fa))
    {C_Table : Addr}
    {f0 : Addr} {od0 an0 : Option Addr} {sl0 : Array (Option Value)} {oc0 dc0 pm0 cd0 ct0 : Value}
    {kV0 : Value}
    (a0 : PySem.W.findIn K (.ref C_Table) "__init__" = some (some (.ref f0))) (i0 : PySem.W.isFn K (.ref f0) = true) (l0 : K.lookup f0 = some ⟨oc0, od0, .func (PySem.W.fnOf "__init__" "Table.__init__" (defArgs s_Table___init__) (defBody s_Table___init__) (defScope s_Table___init__) .none kV0 dc0 pm0 an0 cd0 ct0), sl0⟩) (c0 : PySem.W.codeIn K cd0 "Table.__init__" = true) (k0 : PySem.W.keepIn K (.ref f0) = true)
    {f1 : Addr} {od1 an1 : Option Addr} {sl1 : Array (Option Value)} {oc1 dc1 pm1 cd1 ct1 : Value}
    {kV1 : Value}
    (a1 : PySem.W.findIn K (.ref C_Table) "free_place" = some (some (.ref f1))) (i1 : PySem.W.isFn K (.ref f1) = true) (l1 : K.lookup f1 = some ⟨oc1, od1, .func (PySem.W.fnOf "free_place" "Table.free_place" (defArgs s_Table_free_place) (defBody s_Table_free_place) (defScope s_Table_free_place) .none kV1 dc1 pm1 an1 cd1 ct1), sl1⟩) (c1 : PySem.W.codeIn K cd1 "Table.free_place" = true) (k1 : PySem.W.keepIn K (.ref f1) = true)
    {f2 : Addr} {od2 an2 : Option Addr} {sl2 : Array (Option Value)} {oc2 dc2 pm2 cd2 ct2 : Value}
    {kV2 : Value}
    (a2 : PySem.W.findIn K (.ref C_Table) "leads" = some (some (.ref f2))) (i2 : PySem.W.isFn K (.ref f2) = true) (l2 : K.lookup f2 = some ⟨oc2, od2, .func (PySem.W.fnOf "leads" "Table.leads" (defArgs s_Table_leads) (defBody s_Table_leads) (defScope s_Table_leads) .none kV2 dc2 pm2 an2 cd2 ct2), sl2⟩) (c2 : PySem.W.codeIn K cd2 "Table.leads" = true) (k2 : PySem.W.keepIn K (.ref f2) = true)
    {f3 : Addr} {od3 an3 : Option Addr} {sl3 : Array (Option Value)} {oc3 dc3 pm3 cd3 ct3 : Value}
    {kV3 : Value}
    (a3 : PySem.W.findIn K (.ref C_Table) "handles" = some (some (.ref f3))) (i3 : PySem.W.isFn K (.ref f3) = true) (l3 : K.lookup f3 = some ⟨oc3, od3, .func (PySem.W.fnOf "handles" "Table.handles" (defArgs s_Table_handles) (defBody s_Table_handles) (defScope s_Table_handles) .none kV3 dc3 pm3 an3 cd3 ct3), sl3⟩) (c3 : PySem.W.codeIn K cd3 "Table.handles" = true) (k3 : PySem.W.keepIn K (.ref f3) = true)
    {f4 : Addr} {od4 an4 : Option Addr} {sl4 : Array (Option Value)} {oc4 dc4 pm4 cd4 ct4 : Value}
    {kV4 : Value}
    (a4 : PySem.W.nsIn K mainGlobals "ever" = some (some (.ref f4))) (l4 : K.lookup f4 = some ⟨oc4, od4, .func (PySem.W.fnOf "ever" "ever" (defArgs s_ever) (defBody s_ever) (defScope s_ever) .none kV4 dc4 pm4 an4 cd4 ct4), sl4⟩) (c4 : PySem.W.codeIn K cd4 "ever" = true) (k4 : PySem.W.keepIn K (.ref f4) = true)
    {f5 : Addr} {od5 an5 : Option Addr} {sl5 : Array (Option Value)} {oc5 dc5 pm5 cd5 ct5 : Value}
    {kV5 : Value}
    (a5 : PySem.W.nsIn K mainGlobals "_law_cell" = some (some (.ref f5))) (l5 : K.lookup f5 = some ⟨oc5, od5, .func (PySem.W.fnOf "_law_cell" "_law_cell" (defArgs s_law_cell) (defBody s_law_cell) (defScope s_law_cell) .none kV5 dc5 pm5 an5 cd5 ct5), sl5⟩) (c5 : PySem.W.codeIn K cd5 "_law_cell" = true) (k5 : PySem.W.keepIn K (.ref f5) = true)
    {f6 : Addr} {od6 an6 : Option Addr} {sl6 : Array (Option Value)} {oc6 dc6 pm6 cd6 ct6 : Value}
    {kV6 : Value}
    (a6 : PySem.W.nsIn K mainGlobals "_law_draw" = some (some (.ref f6))) (l6 : K.lookup f6 = some ⟨oc6, od6, .func (PySem.W.fnOf "_law_draw" "_law_draw" (defArgs s_law_draw) (defBody s_law_draw) (defScope s_law_draw) .none kV6 dc6 pm6 an6 cd6 ct6), sl6⟩) (c6 : PySem.W.codeIn K cd6 "_law_draw" = true) (k6 : PySem.W.keepIn K (.ref f6) = true)
    {f7 : Addr} {od7 an7 : Option Addr} {sl7 : Array (Option Value)} {oc7 dc7 pm7 cd7 ct7 : Value}
    {kV7 : Value}
    (a7 : PySem.W.nsIn K mainGlobals "_law_forms" = some (some (.ref f7))) (l7 : K.lookup f7 = some ⟨oc7, od7, .func (PySem.W.fnOf "_law_forms" "_law_forms" (defArgs s_law_forms) (defBody s_law_forms) (defScope s_law_forms) .none kV7 dc7 pm7 an7 cd7 ct7), sl7⟩) (c7 : PySem.W.codeIn K cd7 "_law_forms" = true) (k7 : PySem.W.keepIn K (.ref f7) = true)
    {f8 : Addr} {od8 an8 : Option Addr} {sl8 : Array (Option Value)} {oc8 dc8 pm8 cd8 ct8 : Value}
    {kV8 : Value}
    (a8 : PySem.W.nsIn K mainGlobals "_law_due" = some (some (.ref f8))) (l8 : K.lookup f8 = some ⟨oc8, od8, .func (PySem.W.fnOf "_law_due" "_law_due" (defArgs s_law_due) (defBody s_law_due) (defScope s_law_due) .none kV8 dc8 pm8 an8 cd8 ct8), sl8⟩) (c8 : PySem.W.codeIn K cd8 "_law_due" = true) (k8 : PySem.W.keepIn K (.ref f8) = true)
    {f9 : Addr} {od9 an9 : Option Addr} {sl9 : Array (Option Value)} {oc9 dc9 pm9 cd9 ct9 : Value}
    {kV9 : Value}
    (a9 : PySem.W.findIn K (.ref C_Table) "put" = some (some (.ref f9))) (i9 : PySem.W.isFn K (.ref f9) = true) (l9 : K.lookup f9 = some ⟨oc9, od9, .func (PySem.W.fnOf "put" "Table.put" (defArgs s_Table_put) (defBody s_Table_put) (defScope s_Table_put) .none kV9 dc9 pm9 an9 cd9 ct9), sl9⟩) (c9 : PySem.W.codeIn K cd9 "Table.put" = true) (k9 : PySem.W.keepIn K (.ref f9) = true)
    {f10 : Addr} {od10 an10 : Option Addr} {sl10 : Array (Option Value)} {oc10 dc10 pm10 cd10 ct10 : Value}
    {kV10 : Value}
    (a10 : PySem.W.findIn K (.ref C_Table) "drop" = some (some (.ref f10))) (i10 : PySem.W.isFn K (.ref f10) = true) (l10 : K.lookup f10 = some ⟨oc10, od10, .func (PySem.W.fnOf "drop" "Table.drop" (defArgs s_Table_drop) (defBody s_Table_drop) (defScope s_Table_drop) .none kV10 dc10 pm10 an10 cd10 ct10), sl10⟩) (c10 : PySem.W.codeIn K cd10 "Table.drop" = true) (k10 : PySem.W.keepIn K (.ref f10) = true)
    {f11 : Addr} {od11 an11 : Option Addr} {sl11 : Array (Option Value)} {oc11 dc11 pm11 cd11 ct11 : Value}
    {kV11 : Value}
    (a11 : PySem.W.nsIn K mainGlobals "_law_flow" = some (some (.ref f11))) (l11 : K.lookup f11 = some ⟨oc11, od11, .func (PySem.W.fnOf "_law_flow" "_law_flow" (defArgs s_law_flow) (defBody s_law_flow) (defScope s_law_flow) .none kV11 dc11 pm11 an11 cd11 ct11), sl11⟩) (c11 : PySem.W.codeIn K cd11 "_law_flow" = true) (k11 : PySem.W.keepIn K (.ref f11) = true)
    {f12 : Addr} {od12 an12 : Option Addr} {sl12 : Array (Option Value)} {oc12 dc12 pm12 cd12 ct12 : Value}
    {kV12 : Value}
    (a12 : PySem.W.nsIn K mainGlobals "_law_names" = some (some (.ref f12))) (l12 : K.lookup f12 = some ⟨oc12, od12, .func (PySem.W.fnOf "_law_names" "_law_names" (defArgs s_law_names) (defBody s_law_names) (defScope s_law_names) .none kV12 dc12 pm12 an12 cd12 ct12), sl12⟩) (c12 : PySem.W.codeIn K cd12 "_law_names" = true) (k12 : PySem.W.keepIn K (.ref f12) = true)
    {f13 : Addr} {od13 an13 : Option Addr} {sl13 : Array (Option Value)} {oc13 dc13 pm13 cd13 ct13 : Value}
    {kV13 : Value}
    (a13 : PySem.W.nsIn K mainGlobals "_law_number" = some (some (.ref f13))) (l13 : K.lookup f13 = some ⟨oc13, od13, .func (PySem.W.fnOf "_law_number" "_law_number" (defArgs s_law_number) (defBody s_law_number) (defScope s_law_number) .none kV13 dc13 pm13 an13 cd13 ct13), sl13⟩) (c13 : PySem.W.codeIn K cd13 "_law_number" = true) (k13 : PySem.W.keepIn K (.ref f13) = true)
    {f14 : Addr} {od14 an14 : Option Addr} {sl14 : Array (Option Value)} {oc14 dc14 pm14 cd14 ct14 : Value}
    {kV14 : Value}
    (a14 : PySem.W.nsIn K mainGlobals "_law_mixed" = some (some (.ref f14))) (l14 : K.lookup f14 = some ⟨oc14, od14, .func (PySem.W.fnOf "_law_mixed" "_law_mixed" (defArgs s_law_mixed) (defBody s_law_mixed) (defScope s_law_mixed) .none kV14 dc14 pm14 an14 cd14 ct14), sl14⟩) (c14 : PySem.W.codeIn K cd14 "_law_mixed" = true) (k14 : PySem.W.keepIn K (.ref f14) = true)
    {f15 : Addr} {od15 an15 : Option Addr} {sl15 : Array (Option Value)} {oc15 dc15 pm15 cd15 ct15 : Value}
    {kV15 : Value}
    (a15 : PySem.W.nsIn K mainGlobals "_law_new_ask" = some (some (.ref f15))) (l15 : K.lookup f15 = some ⟨oc15, od15, .func (PySem.W.fnOf "_law_new_ask" "_law_new_ask" (defArgs s_law_new_ask) (defBody s_law_new_ask) (defScope s_law_new_ask) .none kV15 dc15 pm15 an15 cd15 ct15), sl15⟩) (c15 : PySem.W.codeIn K cd15 "_law_new_ask" = true) (k15 : PySem.W.keepIn K (.ref f15) = true)
    {f16 : Addr} {od16 an16 : Option Addr} {sl16 : Array (Option Value)} {oc16 dc16 pm16 cd16 ct16 : Value}
    {kV16 : Value}
    (a16 : PySem.W.nsIn K mainGlobals "replayed" = some (some (.ref f16))) (l16 : K.lookup f16 = some ⟨oc16, od16, .func (PySem.W.fnOf "replayed" "replayed" (defArgs s_replayed) (defBody s_replayed) (defScope s_replayed) .none kV16 dc16 pm16 an16 cd16 ct16), sl16⟩) (c16 : PySem.W.codeIn K cd16 "replayed" = true) (k16 : PySem.W.keepIn K (.ref f16) = true)
    {f17 : Addr} {od17 an17 : Option Addr} {sl17 : Array (Option Value)} {oc17 dc17 pm17 cd17 ct17 : Value}
    {kV17 : Value}
    (a17 : PySem.W.nsIn K mainGlobals "_law_rights" = some (some (.ref f17))) (l17 : K.lookup f17 = some ⟨oc17, od17, .func (PySem.W.fnOf "_law_rights" "_law_rights" (defArgs s_law_rights) (defBody s_law_rights) (defScope s_law_rights) .none kV17 dc17 pm17 an17 cd17 ct17), sl17⟩) (c17 : PySem.W.codeIn K cd17 "_law_rights" = true) (k17 : PySem.W.keepIn K (.ref f17) = true)
    {f18 : Addr} {od18 an18 : Option Addr} {sl18 : Array (Option Value)} {oc18 dc18 pm18 cd18 ct18 : Value}
    {kV18 : Value}
    (a18 : PySem.W.nsIn K mainGlobals "_law_world" = some (some (.ref f18))) (l18 : K.lookup f18 = some ⟨oc18, od18, .func (PySem.W.fnOf "_law_world" "_law_world" (defArgs s_law_world) (defBody s_law_world) (defScope s_law_world) .none kV18 dc18 pm18 an18 cd18 ct18), sl18⟩) (c18 : PySem.W.codeIn K cd18 "_law_world" = true) (k18 : PySem.W.keepIn K (.ref f18) = true)
    {f19 : Addr} {od19 an19 : Option Addr} {sl19 : Array (Option Value)} {oc19 dc19 pm19 cd19 ct19 : Value}
    {kV19 : Value}
    (a19 : PySem.W.nsIn K mainGlobals "table" = some (some (.ref f19))) (l19 : K.lookup f19 = some ⟨oc19, od19, .func (PySem.W.fnOf "table" "table" (defArgs s_table) (defBody s_table) (defScope s_table) .none kV19 dc19 pm19 an19 cd19 ct19), sl19⟩) (c19 : PySem.W.codeIn K cd19 "table" = true) (k19 : PySem.W.keepIn K (.ref f19) = true)
    {f20 : Addr} {od20 an20 : Option Addr} {sl20 : Array (Option Value)} {oc20 dc20 pm20 cd20 ct20 : Value}
    {kV20 : Value}
    (a20 : PySem.W.nsIn K mainGlobals "_law_put_row" = some (some (.ref f20))) (l20 : K.lookup f20 = some ⟨oc20, od20, .func (PySem.W.fnOf "_law_put_row" "_law_put_row" (defArgs s_law_put_row) (defBody s_law_put_row) (defScope s_law_put_row) .none kV20 dc20 pm20 an20 cd20 ct20), sl20⟩) (c20 : PySem.W.codeIn K cd20 "_law_put_row" = true) (k20 : PySem.W.keepIn K (.ref f20) = true)
    {f21 : Addr} {od21 an21 : Option Addr} {sl21 : Array (Option Value)} {oc21 dc21 pm21 cd21 ct21 : Value}
    {kV21 : Value}
    (a21 : PySem.W.nsIn K mainGlobals "_law_grant_row" = some (some (.ref f21))) (l21 : K.lookup f21 = some ⟨oc21, od21, .func (PySem.W.fnOf "_law_grant_row" "_law_grant_row" (defArgs s_law_grant_row) (defBody s_law_grant_row) (defScope s_law_grant_row) .none kV21 dc21 pm21 an21 cd21 ct21), sl21⟩) (c21 : PySem.W.codeIn K cd21 "_law_grant_row" = true) (k21 : PySem.W.keepIn K (.ref f21) = true)
    {f22 : Addr} {od22 an22 : Option Addr} {sl22 : Array (Option Value)} {oc22 dc22 pm22 cd22 ct22 : Value}
    {kV22 : Value}
    (a22 : PySem.W.nsIn K mainGlobals "_law_part" = some (some (.ref f22))) (l22 : K.lookup f22 = some ⟨oc22, od22, .func (PySem.W.fnOf "_law_part" "_law_part" (defArgs s_law_part) (defBody s_law_part) (defScope s_law_part) .none kV22 dc22 pm22 an22 cd22 ct22), sl22⟩) (c22 : PySem.W.codeIn K cd22 "_law_part" = true) (k22 : PySem.W.keepIn K (.ref f22) = true)
    {f23 : Addr} {od23 an23 : Option Addr} {sl23 : Array (Option Value)} {oc23 dc23 pm23 cd23 ct23 : Value}
    {kV23 : Value}
    (a23 : PySem.W.nsIn K mainGlobals "_law_deed_row" = some (some (.ref f23))) (l23 : K.lookup f23 = some ⟨oc23, od23, .func (PySem.W.fnOf "_law_deed_row" "_law_deed_row" (defArgs s_law_deed_row) (defBody s_law_deed_row) (defScope s_law_deed_row) .none kV23 dc23 pm23 an23 cd23 ct23), sl23⟩) (c23 : PySem.W.codeIn K cd23 "_law_deed_row" = true) (k23 : PySem.W.keepIn K (.ref f23) = true)
    {f24 : Addr} {od24 an24 : Option Addr} {sl24 : Array (Option Value)} {oc24 dc24 pm24 cd24 ct24 : Value}
    {kV24 : Value}
    (a24 : PySem.W.nsIn K mainGlobals "_law_own_row" = some (some (.ref f24))) (l24 : K.lookup f24 = some ⟨oc24, od24, .func (PySem.W.fnOf "_law_own_row" "_law_own_row" (defArgs s_law_own_row) (defBody s_law_own_row) (defScope s_law_own_row) .none kV24 dc24 pm24 an24 cd24 ct24), sl24⟩) (c24 : PySem.W.codeIn K cd24 "_law_own_row" = true) (k24 : PySem.W.keepIn K (.ref f24) = true)
    {f25 : Addr} {od25 an25 : Option Addr} {sl25 : Array (Option Value)} {oc25 dc25 pm25 cd25 ct25 : Value}
    {kV25 : Value}
    (a25 : PySem.W.nsIn K mainGlobals "_law_said_row" = some (some (.ref f25))) (l25 : K.lookup f25 = some ⟨oc25, od25, .func (PySem.W.fnOf "_law_said_row" "_law_said_row" (defArgs s_law_said_row) (defBody s_law_said_row) (defScope s_law_said_row) .none kV25 dc25 pm25 an25 cd25 ct25), sl25⟩) (c25 : PySem.W.codeIn K cd25 "_law_said_row" = true) (k25 : PySem.W.keepIn K (.ref f25) = true)
    {f26 : Addr} {od26 an26 : Option Addr} {sl26 : Array (Option Value)} {oc26 dc26 pm26 cd26 ct26 : Value}
    {kV26 : Value}
    (a26 : PySem.W.nsIn K mainGlobals "_law_grown" = some (some (.ref f26))) (l26 : K.lookup f26 = some ⟨oc26, od26, .func (PySem.W.fnOf "_law_grown" "_law_grown" (defArgs s_law_grown) (defBody s_law_grown) (defScope s_law_grown) .none kV26 dc26 pm26 an26 cd26 ct26), sl26⟩) (c26 : PySem.W.codeIn K cd26 "_law_grown" = true) (k26 : PySem.W.keepIn K (.ref f26) = true)
    {f27 : Addr} {od27 an27 : Option Addr} {sl27 : Array (Option Value)} {oc27 dc27 pm27 cd27 ct27 : Value}
    {kV27 : Value}
    (a27 : PySem.W.nsIn K mainGlobals "_law_history" = some (some (.ref f27))) (l27 : K.lookup f27 = some ⟨oc27, od27, .func (PySem.W.fnOf "_law_history" "_law_history" (defArgs s_law_history) (defBody s_law_history) (defScope s_law_history) .none kV27 dc27 pm27 an27 cd27 ct27), sl27⟩) (c27 : PySem.W.codeIn K cd27 "_law_history" = true) (k27 : PySem.W.keepIn K (.ref f27) = true)
    {f28 : Addr} {od28 an28 : Option Addr} {sl28 : Array (Option Value)} {oc28 dc28 pm28 cd28 ct28 : Value}
    {kV28 : Value}
    (a28 : PySem.W.nsIn K mainGlobals "law" = some (some (.ref f28))) (l28 : K.lookup f28 = some ⟨oc28, od28, .func (PySem.W.fnOf "law" "law" (defArgs s_law) (defBody s_law) (defScope s_law) .none kV28 dc28 pm28 an28 cd28 ct28), sl28⟩) (c28 : PySem.W.codeIn K cd28 "law" = true) (k28 : PySem.W.keepIn K (.ref f28) = true)
    (aC_Table : PySem.W.nsIn K mainGlobals "Table" = some (some (.ref C_Table))) (pg_Table : PySem.W.plainGet K C_Table Str.empty = true) (hd_Table : PySem.W.hasDictIn K C_Table = true) (po_Table : PySem.W.plainOver K C_Table = true) (sa_Table : PySem.W.findIn K (.ref C_Table) "__setattr__" = some (some (.builtin "object.__setattr__"))) (mk_Table : PySem.W.makesIn K C_Table = true) (kc_Table : PySem.W.keepIn K (.ref C_Table) = true)
    (nf_Table_used : PySem.W.findIn K (.ref C_Table) "used" = some none)
    (nf_Table_there : PySem.W.findIn K (.ref C_Table) "there" = some none)
    (nf_Table_known : PySem.W.findIn K (.ref C_Table) "known" = some none)
    (z_enumerate : PySem.W.nsIn K mainGlobals "enumerate" = some none)
    (z_isinstance : PySem.W.nsIn K mainGlobals "isinstance" = some none)
    (z_len : PySem.W.nsIn K mainGlobals "len" = some none)
    (z_list : PySem.W.nsIn K mainGlobals "list" = some none)
    (z_max : PySem.W.nsIn K mainGlobals "max" = some none)
    (z_min : PySem.W.nsIn K mainGlobals "min" = some none)
    (z_range : PySem.W.nsIn K mainGlobals "range" = some none)
    (z_repr : PySem.W.nsIn K mainGlobals "repr" = some none)
    (z_sorted : PySem.W.nsIn K mainGlobals "sorted" = some none)
    (z_tuple : PySem.W.nsIn K mainGlobals "tuple" = some none) :
    ∃ fd : FuncData, (∀ (s : Shared) (v : Value), BindsTo s fd ⟨[v], []⟩ [("_law_script", v)]) ∧ ∀ base : Heap, K.In base → base.Ns mainGlobals mg → FnG l.prog w K mg base CX0 40 fa fd ["_law_script"] (fun vs H Q E => ∀ cl, spOf ⟨K, cl, w⟩ 1 g_law vs H Q E) := by
  have e := hfa.symm.trans (PySem.W.mg_of X G a28)
  cases e
  have F0 := fun_mk (st := s_Table___init__) l0 c0 k0
  have F1 := fun_mk (st := s_Table_free_place) l1 c1 k1
  have F2 := fun_mk (st := s_Table_leads) l2 c2 k2
  have F3 := fun_mk (st := s_Table_handles) l3 c3 k3
  have F4 := fun_mk (st := s_ever) l4 c4 k4
  have F5 := fun_mk (st := s_law_cell) l5 c5 k5
  have F6 := fun_mk (st := s_law_draw) l6 c6 k6
  have F7 := fun_mk (st := s_law_forms) l7 c7 k7
  have F8 := fun_mk (st := s_law_due) l8 c8 k8
  have F9 := fun_mk (st := s_Table_put) l9 c9 k9
  have F10 := fun_mk (st := s_Table_drop) l10 c10 k10
  have F11 := fun_mk (st := s_law_flow) l11 c11 k11
  have F12 := fun_mk (st := s_law_names) l12 c12 k12
  have F13 := fun_mk (st := s_law_number) l13 c13 k13
  have F14 := fun_mk (st := s_law_mixed) l14 c14 k14
  have F15 := fun_mk (st := s_law_new_ask) l15 c15 k15
  have F16 := fun_mk (st := s_replayed) l16 c16 k16
  have F17 := fun_mk (st := s_law_rights) l17 c17 k17
  have F18 := fun_mk (st := s_law_world) l18 c18 k18
  have F19 := fun_mk (st := s_table) l19 c19 k19
  have F20 := fun_mk (st := s_law_put_row) l20 c20 k20
  have F21 := fun_mk (st := s_law_grant_row) l21 c21 k21
  have F22 := fun_mk (st := s_law_part) l22 c22 k22
  have F23 := fun_mk (st := s_law_deed_row) l23 c23 k23
  have F24 := fun_mk (st := s_law_own_row) l24 c24 k24
  have F25 := fun_mk (st := s_law_said_row) l25 c25 k25
  have F26 := fun_mk (st := s_law_grown) l26 c26 k26
  have F27 := fun_mk (st := s_law_history) l27 c27 k27
  have F28 := fun_mk (st := s_law) l28 c28 k28
  let T : Tx K mg (fun i => if i = 0 then C_Table else (fun _ => 0) i) := { a_Table___init__ := _, d_Table___init__ := _, f_Table___init__ := F0, b_Table___init__ := F0.binds (ps := ["self"]) (fun _ _ _ _ _ _ us hl => (match us, hl with | [_], _ => rfl)), a_Table_free_place := _, d_Table_free_place := _, f_Table_free_place := F1, me_Table_free_place := ⟨a1, i1, k1⟩, b_Table_free_place := F1.binds (ps := ["self"]) (fun _ _ _ _ _ _ us hl => (match us, hl with | [_], _ => rfl)), a_Table_leads := _, d_Table_leads := _, f_Table_leads := F2, me_Table_leads := ⟨a2, i2, k2⟩, b_Table_leads := F2.binds (ps := ["self", "handle"]) (fun _ _ _ _ _ _ us hl => (match us, hl with | [_, _], _ => rfl)), a_Table_handles := _, d_Table_handles := _, f_Table_handles := F3, me_Table_handles := ⟨a3, i3, k3⟩, b_Table_handles := F3.binds (ps := ["self"]) (fun _ _ _ _ _ _ us hl => (match us, hl with | [_], _ => rfl)), a_ever := _, d_ever := _, f_ever := F4, m_ever := PySem.W.mg_of X G a4, b_ever := F4.binds (ps := ["rows", "being"]) (fun _ _ _ _ _ _ us hl => (match us, hl with | [_, _], _ => rfl)), a_law_cell := _, d_law_cell := _, f_law_cell := F5, m_law_cell := PySem.W.mg_of X G a5, b_law_cell := F5.binds (ps := ["_law_script", "_law_k"]) (fun _ _ _ _ _ _ us hl => (match us, hl with | [_, _], _ => rfl)), a_law_draw := _, d_law_draw := _, f_law_draw := F6, m_law_draw := PySem.W.mg_of X G a6, b_law_draw := F6.binds (ps := ["_law_flow_here", "_law_wide"]) (fun _ _ _ _ _ _ us hl => (match us, hl with | [_, _], _ => rfl)), a_law_forms := _, d_law_forms := _, f_law_forms := F7, m_law_forms := PySem.W.mg_of X G a7, b_law_forms := F7.binds (ps := []) (fun _ _ _ _ _ _ us hl => (match us, hl with | [], _ => rfl)), a_law_due := _, d_law_due := _, f_law_due := F8, m_law_due := PySem.W.mg_of X G a8, b_law_due := F8.binds (ps := ["_law_lines", "_law_being"]) (fun _ _ _ _ _ _ us hl => (match us, hl with | [_, _], _ => rfl)), a_Table_put := _, d_Table_put := _, f_Table_put := F9, me_Table_put := ⟨a9, i9, k9⟩, b_Table_put := F9.binds (ps := ["self", "house", "number"]) (fun _ _ _ _ _ _ us hl => (match us, hl with | [_, _, _], _ => rfl)), a_Table_drop := _, d_Table_drop := _, f_Table_drop := F10, me_Table_drop := ⟨a10, i10, k10⟩, b_Table_drop := F10.binds (ps := ["self", "handle"]) (fun _ _ _ _ _ _ us hl => (match us, hl with | [_, _], _ => rfl)), a_law_flow := _, d_law_flow := _, f_law_flow := F11, m_law_flow := PySem.W.mg_of X G a11, b_law_flow := F11.binds (ps := ["_law_script", "_law_k"]) (fun _ _ _ _ _ _ us hl => (match us, hl with | [_, _], _ => rfl)), a_law_names := _, d_law_names := _, f_law_names := F12, m_law_names := PySem.W.mg_of X G a12, b_law_names := F12.binds (ps := ["_law_flow_here", "_law_size"]) (fun _ _ _ _ _ _ us hl => (match us, hl with | [_, _], _ => rfl)), a_law_number := _, d_law_number := _, f_law_number := F13, m_law_number := PySem.W.mg_of X G a13, b_law_number := F13.binds (ps := ["_law_flow_here"]) (fun _ _ _ _ _ _ us hl => (match us, hl with | [_], _ => rfl)), a_law_mixed := _, d_law_mixed := _, f_law_mixed := F14, m_law_mixed := PySem.W.mg_of X G a14, b_law_mixed := F14.binds (ps := ["_law_flow_here", "_law_some"]) (fun _ _ _ _ _ _ us hl => (match us, hl with | [_, _], _ => rfl)), a_law_new_ask := _, d_law_new_ask := _, f_law_new_ask := F15, m_law_new_ask := PySem.W.mg_of X G a15, b_law_new_ask := F15.binds (ps := ["_law_flow_here", "_law_world_here"]) (fun _ _ _ _ _ _ us hl => (match us, hl with | [_, _], _ => rfl)), a_replayed := _, d_replayed := _, f_replayed := F16, m_replayed := PySem.W.mg_of X G a16, b_replayed := F16.binds (ps := ["rows", "being"]) (fun _ _ _ _ _ _ us hl => (match us, hl with | [_, _], _ => rfl)), a_law_rights := _, d_law_rights := _, f_law_rights := F17, m_law_rights := PySem.W.mg_of X G a17, b_law_rights := F17.binds (ps := ["_law_flow_here", "_law_names_here"]) (fun _ _ _ _ _ _ us hl => (match us, hl with | [_, _], _ => rfl)), a_law_world := _, d_law_world := _, f_law_world := F18, m_law_world := PySem.W.mg_of X G a18, b_law_world := F18.binds (ps := ["_law_flow_here"]) (fun _ _ _ _ _ _ us hl => (match us, hl with | [_], _ => rfl)), a_table := _, d_table := _, f_table := F19, m_table := PySem.W.mg_of X G a19, b_table := F19.binds (ps := ["rows", "being"]) (fun _ _ _ _ _ _ us hl => (match us, hl with | [_, _], _ => rfl)), a_law_put_row := _, d_law_put_row := _, f_law_put_row := F20, m_law_put_row := PySem.W.mg_of X G a20, b_law_put_row := F20.binds (ps := ["_law_flow_here", "_law_world_here", "_law_being", "_law_ask"]) (fun _ _ _ _ _ _ us hl => (match us, hl with | [_, _, _, _], _ => rfl)), a_law_grant_row := _, d_law_grant_row := _, f_law_grant_row := F21, m_law_grant_row := PySem.W.mg_of X G a21, b_law_grant_row := F21.binds (ps := ["_law_flow_here", "_law_world_here", "_law_ask"]) (fun _ _ _ _ _ _ us hl => (match us, hl with | [_, _, _], _ => rfl)), a_law_part := _, d_law_part := _, f_law_part := F22, m_law_part := PySem.W.mg_of X G a22, b_law_part := F22.binds (ps := ["_law_flow_here", "_law_names_here", "_law_form"]) (fun _ _ _ _ _ _ us hl => (match us, hl with | [_, _, _], _ => rfl)), a_law_deed_row := _, d_law_deed_row := _, f_law_deed_row := F23, m_law_deed_row := PySem.W.mg_of X G a23, b_law_deed_row := F23.binds (ps := ["_law_flow_here", "_law_world_here", "_law_by", "_law_ask"]) (fun _ _ _ _ _ _ us hl => (match us, hl with | [_, _, _, _], _ => rfl)), a_law_own_row := _, d_law_own_row := _, f_law_own_row := F24, m_law_own_row := PySem.W.mg_of X G a24, b_law_own_row := F24.binds (ps := ["_law_flow_here", "_law_world_here", "_law_form"]) (fun _ _ _ _ _ _ us hl => (match us, hl with | [_, _, _], _ => rfl)), a_law_said_row := _, d_law_said_row := _, f_law_said_row := F25, m_law_said_row := PySem.W.mg_of X G a25, b_law_said_row := F25.binds (ps := ["_law_flow_here", "_law_world_here", "_law_form"]) (fun _ _ _ _ _ _ us hl => (match us, hl with | [_, _, _], _ => rfl)), a_law_grown := _, d_law_grown := _, f_law_grown := F26, m_law_grown := PySem.W.mg_of X G a26, b_law_grown := F26.binds (ps := ["_law_flow_here", "_law_world_here", "_law_size"]) (fun _ _ _ _ _ _ us hl => (match us, hl with | [_, _, _], _ => rfl)), a_law_history := _, d_law_history := _, f_law_history := F27, m_law_history := PySem.W.mg_of X G a27, b_law_history := F27.binds (ps := ["_law_flow_here", "_law_size"]) (fun _ _ _ _ _ _ us hl => (match us, hl with | [_, _], _ => rfl)), a_law := _, d_law := _, f_law := F28, m_law := PySem.W.mg_of X G a28, b_law := F28.binds (ps := ["_law_script"]) (fun _ _ _ _ _ _ us hl => (match us, hl with | [_], _ => rfl)), cls_Table := ⟨pg_Table, hd_Table, po_Table, sa_Table⟩, c_Table := PySem.W.mg_of X G aC_Table, mk_Table := ⟨mk_Table, a0, i0, kc_Table⟩, na_Table_used := nf_Table_used, na_Table_there := nf_Table_there, na_Table_known := nf_Table_known, n_enumerate := PySem.W.mg_none_of X G z_enumerate, n_isinstance := PySem.W.mg_none_of X G z_isinstance, n_len := PySem.W.mg_none_of X G z_len, n_list := PySem.W.mg_none_of X G z_list, n_max := PySem.W.mg_none_of X G z_max, n_min := PySem.W.mg_none_of X G z_min, n_range := PySem.W.mg_none_of X G z_range, n_repr := PySem.W.mg_none_of X G z_repr, n_sorted := PySem.W.mg_none_of X G z_sorted, n_tuple := PySem.W.mg_none_of X G z_tuple }
  exact ⟨_, fun s v => .of_eq rfl, fun base _ _ => (ok_law T).imp fun vs H Q E h => h _⟩
end K21
open PySem PySem.W PyProof.Rows
set_option maxHeartbeats 0 in
theorem PySem.Challenge.cw_grantchain_k21_tables_by_rows_holds : PySem.Challenge.rw_grantchain_k21_tables_by_rows.Holds := by
  w_on; o_law; k_head; (case hw => w_witness2)
  k_fill
  refine Fn.walk_ofG (l := PySem.Challenge.rw_grantchain_k21_tables_by_rows) (n := 63) (k := 40) (x := "_law_script") (CX := fun _ => L2.CX0) (sp := fun w vs H Q E => ∀ cl, Fn.spOf ⟨_, cl, w⟩ 1 K21.g_law vs H Q E) rfl (by decide) rfl ⟨rfl, by decide, by decide⟩ (fun w h Y => PySem.W.kIn_of Y) ?F (fun w H a ns hl ho hS cl => Fn.law_end K21.law_holds hl ho hS) (fun _ _ _ _ _ h => h)
  case F =>
    intro w mg fa h KX G hmg
    refine' K21.all_mk KX G hmg ?a0 ?i0 ?l0 ?c0 ?k0 ?a1 ?i1 ?l1 ?c1 ?k1 ?a2 ?i2 ?l2 ?c2 ?k2 ?a3 ?i3 ?l3 ?c3 ?k3 ?a4 ?l4 ?c4 ?k4 ?a5 ?l5 ?c5 ?k5 ?a6 ?l6 ?c6 ?k6 ?a7 ?l7 ?c7 ?k7 ?a8 ?l8 ?c8 ?k8 ?a9 ?i9 ?l9 ?c9 ?k9 ?a10 ?i10 ?l10 ?c10 ?k10 ?a11 ?l11 ?c11 ?k11 ?a12 ?l12 ?c12 ?k12 ?a13 ?l13 ?c13 ?k13 ?a14 ?l14 ?c14 ?k14 ?a15 ?l15 ?c15 ?k15 ?a16 ?l16 ?c16 ?k16 ?a17 ?l17 ?c17 ?k17 ?a18 ?l18 ?c18 ?k18 ?a19 ?l19 ?c19 ?k19 ?a20 ?l20 ?c20 ?k20 ?a21 ?l21 ?c21 ?k21 ?a22 ?l22 ?c22 ?k22 ?a23 ?l23 ?c23 ?k23 ?a24 ?l24 ?c24 ?k24 ?a25 ?l25 ?c25 ?k25 ?a26 ?l26 ?c26 ?k26 ?a27 ?l27 ?c27 ?k27 ?a28 ?l28 ?c28 ?k28 ?aC_Table ?pg_Table ?hd_Table ?po_Table ?sa_Table ?mk_Table ?kc_Table ?nf_Table_used ?nf_Table_there ?nf_Table_known ?z_enumerate ?z_isinstance ?z_len ?z_list ?z_max ?z_min ?z_range ?z_repr ?z_sorted ?z_tuple
    (case aC_Table => k_is); (case a0 => k_is); (case i0 => k_is); (case l0 => k_is); (case c0 => k_is); (case k0 => k_is); (case a1 => k_is); (case i1 => k_is); (case l1 => k_is); (case c1 => k_is); (case k1 => k_is); (case a2 => k_is); (case i2 => k_is); (case l2 => k_is); (case c2 => k_is); (case k2 => k_is); (case a3 => k_is); (case i3 => k_is); (case l3 => k_is); (case c3 => k_is); (case k3 => k_is); (case a4 => k_is); (case l4 => k_is); (case c4 => k_is); (case k4 => k_is); (case a5 => k_is); (case l5 => k_is); (case c5 => k_is); (case k5 => k_is); (case a6 => k_is); (case l6 => k_is); (case c6 => k_is); (case k6 => k_is); (case a7 => k_is); (case l7 => k_is); (case c7 => k_is); (case k7 => k_is); (case a8 => k_is); (case l8 => k_is); (case c8 => k_is); (case k8 => k_is); (case a9 => k_is); (case i9 => k_is); (case l9 => k_is); (case c9 => k_is); (case k9 => k_is); (case a10 => k_is); (case i10 => k_is); (case l10 => k_is); (case c10 => k_is); (case k10 => k_is); (case a11 => k_is); (case l11 => k_is); (case c11 => k_is); (case k11 => k_is); (case a12 => k_is); (case l12 => k_is); (case c12 => k_is); (case k12 => k_is); (case a13 => k_is); (case l13 => k_is); (case c13 => k_is); (case k13 => k_is); (case a14 => k_is); (case l14 => k_is); (case c14 => k_is); (case k14 => k_is); (case a15 => k_is); (case l15 => k_is); (case c15 => k_is); (case k15 => k_is); (case a16 => k_is); (case l16 => k_is); (case c16 => k_is); (case k16 => k_is); (case a17 => k_is); (case l17 => k_is); (case c17 => k_is); (case k17 => k_is); (case a18 => k_is); (case l18 => k_is); (case c18 => k_is); (case k18 => k_is); (case a19 => k_is); (case l19 => k_is); (case c19 => k_is); (case k19 => k_is); (case a20 => k_is); (case l20 => k_is); (case c20 => k_is); (case k20 => k_is); (case a21 => k_is); (case l21 => k_is); (case c21 => k_is); (case k21 => k_is); (case a22 => k_is); (case l22 => k_is); (case c22 => k_is); (case k22 => k_is); (case a23 => k_is); (case l23 => k_is); (case c23 => k_is); (case k23 => k_is); (case a24 => k_is); (case l24 => k_is); (case c24 => k_is); (case k24 => k_is); (case a25 => k_is); (case l25 => k_is); (case c25 => k_is); (case k25 => k_is); (case a26 => k_is); (case l26 => k_is); (case c26 => k_is); (case k26 => k_is); (case a27 => k_is); (case l27 => k_is); (case c27 => k_is); (case k27 => k_is); (case a28 => k_is); (case l28 => k_is); (case c28 => k_is); (case k28 => k_is); (case pg_Table => k_is); (case hd_Table => k_is); (case po_Table => k_is); (case sa_Table => k_is); (case mk_Table => k_is); (case kc_Table => k_is); (case nf_Table_used => k_is); (case nf_Table_there => k_is); (case nf_Table_known => k_is); (case z_enumerate => k_is); (case z_isinstance => k_is); (case z_len => k_is); (case z_list => k_is); (case z_max => k_is); (case z_min => k_is); (case z_range => k_is); (case z_repr => k_is); (case z_sorted => k_is); (case z_tuple => k_is)
