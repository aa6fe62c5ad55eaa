import PyProof.Rows.All
import Wide.All
import OpenK.AllK
import Wide.FinOn
import HandS.ForExc
import HandS.ExcInit
import HandS.ExcIs
import HandS.Comp
import HandS.Iter
import HandS.Text
import KE.KDictKeyed
import KE.KDictWalk
import PyProof.DictStraight
import HandS.Defaults
import HandS.MakeKwOnly
import HandS.TupAny
import HandS.TupMul
import HandS.IsInst
import HandS.Strs
import HandS.TupLen
import KE.SortData
import KE.KDictCopyH
import KE.KDictSum
import HandS.DictComp
import HandS.Style
import KE.KEqDict
import KE.KDictPairs
import HandS.Set
import HandS.SetFor
import HandS.Ends
import HandS.EndBits
import HandS.Head0
import HandS.Head1
import HandS.Head2
import HandS.HeadEnd
import HandS.HeadHook1
import HandS.HeadHook2
import HandS.ExcField
import HandS.ExcOwn
import HandS.RaiseMore
import HandS.WordsExc
import PyProof.ZipIter
import PyProof.Rows.ReprOcc
import PySem.Challenge.RW_anystart_k17_errors_apart
set_option Elab.async false
set_option linter.all false
set_option maxRecDepth 100000
set_option maxHeartbeats 4000000
/-! BCore: data as a whole over the hand layer. D: a datum; Rep: it stands at a value in a frozen heap; En: a def's slots and the objects that change; readings of expressions and statements over En, and how they are lowered to the hand layer's. -/
namespace B
open PySem PySem.Spec PyProof.Rows L2

/-- a datum -/
inductive D where
  | non
  | bl (b : Bool)
  | int (i : Int)
  | str (s : Str)
  | ty (n : String)
  | tup (xs : List D)
  | lst (xs : List D)
  | dic (kvs : List (D × D))
  | obj (c : Str) (fs : List (Str × D))
  | ptr (a : Nat)
  /-- an exception that does not fly -/
  | exc (c : Str) (fs : List (Str × D))
  /-- the script -/
  | scr (ns : List Int)

mutual
def D.key : D → Option NestedKey
  | .non => some .none
  | .bl b => some (.num (if b then 1 else 0))
  | .int i => some (.num i)
  | .str s => some (.text s)
  | .tup xs => (D.keyA xs).map .tup
  | .ty _ => none
  | .lst _ => none
  | .dic _ => none
  | .obj _ _ => none
  | .ptr _ => none
  | .exc _ _ => none
  | .scr _ => none
def D.keyA : List D → Option (List NestedKey)
  | [] => some []
  | d :: ds => (D.key d).bind fun k => (D.keyA ds).map fun ks => k :: ks
end

/-- where one stands: the program, the written part, the classes by name -/
structure Lb where
  P : Program
  w : World
  K : PySem.W.Frag
  cl : Str → Addr

/-- an exception that does not fly: its class, its dict -/
def exk (a : Addr) (cls : Value) (d : Option Addr) : HO := .ext fun h => ∃ (oe : Obj) (vs : Array Value), h.get? a = some oe ∧ Zc cls d oe ∧ oe.data = .fields vs
/-- an object, just as it stands -/
def dO (a : Addr) (o : Obj) : HO := .ext fun h => h.get? a = some o
/-- a dict whose keys are tuples -/
def IsDictH (P : Program) (w : World) (o : Obj) (xs : List (NestedKey × Addr × Value)) : Prop :=
  ∃ es ep, o.ExactDict ∧ o.data = .dict es ep ∧ es.toList = xs.map (entryOfKey (nestedKind P w)) ∧ (xs.map (·.1)).Nodup ∧ ∀ x ∈ xs, x.1.depth ≤ 8

mutual
def Rep (L : Lb) (F : Hp) : D → V → Prop
  | .non, v => v = .non
  | .bl b, v => v = .bl b
  | .int i, v => v = .int i
  | .str s, v => v = .str s
  | .ty n, v => v = .ty n
  | .tup xs, v => ∃ a vs, v = .ref a ∧ SqT L.K F a vs ∧ RepA L F xs vs
  | .lst xs, v => ∃ a vs, v = .ref a ∧ F a = some (.lst vs) ∧ RepA L F xs vs
  | .dic kvs, v => ∃ a o, v = .ref a ∧ F a = some (dO a o) ∧ (a == sysModules) = false ∧ kvs.length ≤ sizeLine ∧
      ((∃ us, o.IsDictOf (strKind L.P L.w) us ∧ RepS L F kvs us) ∨ ∃ xs, IsDictH L.P L.w o xs ∧ RepX L F kvs xs)
  | .obj c fs, v => ∃ a dx ws, v = .ref a ∧ F a = some (.ins (L.cl c) dx ws) ∧ RepF L F fs ws
  | .ptr a, v => v = .ref a
  | .exc c fs, v => ∃ a d, v = .ref a ∧ F a = some (exk a (.ref (L.cl c)) d) ∧ ((d = none ∧ fs = []) ∨ ∃ dx ws, d = some dx ∧ F dx = some (.xd ws) ∧ RepF L F fs ws)
  | .scr ns, v => ∃ a, v = .ref a ∧ SqL L.K F a (ns.map V.int)
def RepA (L : Lb) (F : Hp) : List D → List V → Prop
  | [], vs => vs = []
  | d :: ds, vs => ∃ v r, vs = v :: r ∧ Rep L F d v ∧ RepA L F ds r
def RepS (L : Lb) (F : Hp) : List (D × D) → List (Str × Value) → Prop
  | [], us => us = []
  | (k, d) :: r, us => ∃ x u v us', us = (x, u) :: us' ∧ k = .str x ∧ RelV v u ∧ Rep L F d v ∧ RepS L F r us'
def RepX (L : Lb) (F : Hp) : List (D × D) → List (NestedKey × Addr × Value) → Prop
  | [], us => us = []
  | (k, d) :: r, us => ∃ nk ka u v us', us = (nk, ka, u) :: us' ∧ k.key = some nk ∧ Rep L F k (.ref ka) ∧ RelV v u ∧ Rep L F d v ∧ RepX L F r us'
def RepF (L : Lb) (F : Hp) : List (Str × D) → List (Str × V) → Prop
  | [], ws => ws = []
  | (f, d) :: r, ws => ∃ v ws', ws = (f, v) :: ws' ∧ Rep L F d v ∧ RepF L F r ws'
end

section
variable {L : Lb} {F F' : Hp}
theorem SqTm {K : PySem.W.Frag} {a : Addr} {xs : List V} (e : Same F F') (h : SqT K F a xs) : SqT K F' a xs := by
  rcases h with (h | ⟨o, h⟩) | h
  · exact .inl (.inl (e _ _ h))
  · exact .inl (.inr ⟨o, e _ _ h⟩)
  · exact .inr h
mutual
theorem Rep.mono (s : Same F F') : ∀ (d : D) (v : V), Rep L F d v → Rep L F' d v
  | .non, v, h => by rw [Rep] at h ⊢; exact h
  | .bl b, v, h => by rw [Rep] at h ⊢; exact h
  | .int b, v, h => by rw [Rep] at h ⊢; exact h
  | .str b, v, h => by rw [Rep] at h ⊢; exact h
  | .ty b, v, h => by rw [Rep] at h ⊢; exact h
  | .ptr b, v, h => by rw [Rep] at h ⊢; exact h
  | .scr b, v, h => by
    rw [Rep] at h ⊢
    obtain ⟨a, e, q⟩ := h
    exact ⟨a, e, s.seq q⟩
  | .exc c fs, v, h => by
    rw [Rep] at h ⊢
    obtain ⟨a, d, e, q, r⟩ := h
    refine ⟨a, d, e, s _ _ q, ?_⟩
    rcases r with r | ⟨dx, ws, r1, r2, r3⟩
    · exact .inl r
    · exact .inr ⟨dx, ws, r1, s _ _ r2, RepF.mono s fs ws r3⟩
  | .tup xs, v, h => by
    rw [Rep] at h ⊢
    obtain ⟨a, vs, e, q, r⟩ := h
    exact ⟨a, vs, e, SqTm s q, RepA.mono s xs vs r⟩
  | .lst xs, v, h => by
    rw [Rep] at h ⊢
    obtain ⟨a, vs, e, q, r⟩ := h
    exact ⟨a, vs, e, s _ _ q, RepA.mono s xs vs r⟩
  | .dic kvs, v, h => by
    rw [Rep] at h ⊢
    obtain ⟨a, o, e, q, z, l, r⟩ := h
    refine ⟨a, o, e, s _ _ q, z, l, ?_⟩
    rcases r with ⟨us, r1, r2⟩ | ⟨xs, r1, r2⟩
    · exact .inl ⟨us, r1, RepS.mono s kvs us r2⟩
    · exact .inr ⟨xs, r1, RepX.mono s kvs xs r2⟩
  | .obj c fs, v, h => by
    rw [Rep] at h ⊢
    obtain ⟨a, dx, ws, e, q, r⟩ := h
    exact ⟨a, dx, ws, e, s _ _ q, RepF.mono s fs ws r⟩
theorem RepA.mono (s : Same F F') : ∀ (ds : List D) (vs : List V), RepA L F ds vs → RepA L F' ds vs
  | [], vs, h => by rw [RepA] at h ⊢; exact h
  | d :: ds, vs, h => by
    rw [RepA] at h ⊢
    obtain ⟨v, r, e, h1, h2⟩ := h
    exact ⟨v, r, e, Rep.mono s d v h1, RepA.mono s ds r h2⟩
theorem RepS.mono (s : Same F F') : ∀ (kvs : List (D × D)) (us : List (Str × Value)), RepS L F kvs us → RepS L F' kvs us
  | [], us, h => by rw [RepS] at h ⊢; exact h
  | (k, d) :: r, us, h => by
    rw [RepS] at h ⊢
    obtain ⟨x, u, v, us', e, e2, rv, h1, h2⟩ := h
    exact ⟨x, u, v, us', e, e2, rv, Rep.mono s d v h1, RepS.mono s r us' h2⟩
theorem RepX.mono (s : Same F F') : ∀ (kvs : List (D × D)) (us : List (NestedKey × Addr × Value)), RepX L F kvs us → RepX L F' kvs us
  | [], us, h => by rw [RepX] at h ⊢; exact h
  | (k, d) :: r, us, h => by
    rw [RepX] at h ⊢
    obtain ⟨nk, ka, u, v, us', e, e2, hk, rv, h1, h2⟩ := h
    exact ⟨nk, ka, u, v, us', e, e2, Rep.mono s k _ hk, rv, Rep.mono s d v h1, RepX.mono s r us' h2⟩
theorem RepF.mono (s : Same F F') : ∀ (fs : List (Str × D)) (ws : List (Str × V)), RepF L F fs ws → RepF L F' fs ws
  | [], ws, h => by rw [RepF] at h ⊢; exact h
  | (f, d) :: r, ws, h => by
    rw [RepF] at h ⊢
    obtain ⟨v, ws', e, h1, h2⟩ := h
    exact ⟨v, ws', e, Rep.mono s d v h1, RepF.mono s r ws' h2⟩
end
end

/-! ### slots and changing objects -/
/-- a changing object's content -/
inductive Ob where
  | lst (ds : List D)
  | dic (kvs : List (D × D))
  | ins (c : Str) (fs : List (Str × D))
  /-- the state of the draws: a dict of texts, its great cells at g -/
  | rng (g : Nat)
  /-- a list of numbers that are not negative -/
  | nats
def Ob.d : Ob → D
  | .lst ds => .lst ds
  | .dic kvs => .dic kvs
  | .ins c fs => .obj c fs
  | .rng _ => .non
  | .nats => .non
/-- it can be frozen -/
def Ob.cold : Ob → Bool
  | .lst _ => true
  | .dic _ => true
  | .ins _ _ => true
  | .rng _ => false
  | .nats => false
/-- a slot: not set, a frozen datum, an object of one's own -/
inductive Sl where
  | un
  | fr (d : D)
  | ow (o : Ob)
  /-- an object of one's own that may be read alone (for a while it belongs to what stays) -/
  | rd (o : Ob)
abbrev Mst := List (Nat × Ob)
structure En where
  r : List Sl
  m : Mst

section
variable (L : Lb) (F H : Hp)
def DicR (kvs : List (D × D)) (o : Obj) : Prop :=
  kvs.length ≤ sizeLine ∧ ((∃ us, o.IsDictOf (strKind L.P L.w) us ∧ RepS L F kvs us) ∨ ∃ xs, IsDictH L.P L.w o xs ∧ RepX L F kvs xs)
def ObR : Ob → Addr → Prop
  | .lst ds, p => ∃ vs, H p = some (.lst vs) ∧ RepA L F ds vs
  | .dic kvs, p => ∃ o, H p = some (dO p o) ∧ (p == sysModules) = false ∧ DicR L F kvs o
  | .ins c fs, p => ∃ dx ws, H p = some (.ins (L.cl c) dx ws) ∧ RepF L F fs ws
  | .rng g, p => ∃ (o : Obj) (cs : List Int) (r t : Int), H p = some (dO p o) ∧ (p == sysModules) = false ∧
      DicR L F [(.str "great", .ptr g), (.str "cells", .lst (cs.map D.int)), (.str "rest", .int r), (.str "turn", .int t)] o ∧ (0 : Int) ≤ r
  | .nats, p => ∃ ns : List Int, H p = some (.lst (ns.map V.int)) ∧ ∀ n ∈ ns, (0 : Int) ≤ n
end
/-- what belongs to others and stays; the slots whose objects are held still for a while -/
structure Nh where
  h : Hp
  lk : List (Nat × Addr)
instance : CoeFun Nh fun _ => Addr → Option HO := ⟨Nh.h⟩
structure NOk (K : PySem.W.Frag) (N : Nh) : Prop where
  at_ : ∀ x ∈ N.lk, N x.2 ≠ none
  sm : (∃ (o : Obj) (es : Array DictEntry) (ep : Nat), N sysModules = some (dO sysModules o) ∧ o.data = .dict es ep) ∨ ∃ (o : Obj) (es : Array DictEntry) (ep : Nat), K.lookup sysModules = some o ∧ o.data = .dict es ep
structure Ok (L : Lb) (N : Nh) (F : Hp) (E : En) (σ : L2.St) (H : Hp) : Prop where
  len : E.r.length = σ.length
  sub : Same F H
  fr : ∀ (i : Nat) (d : D), E.r[i]? = some (.fr d) → ∃ v, σ[i]? = some (some v) ∧ Rep L F d v
  ow : ∀ (i : Nat) (o : Ob), E.r[i]? = some (.ow o) → ∃ p, σ[i]? = some (some (.ref p)) ∧ ObR L F H o p ∧ F p = none ∧ N p = none ∧ p ∉ E.m.map (·.1)
  rd : ∀ (i : Nat) (o : Ob), E.r[i]? = some (.rd o) → ∃ p, σ[i]? = some (some (.ref p)) ∧ ObR L F H o p ∧ (i, p) ∈ N.lk
  inj : ∀ (i j : Nat) (o u : Ob) (p : Addr), E.r[i]? = some (.ow o) → E.r[j]? = some (.ow u) → σ[i]? = some (some (.ref p)) → σ[j]? = some (some (.ref p)) → i = j
  mem : ∀ x ∈ E.m, ObR L F H x.2 x.1 ∧ F x.1 = none ∧ N x.1 = none
  mnd : (E.m.map (·.1)).Nodup
  nsub : Same N.h H
  lks : NOk L.K N
  ndis : ∀ a, N a ≠ none → F a = none

section
variable {L : Lb} {N : Nh} {F F' H H' : Hp} {E : En} {σ : L2.St}
theorem DicR.mono {kvs : List (D × D)} {o : Obj} (s : Same F F') (h : DicR L F kvs o) : DicR L F' kvs o := by
  obtain ⟨l, r⟩ := h
  refine ⟨l, ?_⟩
  rcases r with ⟨us, r1, r2⟩ | ⟨xs, r1, r2⟩
  · exact .inl ⟨us, r1, RepS.mono s kvs us r2⟩
  · exact .inr ⟨xs, r1, RepX.mono s kvs xs r2⟩
/-- an object's content stays while it stays and the frozen part grows -/
theorem ObR.mono (s : Same F F') : ∀ {o : Ob} {p : Addr}, (∀ x, H p = some x → H' p = some x) → ObR L F H o p → ObR L F' H' o p
  | .lst ds, p, k, ⟨vs, h, r⟩ => ⟨vs, k _ h, RepA.mono s ds vs r⟩
  | .dic kvs, p, k, ⟨o, h, z, r⟩ => ⟨o, k _ h, z, r.mono s⟩
  | .ins c fs, p, k, ⟨dx, ws, h, r⟩ => ⟨dx, ws, k _ h, RepF.mono s fs ws r⟩
  | .rng g, p, k, ⟨o, cs, r, t, h, z, d, q⟩ => ⟨o, cs, r, t, k _ h, z, d.mono s, q⟩
  | .nats, p, k, ⟨ns, h, q⟩ => ⟨ns, k _ h, q⟩
theorem ObR.there : ∀ {o : Ob} {p : Addr}, ObR L F H o p → ∃ x, H p = some x
  | .lst ds, p, ⟨vs, h, r⟩ => ⟨_, h⟩
  | .dic kvs, p, ⟨o, h, z, r⟩ => ⟨_, h⟩
  | .ins c fs, p, ⟨dx, ws, h, r⟩ => ⟨_, h⟩
  | .rng g, p, ⟨o, cs, r, t, h, z, d, q⟩ => ⟨_, h⟩
  | .nats, p, ⟨ns, h, q⟩ => ⟨_, h⟩
/-- the heap grows, the frozen part grows by new objects -/
theorem Ok.ext (ok : Ok L N F E σ H) (s : Same H H') (sF : Same F F') (sub : Same F' H') (new : ∀ a, F a = none → F' a ≠ none → H a = none) : Ok L N F' E σ H' where
  len := ok.len
  sub := sub
  fr := fun i d h => by
    obtain ⟨v, h1, h2⟩ := ok.fr i d h
    exact ⟨v, h1, Rep.mono sF d v h2⟩
  ow := fun i o h => by
    obtain ⟨p, h1, h2, h3, h4, h5⟩ := ok.ow i o h
    refine ⟨p, h1, h2.mono sF fun x => s p x, ?_, h4, h5⟩
    cases q : F' p with
    | none => rfl
    | some y =>
      obtain ⟨x, hx⟩ := h2.there
      have := new p h3 (by rw [q]; simp)
      rw [hx] at this; cases this
  rd := fun i o h => by
    obtain ⟨p, h1, h2, h3⟩ := ok.rd i o h
    exact ⟨p, h1, h2.mono sF fun x => s p x, h3⟩
  inj := ok.inj
  mem := fun x hx => by
    obtain ⟨h1, h2, h3⟩ := ok.mem x hx
    refine ⟨h1.mono sF fun y => s _ y, ?_, h3⟩
    cases q : F' x.1 with
    | none => rfl
    | some y =>
      obtain ⟨z, hz⟩ := h1.there
      have := new x.1 h2 (by rw [q]; simp)
      rw [hz] at this; cases this
  mnd := ok.mnd
  nsub := fun a o h => s a o (ok.nsub a o h)
  lks := ok.lks
  ndis := fun a h => by
    have h0 := ok.ndis a h
    cases q : F' a with
    | none => rfl
    | some y =>
      have h1 := new a h0 (by rw [q]; simp)
      cases e : N a with
      | none => exact absurd e h
      | some o =>
        rw [ok.nsub a o e] at h1
        cases h1
theorem Ok.grow (ok : Ok L N F E σ H) (s : Same H H') : Ok L N F E σ H' := ok.ext s (Same.refl F) (fun a o h => s a o (ok.sub a o h)) fun a h1 h2 => absurd h1 h2
theorem app_low {α : Type} {l : List α} {x y : α} {i : Nat} (h : (l ++ [x])[i]? = some y) : (i < l.length ∧ l[i]? = some y) ∨ (i = l.length ∧ y = x) := by
  by_cases hl : i < l.length
  · rw [List.getElem?_append_left hl] at h
    exact .inl ⟨hl, h⟩
  · rw [List.getElem?_append_right (by omega)] at h
    cases q : i - l.length with
    | zero =>
      rw [q] at h
      exact .inr ⟨by omega, by simpa using h.symm⟩
    | succ n => rw [q] at h; simp at h
theorem app_at {α : Type} {l : List α} {x : α} : (l ++ [x])[l.length]? = some x := by
  rw [List.getElem?_append_right (Nat.le_refl _), Nat.sub_self]; rfl
theorem app_lo {α : Type} {l : List α} {x : α} {i : Nat} (h : i < l.length) : (l ++ [x])[i]? = l[i]? := List.getElem?_append_left h
/-- one more slot: a frozen datum -/
theorem Ok.push {d : D} {v : V} (ok : Ok L N F E σ H) (h : Rep L F d v) : Ok L N F ⟨E.r ++ [.fr d], E.m⟩ (σ ++ [some v]) H := by
  have hl := ok.len
  refine ⟨by simp [hl], ok.sub, fun i e hi => ?_, fun i o hi => ?_, fun i o hi => ?_, fun i j o u p hi hj hp hq => ?_, ok.mem, ok.mnd, ok.nsub, ok.lks, ok.ndis⟩
  · rcases app_low hi with ⟨l, hi⟩ | ⟨l, e1⟩
    · rw [app_lo (by omega)]; exact ok.fr i e hi
    · cases e1
      subst l
      exact ⟨v, by rw [hl]; exact app_at, h⟩
  · rcases app_low hi with ⟨l, hi⟩ | ⟨l, e1⟩
    · rw [app_lo (by omega)]; exact ok.ow i o hi
    · cases e1
  · rcases app_low hi with ⟨l, hi⟩ | ⟨l, e1⟩
    · rw [app_lo (by omega)]; exact ok.rd i o hi
    · cases e1
  · rcases app_low hi with ⟨l1, hi⟩ | ⟨_, e1⟩
    · rcases app_low hj with ⟨l2, hj⟩ | ⟨_, e2⟩
      · rw [app_lo (by omega)] at hp hq
        exact ok.inj i j o u p hi hj hp hq
      · cases e2
    · cases e1
/-- one more slot: an object of one's own -/
theorem Ok.pushOw {o : Ob} {p : Addr} (ok : Ok L N F E σ H) (h : ObR L F H o p) (hF : F p = none) (hN : N p = none) (hm : p ∉ E.m.map (·.1))
    (hs : ∀ (i : Nat) (u : Ob), E.r[i]? = some (.ow u) → σ[i]? ≠ some (some (.ref p))) : Ok L N F ⟨E.r ++ [.ow o], E.m⟩ (σ ++ [some (.ref p)]) H := by
  have hl := ok.len
  refine ⟨by simp [hl], ok.sub, fun i e hi => ?_, fun i u hi => ?_, fun i u hi => ?_, fun i j u u' q hi hj hp hq => ?_, ok.mem, ok.mnd, ok.nsub, ok.lks, ok.ndis⟩
  · rcases app_low hi with ⟨l, hi⟩ | ⟨l, e1⟩
    · rw [app_lo (by omega)]; exact ok.fr i e hi
    · cases e1
  · rcases app_low hi with ⟨l, hi⟩ | ⟨l, e1⟩
    · rw [app_lo (by omega)]; exact ok.ow i u hi
    · cases e1
      subst l
      exact ⟨p, by rw [hl]; exact app_at, h, hF, hN, hm⟩
  · rcases app_low hi with ⟨l, hi⟩ | ⟨l, e1⟩
    · rw [app_lo (by omega)]; exact ok.rd i u hi
    · cases e1
  · have top : ∀ {q : Addr}, (σ ++ [some (V.ref p)])[E.r.length]? = some (some (.ref q)) → q = p := fun {q} hq => by
      rw [hl, app_at] at hq
      injection hq with h1; injection h1 with h2; injection h2 with h3; exact h3.symm
    rcases app_low hi with ⟨l1, hi⟩ | ⟨l1, e1⟩
    · rcases app_low hj with ⟨l2, hj⟩ | ⟨l2, e2⟩
      · rw [app_lo (by omega)] at hp hq
        exact ok.inj i j u u' q hi hj hp hq
      · subst l2
        rw [top hq, app_lo (by omega)] at hp
        exact absurd hp (hs i u hi)
    · rcases app_low hj with ⟨l2, hj⟩ | ⟨l2, e2⟩
      · subst l1
        rw [top hp, app_lo (by omega)] at hq
        exact absurd hq (hs j u' hj)
      · rw [l1, l2]
/-- the last slot is dropped -/
theorem Ok.pop {s : Sl} {x : Option V} {r : List Sl} {m : Mst} (ok : Ok L N F ⟨r ++ [s], m⟩ (σ ++ [x]) H) : Ok L N F ⟨r, m⟩ σ H := by
  have hl : r.length = σ.length := by have := ok.len; simpa using this
  have up : ∀ {i : Nat} {y : Sl}, r[i]? = some y → (r ++ [s])[i]? = some y ∧ (σ ++ [x])[i]? = σ[i]? := fun {i y} hi => by
    have l := (List.getElem?_eq_some_iff.mp hi).1
    exact ⟨by rw [app_lo l]; exact hi, app_lo (by omega)⟩
  refine ⟨hl, ok.sub, fun i e hi => ?_, fun i u hi => ?_, fun i u hi => ?_, fun i j u u' q hi hj hp hq => ?_, ok.mem, ok.mnd, ok.nsub, ok.lks, ok.ndis⟩
  · obtain ⟨v, h1, h2⟩ := ok.fr i e (up hi).1
    exact ⟨v, by rw [← (up hi).2]; exact h1, h2⟩
  · obtain ⟨v, h1, h2⟩ := ok.ow i u (up hi).1
    exact ⟨v, by rw [← (up hi).2]; exact h1, h2⟩
  · obtain ⟨v, h1, h2⟩ := ok.rd i u (up hi).1
    exact ⟨v, by rw [← (up hi).2]; exact h1, h2⟩
  · exact ok.inj i j u u' q (up hi).1 (up hj).1 (by rw [(up hi).2]; exact hp) (by rw [(up hj).2]; exact hq)
theorem set_low {α : Type} {l : List α} {x y : α} {i j : Nat} (h : (l.set i x)[j]? = some y) : (j ≠ i ∧ l[j]? = some y) ∨ (j = i ∧ y = x ∧ i < l.length) := by
  by_cases e : i = j
  · subst e
    by_cases hl : i < l.length
    · rw [List.getElem?_set_self hl] at h
      exact .inr ⟨rfl, by injection h with h; exact h.symm, hl⟩
    · rw [List.getElem?_eq_none (by simpa using hl)] at h; cases h
  · rw [List.getElem?_set_ne e] at h
    exact .inl ⟨fun z => e z.symm, h⟩
/-- the last slot is stored into slot i -/
theorem Ok.store {i : Nat} {s : Sl} {x : Option V} {r : List Sl} {m : Mst} (ok : Ok L N F ⟨r ++ [s], m⟩ (σ ++ [x]) H) (hs : ∀ o, s ≠ .rd o) : Ok L N F ⟨r.set i s, m⟩ (σ.set i x) H := by
  have hl : r.length = σ.length := by have := ok.len; simpa using this
  have ok0 : Ok L N F ⟨r, m⟩ σ H := ok.pop
  have top : (r ++ [s])[r.length]? = some s := app_at
  have topx : (σ ++ [x])[r.length]? = some x := by rw [hl]; exact app_at
  have oth : ∀ {j : Nat}, j ≠ i → (σ.set i x)[j]? = σ[j]? := fun {j} h => List.getElem?_set_ne (fun e => h e.symm)
  have own : i < r.length → (σ.set i x)[i]? = some x := fun h => List.getElem?_set_self (by omega)
  have upv : ∀ {j : Nat} {y : Sl}, r[j]? = some y → (r ++ [s])[j]? = some y ∧ (σ ++ [x])[j]? = σ[j]? := fun {j y} hi => by
    have l := (List.getElem?_eq_some_iff.mp hi).1
    exact ⟨by rw [app_lo l]; exact hi, app_lo (by omega)⟩
  refine ⟨by simp [hl], ok.sub, fun j e hi => ?_, fun j u hi => ?_, fun j u hi => ?_, fun j k u u' q hi hj hp hq => ?_, ok.mem, ok.mnd, ok.nsub, ok.lks, ok.ndis⟩
  · rcases set_low hi with ⟨n, h⟩ | ⟨rfl, rfl, l⟩
    · rw [oth n]; exact ok0.fr j e h
    · obtain ⟨v, h1, h2⟩ := ok.fr _ _ top
      rw [topx] at h1
      exact ⟨v, by rw [own l]; exact h1, h2⟩
  · rcases set_low hi with ⟨n, h⟩ | ⟨rfl, rfl, l⟩
    · rw [oth n]; exact ok0.ow j u h
    · obtain ⟨v, h1, h2⟩ := ok.ow _ _ top
      rw [topx] at h1
      exact ⟨v, by rw [own l]; exact h1, h2⟩
  · rcases set_low hi with ⟨n, h⟩ | ⟨rfl, z, l⟩
    · rw [oth n]; exact ok0.rd j u h
    · exact absurd z.symm (hs u)
  · rcases set_low hi with ⟨n, h⟩ | ⟨rfl, rfl, l⟩
    · rw [oth n] at hp
      rcases set_low hj with ⟨n', h'⟩ | ⟨rfl, rfl, l'⟩
      · rw [oth n'] at hq
        exact ok0.inj j k u u' q h h' hp hq
      · rw [own l'] at hq
        have z := ok.inj j r.length u u' q (upv h).1 top (by rw [(upv h).2]; exact hp) (by rw [topx]; exact hq)
        have := (List.getElem?_eq_some_iff.mp h).1
        omega
    · rw [own l] at hp
      rcases set_low hj with ⟨n', h'⟩ | ⟨e, _, l'⟩
      · rw [oth n'] at hq
        have z := ok.inj k r.length u' u q (upv h').1 top (by rw [(upv h').2]; exact hq) (by rw [topx]; exact hp)
        have := (List.getElem?_eq_some_iff.mp h').1
        omega
      · exact e.symm
/-- a slot is forgotten -/
theorem Ok.unset {i : Nat} {x : Option V} (ok : Ok L N F E σ H) : Ok L N F ⟨E.r.set i .un, E.m⟩ (σ.set i x) H := by
  have hl := ok.len
  have oth : ∀ {j : Nat}, j ≠ i → (σ.set i x)[j]? = σ[j]? := fun {j} h => List.getElem?_set_ne (fun e => h e.symm)
  refine ⟨by simp [hl], ok.sub, fun j e hi => ?_, fun j u hi => ?_, fun j u hi => ?_, fun j k u u' q hi hj hp hq => ?_, ok.mem, ok.mnd, ok.nsub, ok.lks, ok.ndis⟩
  · rcases set_low hi with ⟨n, h⟩ | ⟨_, z, _⟩
    · rw [oth n]; exact ok.fr j e h
    · cases z
  · rcases set_low hi with ⟨n, h⟩ | ⟨_, z, _⟩
    · rw [oth n]; exact ok.ow j u h
    · cases z
  · rcases set_low hi with ⟨n, h⟩ | ⟨_, z, _⟩
    · rw [oth n]; exact ok.rd j u h
    · cases z
  · rcases set_low hi with ⟨n, h⟩ | ⟨_, z, _⟩
    · rcases set_low hj with ⟨n', h'⟩ | ⟨_, z, _⟩
      · rw [oth n] at hp
        rw [oth n'] at hq
        exact ok.inj j k u u' q h h' hp hq
      · cases z
    · cases z
/-- a new object is one's own -/
theorem Ok.newOw {o : Ob} {p : Addr} (ok : Ok L N F E σ H) (s : Same H H') (hp : H p = none) (h : ObR L F H' o p) : Ok L N F ⟨E.r ++ [.ow o], E.m⟩ (σ ++ [some (.ref p)]) H' := by
  have np : ∀ {G : Hp}, Same G H → G p = none := fun {G} sG => by
    cases q : G p with
    | none => rfl
    | some y => have := sG p y q; rw [hp] at this; cases this
  refine (ok.grow s).pushOw h (np ok.sub) (np ok.nsub) (fun hm => ?_) fun i u hi e => ?_
  · obtain ⟨x, hx, e⟩ := List.mem_map.mp hm
    obtain ⟨h1, _⟩ := ok.mem x hx
    obtain ⟨y, hy⟩ := h1.there
    rw [e, hp] at hy; cases hy
  · obtain ⟨q, h1, h2, _⟩ := ok.ow i u hi
    rw [e] at h1
    have : q = p := by injection h1 with z; injection z with z; injection z with z; exact z.symm
    subst this
    obtain ⟨y, hy⟩ := h2.there
    rw [hp] at hy; cases hy
theorem same_upd {p : Addr} {o : HO} (hp : H p = none) : Same H (upd H p o) := fun a u h => by
  rw [upd_ne (ne_of_none h hp)]; exact h
/-- the frozen part takes an object -/
theorem same_updF {p : Addr} {o : HO} (hF : Same F H) (h : H p = some o) : Same (upd F p o) H := fun a u e => by
  by_cases q : a = p
  · subst q; rw [upd_same] at e; rw [h]; exact e
  · rw [upd_ne q] at e; exact hF a u e
/-- an object's content as a frozen datum -/
theorem ObR.rep {o : Ob} {p : Addr} (cold : o.cold = true) (h : ObR L F H o p) {x : HO} (hx : H p = some x) (hF : F p = none) : Rep L (upd F p x) o.d (.ref p) := by
  have s : Same F (upd F p x) := same_upd hF
  cases o with
  | lst ds =>
    obtain ⟨vs, h1, h2⟩ := h
    rw [h1] at hx; cases hx
    show Rep L _ (.lst ds) _
    rw [Rep]
    exact ⟨p, vs, rfl, upd_same, RepA.mono s ds vs h2⟩
  | dic kvs =>
    obtain ⟨ob, h1, h2, h3, h4⟩ := h
    rw [h1] at hx; cases hx
    show Rep L _ (.dic kvs) _
    rw [Rep]
    refine ⟨p, ob, rfl, upd_same, h2, h3, ?_⟩
    rcases h4 with ⟨us, r1, r2⟩ | ⟨xs, r1, r2⟩
    · exact .inl ⟨us, r1, RepS.mono s kvs us r2⟩
    · exact .inr ⟨xs, r1, RepX.mono s kvs xs r2⟩
  | ins c fs =>
    obtain ⟨dx, ws, h1, h2⟩ := h
    rw [h1] at hx; cases hx
    show Rep L _ (.obj c fs) _
    rw [Rep]
    exact ⟨p, dx, ws, rfl, upd_same, RepF.mono s fs ws h2⟩
  | rng g => cases cold
  | nats => cases cold
/-- an object of one's own is frozen -/
theorem Ok.freeze {i : Nat} {o : Ob} (ok : Ok L N F E σ H) (hi : E.r[i]? = some (.ow o)) (hc : o.cold = true) : ∃ F', Same F F' ∧ Ok L N F' ⟨E.r.set i (.fr o.d), E.m⟩ σ H := by
  obtain ⟨p, hp, hO, hF, hN, hm⟩ := ok.ow i o hi
  obtain ⟨x, hx⟩ := hO.there
  have s : Same F (upd F p x) := same_upd hF
  refine ⟨upd F p x, s, ⟨by simp [ok.len], same_updF ok.sub hx, fun j e hj => ?_, fun j u hj => ?_, fun j u hj => ?_, fun j k u u' q h1 h2 h3 h4 => ?_, fun y hy => ?_, ok.mnd, ok.nsub, ok.lks, fun a ha => ?_⟩⟩
  · rcases set_low hj with ⟨n, h⟩ | ⟨rfl, z, l⟩
    · obtain ⟨v, h1, h2⟩ := ok.fr j e h
      exact ⟨v, h1, Rep.mono s e v h2⟩
    · cases z
      exact ⟨.ref p, hp, hO.rep hc hx hF⟩
  · rcases set_low hj with ⟨n, h⟩ | ⟨_, z, _⟩
    · obtain ⟨q, h1, h2, h3, h4, h5⟩ := ok.ow j u h
      have ne : q ≠ p := fun e => by
        subst e
        exact n (ok.inj j i u o q h hi h1 hp)
      exact ⟨q, h1, h2.mono s fun _ z => z, by rw [upd_ne ne]; exact h3, h4, h5⟩
    · cases z
  · rcases set_low hj with ⟨n, h⟩ | ⟨_, z, _⟩
    · obtain ⟨q, h1, h2, h3⟩ := ok.rd j u h
      exact ⟨q, h1, h2.mono s fun _ z => z, h3⟩
    · cases z
  · rcases set_low h1 with ⟨n, h1⟩ | ⟨_, z, _⟩
    · rcases set_low h2 with ⟨n', h2⟩ | ⟨_, z, _⟩
      · exact ok.inj j k u u' q h1 h2 h3 h4
      · cases z
    · cases z
  · obtain ⟨h1, h2, h3⟩ := ok.mem y hy
    have ne : y.1 ≠ p := fun e => hm (List.mem_map.mpr ⟨y, hy, e⟩)
    exact ⟨h1.mono s fun _ z => z, by rw [upd_ne ne]; exact h2, h3⟩
  · have ne : a ≠ p := fun e => by subst e; exact ha hN
    rw [upd_ne ne]; exact ok.ndis a ha
/-- the pending result as a datum -/
theorem Ok.freezeLast {o : Ob} {r : List Sl} {m : Mst} {x : Option V} (ok : Ok L N F ⟨r ++ [.ow o], m⟩ (σ ++ [x]) H) (hc : o.cold = true) : ∃ F', Same F F' ∧ Ok L N F' ⟨r ++ [.fr o.d], m⟩ (σ ++ [x]) H := by
  obtain ⟨F', s, h⟩ := ok.freeze (i := r.length) (o := o) app_at hc
  refine ⟨F', s, ?_⟩
  have e : (r ++ [Sl.ow o]).set r.length (.fr o.d) = r ++ [.fr o.d] := by
    rw [List.set_append_right _ _ (Nat.le_refl _), Nat.sub_self]; rfl
  rw [← e]; exact h
theorem Ok.last {d : D} {r : List Sl} {m : Mst} {v : V} (ok : Ok L N F ⟨r ++ [.fr d], m⟩ (σ ++ [some v]) H) : Rep L F d v := by
  have hl : r.length = σ.length := by have := ok.len; simpa using this
  obtain ⟨u, h1, h2⟩ := ok.fr r.length d app_at
  rw [hl, app_at] at h1
  injection h1 with h1; injection h1 with h1
  rw [h1]; exact h2
/-- the object of slot i takes another content (and place x) -/
theorem Ok.write {i : Nat} {o u : Ob} {p : Addr} {x : HO} (ok : Ok L N F E σ H) (hi : E.r[i]? = some (.ow o)) (hp : σ[i]? = some (some (.ref p))) (h : ObR L F (upd H p x) u p) : Ok L N F ⟨E.r.set i (.ow u), E.m⟩ σ (upd H p x) := by
  obtain ⟨p', hp', hO, hF, hN, hm⟩ := ok.ow i o hi
  have e : p' = p := by rw [hp] at hp'; injection hp' with z; injection z with z; injection z with z; exact z.symm
  subst e
  have k : ∀ {q : Addr}, q ≠ p' → ∀ y, H q = some y → (upd H p' x) q = some y := fun {q} n y hy => by rw [upd_ne n]; exact hy
  refine ⟨by simp [ok.len], fun a y hy => ?_, fun j e hj => ?_, fun j w hj => ?_, fun j w hj => ?_, fun j l w w' q h1 h2 h3 h4 => ?_, fun y hy => ?_, ok.mnd, fun a y hy => ?_, ok.lks, ok.ndis⟩
  · exact k (fun e => by rw [e, hF] at hy; cases hy) y (ok.sub a y hy)
  · rcases set_low hj with ⟨n, h1⟩ | ⟨_, z, _⟩
    · exact ok.fr j e h1
    · cases z
  · rcases set_low hj with ⟨n, h1⟩ | ⟨rfl, z, _⟩
    · obtain ⟨q, a1, a2, a3, a4, a5⟩ := ok.ow j w h1
      have ne : q ≠ p' := fun e => by
        subst e
        exact n (ok.inj j i w o q h1 hi a1 hp)
      exact ⟨q, a1, a2.mono (Same.refl F) fun y => k ne y, a3, a4, a5⟩
    · cases z
      exact ⟨p', hp, h, hF, hN, hm⟩
  · rcases set_low hj with ⟨n, h1⟩ | ⟨_, z, _⟩
    · obtain ⟨q, a1, a2, a3⟩ := ok.rd j w h1
      have ne : q ≠ p' := fun e => by rw [e] at a3; exact ok.lks.at_ _ a3 hN
      exact ⟨q, a1, a2.mono (Same.refl F) fun y => k ne y, a3⟩
    · cases z
  · have low : ∀ {j : Nat} {w : Ob}, (E.r.set i (.ow u))[j]? = some (.ow w) → ∃ w', E.r[j]? = some (.ow w') := fun {j w} h1 => by
      rcases set_low h1 with ⟨n, h1⟩ | ⟨rfl, z, _⟩
      · exact ⟨w, h1⟩
      · exact ⟨o, hi⟩
    obtain ⟨w1, g1⟩ := low h1
    obtain ⟨w2, g2⟩ := low h2
    exact ok.inj j l w1 w2 q g1 g2 h3 h4
  · obtain ⟨h1, h2, h3⟩ := ok.mem y hy
    have ne : y.1 ≠ p' := fun e => hm (List.mem_map.mpr ⟨y, hy, e⟩)
    exact ⟨h1.mono (Same.refl F) fun z => k ne z, h2, h3⟩
  · exact k (fun e => by rw [e, hN] at hy; cases hy) y (ok.nsub a y hy)
end
end B
/-! BLow: readings over data, lowered to the hand layer's. -/
namespace B
open PySem PySem.Spec PyProof.Rows L2

/-- an exception of the program's own: its class, what it holds -/
structure Xd where
  c : Str
  fs : List (Str × D)
abbrev QX := Xd → En → Prop
abbrev BT := En → (Sl → En → Prop) → QX → Prop
abbrev BO := En → (D → En → Prop) → QX → Prop
abbrev BA := En → (List D → En → Prop) → QX → Prop
abbrev BQ := En → (Bool → En → Prop) → QX → Prop
/-- a left operand: a datum, what a slot holds, a changing object -/
inductive Hd where
  | val (d : D)
  | slot (i : Nat)
  | mem (a : Nat)
abbrev BL := En → (Hd → En → Prop) → QX → Prop
structure EndsB where
  nx : En → Prop
  rt : Sl → En → Prop
  bk : En → Prop := fun _ => False
  ct : En → Prop := fun _ => False
abbrev BS := EndsB → QX → En → Prop
def Sl.d? : Sl → Option D
  | .un => none
  | .fr d => some d
  | .ow o => if o.cold then some o.d else none
  | .rd o => if o.cold then some o.d else none
def En.at (E : En) (i : Nat) : Option D := E.r[i]?.bind Sl.d?
def Hd.get (E : En) : Hd → Option D
  | .val d => some d
  | .slot i => E.at i
  | .mem a => (E.m.lookup a).bind fun o => if o.cold then some o.d else none

/-- a body's context, its classes, its wish about exceptions -/
structure Bx where
  X : Cx
  cl : Str → Addr
  W : WX
abbrev Bx.lb (b : Bx) : Lb := ⟨b.X.prog, b.X.w, b.X.K, b.cl⟩
def XdR (L : Lb) (F H : Hp) (x : Xd) (cls : Value) (od : Option Addr) : Prop :=
  cls = .ref (L.cl x.c) ∧ ((od = none ∧ x.fs = []) ∨ ∃ d ws, od = some d ∧ F d = some (.xd ws) ∧ RepF L F x.fs ws)
/-- what stands at the top may be an object of one's own; what is within is frozen -/
def RepT (L : Lb) (F H : Hp) : D → V → Prop
  | .lst ds, v => ∃ a vs, v = .ref a ∧ H a = some (.lst vs) ∧ RepA L F ds vs
  | .dic kvs, v => ∃ a o, v = .ref a ∧ H a = some (dO a o) ∧ (a == sysModules) = false ∧ DicR L F kvs o
  | .obj c fs, v => ∃ a dx ws, v = .ref a ∧ H a = some (.ins (L.cl c) dx ws) ∧ RepF L F fs ws
  | .non, v => Rep L F .non v
  | .bl k, v => Rep L F (.bl k) v
  | .int i, v => Rep L F (.int i) v
  | .str i, v => Rep L F (.str i) v
  | .ty i, v => Rep L F (.ty i) v
  | .tup i, v => Rep L F (.tup i) v
  | .ptr i, v => Rep L F (.ptr i) v
  | .exc c i, v => Rep L F (.exc c i) v
  | .scr i, v => Rep L F (.scr i) v
section
variable {L : Lb} {N : Nh} {F F' H H' : Hp} {E : En} {σ : L2.St}
theorem Rep.top (s : Same F H) : ∀ {d : D} {v : V}, Rep L F d v → RepT L F H d v
  | .lst ds, v, h => by
    rw [Rep] at h
    obtain ⟨a, vs, e, q, r⟩ := h
    exact ⟨a, vs, e, s _ _ q, r⟩
  | .dic kvs, v, h => by
    rw [Rep] at h
    obtain ⟨a, o, e, q, z, l, r⟩ := h
    exact ⟨a, o, e, s _ _ q, z, l, r⟩
  | .obj c fs, v, h => by
    rw [Rep] at h
    obtain ⟨a, dx, ws, e, q, r⟩ := h
    exact ⟨a, dx, ws, e, s _ _ q, r⟩
  | .non, v, h => h
  | .bl k, v, h => h
  | .int i, v, h => h
  | .str i, v, h => h
  | .ty i, v, h => h
  | .tup i, v, h => h
  | .ptr i, v, h => h
  | .exc c i, v, h => h
  | .scr i, v, h => h
theorem ObR.top {o : Ob} {p : Addr} (cold : o.cold = true) (h : ObR L F H o p) : RepT L F H o.d (.ref p) := by
  cases o with
  | lst ds =>
    obtain ⟨vs, h1, h2⟩ := h
    exact ⟨p, vs, rfl, h1, h2⟩
  | dic kvs =>
    obtain ⟨ob, h1, h2, h3⟩ := h
    exact ⟨p, ob, rfl, h1, h2, h3⟩
  | ins c fs =>
    obtain ⟨dx, ws, h1, h2⟩ := h
    exact ⟨p, dx, ws, rfl, h1, h2⟩
  | rng g => cases cold
  | nats => cases cold
/-- what slot i holds -/
theorem Ok.topAt {i : Nat} {d : D} (ok : Ok L N F E σ H) (h : E.at i = some d) : ∃ v, σ[i]? = some (some v) ∧ RepT L F H d v := by
  unfold En.at at h
  cases e : E.r[i]? with
  | none => rw [e] at h; cases h
  | some s =>
    rw [e] at h
    have h : s.d? = some d := h
    cases s with
    | un => cases h
    | fr d' =>
      cases h
      obtain ⟨v, h1, h2⟩ := ok.fr i d e
      exact ⟨v, h1, h2.top ok.sub⟩
    | ow o =>
      obtain ⟨p, h1, h2, _⟩ := ok.ow i o e
      have h : (if o.cold = true then some o.d else none) = some d := h
      split at h
      · rename_i c
        cases h
        exact ⟨.ref p, h1, h2.top c⟩
      · cases h
    | rd o =>
      obtain ⟨p, h1, h2, _⟩ := ok.rd i o e
      have h : (if o.cold = true then some o.d else none) = some d := h
      split at h
      · rename_i c
        cases h
        exact ⟨.ref p, h1, h2.top c⟩
      · cases h
/-- the pending result -/
theorem Ok.topLast {s : Sl} {d : D} {r : List Sl} {m : Mst} {v : V} (ok : Ok L N F ⟨r ++ [s], m⟩ (σ ++ [some v]) H) (h : s.d? = some d) : RepT L F H d v := by
  have hl : r.length = σ.length := by have := ok.len; simpa using this
  obtain ⟨u, h1, h2⟩ := ok.topAt (i := r.length) (d := d) (by unfold En.at; show ((r ++ [s])[r.length]?).bind Sl.d? = some d; rw [app_at]; exact h)
  rw [hl, app_at] at h1
  injection h1 with h1; injection h1 with h1
  rw [h1]; exact h2
end

section
variable (b : Bx)
/-- what is wanted of an exception -/
def xOk (N : Nh) (F : Hp) (XB : QX) : Prop := ∀ F' E' x cls od σ' H', Same F F' → Ok b.lb N F' E' σ' H' → XdR b.lb F' H' x cls od → XB x E' → b.W cls od σ' H'
def lowE (t : BT) : TE := fun σ H Q => ∃ N F E QB XB, Ok b.lb N F E σ H ∧ t E QB XB ∧
  (∀ F' E' s v H', Same F F' → Ok b.lb N F' ⟨E'.r ++ [s], E'.m⟩ (σ ++ [some v]) H' → QB s E' → Q v H') ∧ xOk b N F XB
def lowV (t : BO) : TE := fun σ H Q => ∃ N F E QB XB, Ok b.lb N F E σ H ∧ t E QB XB ∧
  (∀ F' E' d v H', Same F F' → Ok b.lb N F' E' σ H' → Rep b.lb F' d v → QB d E' → Q v H') ∧ xOk b N F XB
def lowO (t : BO) : TE := fun σ H Q => ∃ N F E QB XB, Ok b.lb N F E σ H ∧ t E QB XB ∧
  (∀ F' E' d v H', Same F F' → Ok b.lb N F' E' σ H' → RepT b.lb F' H' d v → QB d E' → Q v H') ∧ xOk b N F XB
def HdR (L : Lb) (F : Hp) (σ : L2.St) : Hd → V → Prop
  | .val d, v => Rep L F d v
  | .slot i, v => σ[i]? = some (some v)
  | .mem a, v => v = .ref a
def lowL (t : BL) : TE := fun σ H Q => ∃ N F E QB XB, Ok b.lb N F E σ H ∧ t E QB XB ∧
  (∀ F' E' h v H', Same F F' → Ok b.lb N F' E' σ H' → HdR b.lb F' σ h v → QB h E' → Q v H') ∧ xOk b N F XB
def lowA (t : BA) : TA := fun σ H Q => ∃ N F E QB XB, Ok b.lb N F E σ H ∧ t E QB XB ∧
  (∀ F' E' ds vs H', Same F F' → Ok b.lb N F' E' σ H' → RepA b.lb F' ds vs → QB ds E' → Q vs H') ∧ xOk b N F XB
def lowQ (t : BQ) : TT := fun σ H Q => ∃ N F E QB XB, Ok b.lb N F E σ H ∧ t E QB XB ∧
  (∀ F' E' k H', Same F F' → Ok b.lb N F' E' σ H' → QB k E' → Q k H') ∧ xOk b N F XB
def lowS (t : BS) : TS := fun D σ H => ∃ N F E DB XB, Ok b.lb N F E σ H ∧ t DB XB E ∧
  (∀ F' E' σ' H', Same F F' → Ok b.lb N F' E' σ' H' → DB.nx E' → D.nx σ' H') ∧
  (∀ F' E' s v σ' H', Same F F' → Ok b.lb N F' ⟨E'.r ++ [s], E'.m⟩ (σ' ++ [some v]) H' → DB.rt s E' → D.rt v H') ∧
  (∀ F' E' σ' H', Same F F' → Ok b.lb N F' E' σ' H' → DB.bk E' → D.bk σ' H') ∧
  (∀ F' E' σ' H', Same F F' → Ok b.lb N F' E' σ' H' → DB.ct E' → D.ct σ' H') ∧ xOk b N F XB
abbrev BE (e : Expr) (t : BT) : Prop := PE b.X e (lowE b t)
abbrev BV (e : Expr) (t : BO) : Prop := PE b.X e (lowV b t)
abbrev BOp (e : Expr) (t : BO) : Prop := PE b.X e (lowO b t)
abbrev BLe (e : Expr) (t : BL) : Prop := PE b.X e (lowL b t)
abbrev BAs (es : List Expr) (t : BA) : Prop := PA b.X es (lowA b t)
abbrev BQt (e : Expr) (t : BQ) : Prop := PT b.X e (lowQ b t)
abbrev BSt (st : Stmt) (t : BS) : Prop := PS b.X st (lowS b t)
abbrev BSs (st : List Stmt) (t : BS) : Prop := PSs b.X st (lowS b t)
end
theorem pe_weak {X : Cx} {e : Expr} {t t' : TE} (h : PE X e t) (w : ∀ σ H Q, t' σ H Q → t σ H Q) : PE X e t' := ⟨fun pins s σ H Q I q => h.run pins s σ H Q I (w σ H Q q)⟩
theorem pt_weak {X : Cx} {e : Expr} {t t' : TT} (h : PT X e t) (w : ∀ σ H Q, t' σ H Q → t σ H Q) : PT X e t' := ⟨fun pins s σ H Q I q => h.run pins s σ H Q I (w σ H Q q)⟩
theorem pw_weak {X : Cx} {e : Expr} {t t' : TT} (h : PW X e t) (w : ∀ σ H Q, t' σ H Q → t σ H Q) : PW X e t' := ⟨fun wh pins s σ H Q I q => h.run wh pins s σ H Q I (w σ H Q q)⟩
theorem pa_weak {X : Cx} {e : List Expr} {t t' : TA} (h : PA X e t) (w : ∀ σ H Q, t' σ H Q → t σ H Q) : PA X e t' := ⟨fun ps pins s σ H Q I q => h.run ps pins s σ H Q I (w σ H Q q)⟩
theorem ps_weak {X : Cx} {e : Stmt} {t t' : TS} (h : PS X e t) (w : ∀ D σ H, t' D σ H → t D σ H) : PS X e t' := ⟨fun pins s σ H D I q => h.run pins s σ H D I (w D σ H q)⟩
theorem pss_weak {X : Cx} {e : List Stmt} {t t' : TS} (h : PSs X e t) (w : ∀ D σ H, t' D σ H → t D σ H) : PSs X e t' := ⟨fun pins s σ H D I q => h.run pins s σ H D I (w D σ H q)⟩
theorem xOk.go {b : Bx} {N : Nh} {F F1 : Hp} {XB : QX} (h : xOk b N F XB) (s : Same F F1) : xOk b N F1 XB := fun F' E' x cls od σ' H' s' => h F' E' x cls od σ' H' (s.trans s')

/-! ### the kinds of readings, one from another -/
section
variable {b : Bx} {e : Expr}
/-- as a frozen datum -/
def bV (t : BT) : BO := fun E Q X => t E (fun s E' => match s with
  | .fr d => Q d E'
  | .ow o => o.cold = true ∧ Q o.d E'
  | _ => False) X
theorem bv_of {t : BT} (h : BE b e t) : BV b e (bV t) := pe_weak h fun σ H Q ⟨N, F, E, QB, XB, ok, ht, hQ, hX⟩ =>
  ⟨N, F, E, _, XB, ok, ht, fun F' E' s v H' sF ok' q => by
    cases s with
    | un => exact False.elim q
    | rd o => exact False.elim q
    | fr d => exact hQ F' E' d v H' sF ok'.pop ok'.last q
    | ow o =>
      obtain ⟨c, q⟩ := q
      obtain ⟨F2, s2, ok2⟩ := ok'.freezeLast c
      exact hQ F2 E' o.d v H' (sF.trans s2) ok2.pop ok2.last q, hX⟩
theorem be_of {t : BO} (h : BV b e t) : BE b e (fun E Q X => t E (fun d E' => Q (.fr d) E') X) := pe_weak h fun σ H Q ⟨N, F, E, QB, XB, ok, ht, hQ, hX⟩ =>
  ⟨N, F, E, _, XB, ok, ht, fun F' E' d v H' sF ok' r q => hQ F' E' (.fr d) v H' sF (ok'.push r) q, hX⟩
/-- as an operand -/
def bOf (t : BT) : BO := fun E Q X => t E (fun s E' => match s with
  | .fr d => Q d E'
  | .ow o => o.cold = true ∧ Q o.d E'
  | _ => False) X
theorem bo_of {t : BT} (h : BE b e t) : BOp b e (bOf t) := pe_weak h fun σ H Q ⟨N, F, E, QB, XB, ok, ht, hQ, hX⟩ =>
  ⟨N, F, E, _, XB, ok, ht, fun F' E' s v H' sF ok' q => by
    cases s with
    | un => exact False.elim q
    | rd o => exact False.elim q
    | fr d => exact hQ F' E' d v H' sF ok'.pop (ok'.topLast rfl) q
    | ow o =>
      obtain ⟨c, q⟩ := q
      exact hQ F' E' o.d v H' sF ok'.pop (ok'.topLast (by simp [Sl.d?, c])) q, hX⟩
theorem bo_of_v {t : BO} (h : BV b e t) : BOp b e t := pe_weak h fun σ H Q ⟨N, F, E, QB, XB, ok, ht, hQ, hX⟩ =>
  ⟨N, F, E, _, XB, ok, ht, fun F' E' d v H' sF ok' r q => hQ F' E' d v H' sF ok' (r.top ok'.sub) q, hX⟩
def bLv (t : BO) : BL := fun E Q X => t E (fun d E' => Q (.val d) E') X
theorem bl_of {t : BO} (h : BV b e t) : BLe b e (bLv t) := pe_weak h fun σ H Q ⟨N, F, E, QB, XB, ok, ht, hQ, hX⟩ =>
  ⟨N, F, E, _, XB, ok, ht, fun F' E' d v H' sF ok' r q => hQ F' E' (.val d) v H' sF ok' r q, hX⟩

/-! ### names, constants -/
def bC (d : D) : BO := fun E Q _ => Q d E
theorem bv_c {v : V} {d : D} (h : PE b.X e (tC v)) (r : ∀ L F, Rep L F d v) : BV b e (bC d) := pe_weak h fun σ H Q ⟨N, F, E, QB, XB, ok, ht, hQ, hX⟩ =>
  hQ F E d v H (Same.refl F) ok (r _ _) ht
theorem rep_non {L : Lb} {F : Hp} : Rep L F .non .non := by rw [Rep]
theorem rep_bl {L : Lb} {F : Hp} {k : Bool} : Rep L F (.bl k) (.bl k) := by rw [Rep]
theorem rep_int {L : Lb} {F : Hp} {k : Int} : Rep L F (.int k) (.int k) := by rw [Rep]
theorem rep_str {L : Lb} {F : Hp} {k : Str} : Rep L F (.str k) (.str k) := by rw [Rep]
theorem rep_ty {L : Lb} {F : Hp} {k : String} : Rep L F (.ty k) (.ty k) := by rw [Rep]
theorem bv_int {i j pos} : BV b (.Constant (.int i) j pos) (bC (.int i)) := bv_c pe_int fun _ _ => rep_int
theorem bv_bl {i j pos} : BV b (.Constant (.bool i) j pos) (bC (.bl i)) := bv_c pe_bl fun _ _ => rep_bl
theorem bv_non {j pos} : BV b (.Constant .none j pos) (bC .non) := bv_c pe_non fun _ _ => rep_non
theorem bv_str {i j pos} : BV b (.Constant (.str i) j pos) (bC (.str i)) := bv_c pe_str fun _ _ => rep_str
/-- a name, frozen where it holds an object of one's own -/
def bVar (i : Nat) : BO := fun E Q _ => match E.r[i]? with
  | some (.fr d) => Q d E
  | some (.ow o) => o.cold = true ∧ Q o.d ⟨E.r.set i (.fr o.d), E.m⟩
  | _ => False
theorem bv_var {i : Nat} {e : Expr} (h : PE b.X e (tVar i)) : BV b e (bVar i) := pe_weak h fun σ H Q ⟨N, F, E, QB, XB, ok, ht, hQ, hX⟩ => by
  unfold bVar at ht
  split at ht
  · rename_i d hd
    obtain ⟨v, h1, h2⟩ := ok.fr i d hd
    exact ⟨v, h1, hQ F E d v H (Same.refl F) ok h2 ht⟩
  · rename_i o ho
    obtain ⟨c, ht⟩ := ht
    obtain ⟨F', s, ok'⟩ := ok.freeze ho c
    have hi : i < E.r.length := (List.getElem?_eq_some_iff.mp ho).1
    obtain ⟨v, h1, h2⟩ := ok'.fr i o.d (List.getElem?_set_self hi)
    exact ⟨v, h1, hQ F' _ o.d v H s ok' h2 ht⟩
  · exact ht.elim
/-- a name, read alone -/
def bPk (i : Nat) : BO := fun E Q _ => match E.at i with
  | some d => Q d E
  | none => False
theorem bo_var {i : Nat} {e : Expr} (h : PE b.X e (tVar i)) : BOp b e (bPk i) := pe_weak h fun σ H Q ⟨N, F, E, QB, XB, ok, ht, hQ, hX⟩ => by
  unfold bPk at ht
  split at ht
  · rename_i d hd
    obtain ⟨v, h1, h2⟩ := ok.topAt hd
    exact ⟨v, h1, hQ F E d v H (Same.refl F) ok h2 ht⟩
  · exact ht.elim
def bLs (i : Nat) : BL := fun E Q _ => match E.at i with
  | some _ => Q (.slot i) E
  | none => False
theorem bl_var {i : Nat} {e : Expr} (h : PE b.X e (tVar i)) : BLe b e (bLs i) := pe_weak h fun σ H Q ⟨N, F, E, QB, XB, ok, ht, hQ, hX⟩ => by
  unfold bLs at ht
  split at ht
  · rename_i d hd
    obtain ⟨v, h1, h2⟩ := ok.topAt hd
    exact ⟨v, h1, hQ F E (.slot i) v H (Same.refl F) ok h1 ht⟩
  · exact ht.elim
/-- a name, handed on: the slot is set no more -/
def bMv (i : Nat) : BT := fun E Q _ => match E.r[i]? with
  | some (.fr d) => Q (.fr d) E
  | some (.ow o) => Q (.ow o) ⟨E.r.set i .un, E.m⟩
  | _ => False
theorem be_mv {i : Nat} {e : Expr} (h : PE b.X e (tVar i)) : BE b e (bMv i) := pe_weak h fun σ H Q ⟨N, F, E, QB, XB, ok, ht, hQ, hX⟩ => by
  unfold bMv at ht
  split at ht
  · rename_i d hd
    obtain ⟨v, h1, h2⟩ := ok.fr i d hd
    exact ⟨v, h1, hQ F E _ v H (Same.refl F) (ok.push h2) ht⟩
  · rename_i o ho
    obtain ⟨p, h1, h2, h3, h4, h5⟩ := ok.ow i o ho
    refine ⟨.ref p, h1, hQ F ⟨E.r.set i .un, E.m⟩ (.ow o) (.ref p) H (Same.refl F) ?_ ht⟩
    have hi : i < σ.length := (List.getElem?_eq_some_iff.mp h1).1
    have ok1 : Ok b.lb N F ⟨E.r.set i .un, E.m⟩ σ H := by
      have := ok.unset (i := i) (x := some (.ref p))
      rw [show σ.set i (some (V.ref p)) = σ from by
        apply List.ext_getElem?
        intro j
        by_cases hj : i = j
        · subst hj; rw [List.getElem?_set_self hi, h1]
        · rw [List.getElem?_set_ne hj]] at this
      exact this
    refine ok1.pushOw h2 h3 h4 h5 fun j u hj e => ?_
    rcases set_low hj with ⟨n, hj⟩ | ⟨_, z, _⟩
    · exact n (ok.inj j i u o p hj ho e h1)
    · cases z
  · exact ht.elim

/-! ### arguments -/
def bNil : BA := fun E Q _ => Q [] E
def bCons (t : BO) (u : BA) : BA := fun E Q X => t E (fun d E1 => u E1 (fun ds E2 => Q (d :: ds) E2) X) X
theorem repA_nil {L : Lb} {F : Hp} : RepA L F [] [] := by rw [RepA]
theorem repA_cons {L : Lb} {F : Hp} {d : D} {v : V} {ds : List D} {vs : List V} (h : Rep L F d v) (t : RepA L F ds vs) : RepA L F (d :: ds) (v :: vs) := by
  rw [RepA]; exact ⟨v, vs, rfl, h, t⟩
theorem ba_nil : BAs b [] bNil := pa_weak pa_nil fun σ H Q ⟨N, F, E, QB, XB, ok, ht, hQ, hX⟩ => hQ F E [] [] H (Same.refl F) ok repA_nil ht
theorem ba_cons {es : List Expr} {t : BO} {u : BA} (h : BV b e t) (hs : BAs b es u) (hst : starEach (e :: es) b.X.env = (false, eval e b.X.env) :: starEach es b.X.env := by rfl) : BAs b (e :: es) (bCons t u) :=
  pa_weak (pa_cons h hs hst) fun σ H Q ⟨N, F, E, QB, XB, ok, ht, hQ, hX⟩ =>
    ⟨N, F, E, _, XB, ok, ht, fun F1 E1 d v H1 s1 ok1 r1 q1 => ⟨N, F1, E1, _, XB, ok1, q1, fun F2 E2 ds vs H2 s2 ok2 r2 q2 =>
      hQ F2 E2 (d :: ds) (v :: vs) H2 (s1.trans s2) ok2 (repA_cons (r1.mono s2 d v) r2) q2, hX.go s1⟩, hX⟩

/-! ### operators by values -/
/-- what an operator gives of two data -/
abbrev F2 := D → D → (Sl → Prop) → Prop
def Op2 (b : Bx) (r : R2) (f : F2) : Prop := ∀ N F E σ H x y v u (QB : Sl → Prop) (Q : VK), Ok b.lb N F E σ H → RepT b.lb F H x v → RepT b.lb F H y u → f x y QB →
  (∀ F' s v' H', Same F F' → Ok b.lb N F' ⟨E.r ++ [s], E.m⟩ (σ ++ [some v']) H' → QB s → Q v' H') → r v u H Q
def bBin (f : F2) (ta : BL) (tb : BO) : BT := fun E Q X => ta E (fun h E1 => tb E1 (fun y E2 => match h.get E2 with
  | some x => f x y fun s => Q s E2
  | none => False) X) X
theorem look_mem {M : Mst} {a : Nat} {o : Ob} (h : M.lookup a = some o) : (a, o) ∈ M := by
  induction M with
  | nil => cases h
  | cons x r ih =>
    obtain ⟨k, u⟩ := x
    rw [List.lookup_cons] at h
    split at h
    · rename_i e
      cases h
      have : a = k := by simpa using e
      subst this
      exact List.mem_cons_self
    · exact List.mem_cons_of_mem _ (ih h)
theorem Ok.memTop {L : Lb} {N : Nh} {F H : Hp} {E : En} {σ : L2.St} {a : Nat} {d : D} (ok : Ok L N F E σ H) (g : (Hd.mem a).get E = some d) : RepT L F H d (.ref a) := by
  have g : (E.m.lookup a).bind (fun o => if o.cold then some o.d else none) = some d := g
  cases e : E.m.lookup a with
  | none => rw [e] at g; cases g
  | some o =>
    rw [e] at g
    have g : (if o.cold = true then some o.d else none) = some d := g
    split at g
    · rename_i c
      cases g
      exact (ok.mem _ (look_mem e)).1.top c
    · cases g
theorem HdR.top {L : Lb} {N : Nh} {F F' H : Hp} {E : En} {σ : L2.St} {h : Hd} {v : V} {d : D} (ok : Ok L N F' E σ H) (s : Same F F') (r : HdR L F σ h v) (g : h.get E = some d) : RepT L F' H d v := by
  cases h with
  | val d' => cases g; exact (Rep.mono s d v r).top ok.sub
  | slot i =>
    obtain ⟨u, h1, h2⟩ := ok.topAt g
    have r' : σ[i]? = some (some v) := r
    rw [h1] at r'
    cases r'
    exact h2
  | mem a =>
    have r' : v = .ref a := r
    rw [r']
    exact ok.memTop g
theorem bin_low {r : R2} {f : F2} {ta : BL} {tb : BO} (o : Op2 b r f) : ∀ σ H Q, lowE b (bBin f ta tb) σ H Q → tOp r (lowL b ta) (lowO b tb) σ H Q := fun σ H Q ⟨N, F, E, QB, XB, ok, ht, hQ, hX⟩ =>
  ⟨N, F, E, _, XB, ok, ht, fun F1 E1 h v H1 s1 ok1 r1 q1 => ⟨N, F1, E1, _, XB, ok1, q1, fun F2 E2 y u H2 s2 ok2 r2 q2 => by
    have q2 : match h.get E2 with
      | some x => f x y fun s => QB s E2
      | none => False := q2
    split at q2
    · rename_i x hx
      exact o N F2 E2 σ H2 x y v u _ Q ok2 (r1.top ok2 s2 hx) r2 q2 fun F' s v' H' s3 ok3 q3 => hQ F' E2 s v' H' (s1.trans (s2.trans s3)) ok3 q3
    · exact q2.elim, hX.go s1⟩, hX⟩
theorem be_op {a c : Expr} {op : Operator} {pos : Pos} {r : R2} {f : F2} {ta : BL} {tb : BO} (ho : OpR b.X (binaryOp op) r) (o : Op2 b r f) (ha : BLe b a ta) (hc : BOp b c tb) : BE b (.BinOp a op c pos) (bBin f ta tb) :=
  pe_weak (pe_op ho ha hc) (bin_low o)
theorem be_cmp {a c : Expr} {op : CmpOp} {pos : Pos} {r : R2} {f : F2} {ta : BL} {tb : BO} (ho : OpR b.X (compareOp op) r) (o : Op2 b r f) (ha : BLe b a ta) (hc : BOp b c tb) (hm : behindInMarks op c = false) : BE b (.Compare a [op] [c] pos) (bBin f ta tb) :=
  pe_weak (pe_cmpR ho ha hc hm) (bin_low o)
/-- a changing object, by its place -/
def bLp (t : BO) : BL := fun E Q X => t E (fun d E' => match d with
  | .ptr a => Q (.mem a) E'
  | _ => False) X
theorem bl_ptr {t : BO} (h : BV b e t) : BLe b e (bLp t) := pe_weak h fun σ H Q ⟨N, F, E, QB, XB, ok, ht, hQ, hX⟩ =>
  ⟨N, F, E, _, XB, ok, ht, fun F' E' d v H' s ok' rd q => by
    cases d with
    | ptr a => rw [Rep] at rd; exact hQ F' E' (.mem a) v H' s ok' rd q
    | _ => exact q.elim, hX⟩
/-- a changing object, read alone -/
def bDe (t : BO) : BO := fun E Q X => t E (fun d E' => match d with
  | .ptr a => (match (Hd.mem a).get E' with
    | some d => Q d E'
    | none => False)
  | _ => False) X
theorem bo_ptr {t : BO} (h : BV b e t) : BOp b e (bDe t) := pe_weak h fun σ H Q ⟨N, F, E, QB, XB, ok, ht, hQ, hX⟩ =>
  ⟨N, F, E, _, XB, ok, ht, fun F' E' d v H' s ok' rd q => by
    cases d with
    | ptr a =>
      rw [Rep] at rd
      subst rd
      have q : (match (Hd.mem a).get E' with
        | some d => QB d E'
        | none => False) := q
      cases g : (Hd.mem a).get E' with
      | none => rw [g] at q; exact q.elim
      | some d => rw [g] at q; exact hQ F' E' d _ H' s ok' (ok'.memTop g) q
    | _ => exact q.elim, hX⟩
/-! ### tests -/
def bT (t : BO) : BQ := fun E Q X => t E (fun d E' => match d with
  | .bl k => Q k E'
  | _ => False) X
theorem bq_of {t : BO} (h : BOp b e t) (he : ∀ whole, isTrue e b.X.env whole = (do let v ← whole; standAt e.pos; holding [v] (truthy v)) := by intro _; rfl) : BQt b e (bT t) :=
  pt_weak (pt_val h he) fun σ H Q ⟨N, F, E, QB, XB, ok, ht, hQ, hX⟩ => ⟨N, F, E, _, XB, ok, ht, fun F' E' d v H' s ok' r q => by
    cases d with
    | bl k =>
      have r : Rep b.lb F' (.bl k) v := r
      rw [Rep] at r
      exact ⟨k, r, hQ F' E' k H' s ok' q⟩
    | _ => exact False.elim q, hX⟩
def bNot (t : BQ) : BQ := fun E Q X => t E (fun k E' => Q (!k) E') X
theorem bq_not {pos : Pos} {t : BQ} (h : BQt b e t) : BQt b (.UnaryOp .Not e pos) (bNot t) := pt_weak (pt_not h) fun σ H Q ⟨N, F, E, QB, XB, ok, ht, hQ, hX⟩ =>
  ⟨N, F, E, _, XB, ok, ht, fun F' E' k H' s ok' q => hQ F' E' (!k) H' s ok' q, hX⟩
end
end B
/-! BStm: statements over data; a body's names; calls of defs. -/
namespace B
open PySem PySem.Spec PyProof.Rows L2
section
variable {b : Bx}
theorem xOk.goS {N : Nh} {F F1 : Hp} {XB : QX} (h : xOk b N F XB) (s : Same F F1) : xOk b N F1 XB := h.go s

/-! ### blocks -/
def bNext : BS := fun D _ E => D.nx E
def bSeq (t u : BS) : BS := fun D X E => t { D with nx := u D X } X E
theorem bss_nil : BSs b [] bNext := pss_weak pss_nil fun D σ H ⟨N, F, E, DB, XB, ok, ht, h1, _⟩ => h1 F E σ H (Same.refl F) ok ht
theorem bss_cons {st : Stmt} {rest : List Stmt} {t u : BS} (h : BSt b st t) (r : BSs b rest u) : BSs b (st :: rest) (bSeq t u) :=
  pss_weak (pss_cons h r) fun D σ H ⟨N, F, E, DB, XB, ok, ht, h1, h2, h3, h4, hX⟩ =>
    ⟨N, F, E, { DB with nx := u DB XB }, XB, ok, ht, fun F' E' σ' H' s ok' q => ⟨N, F', E', DB, XB, ok', q,
      fun F2 E2 σ2 H2 s2 => h1 F2 E2 σ2 H2 (s.trans s2), fun F2 E2 y v σ2 H2 s2 => h2 F2 E2 y v σ2 H2 (s.trans s2), fun F2 E2 σ2 H2 s2 => h3 F2 E2 σ2 H2 (s.trans s2),
      fun F2 E2 σ2 H2 s2 => h4 F2 E2 σ2 H2 (s.trans s2), hX.go s⟩, h2, h3, h4, hX⟩
theorem bss_one {st : Stmt} {t : BS} (h : BSt b st t) : BSs b [st] t := pss_one h
def bBreak : BS := fun D _ E => D.bk E
def bCont : BS := fun D _ E => D.ct E
theorem bs_pass {pos : Pos} : BSt b (.Pass pos) bNext := ps_weak ps_pass fun D σ H ⟨N, F, E, DB, XB, ok, ht, h1, _⟩ => h1 F E σ H (Same.refl F) ok ht
theorem bs_break {pos : Pos} : BSt b (.Break pos) bBreak := ps_weak ps_break fun D σ H ⟨N, F, E, DB, XB, ok, ht, h1, h2, h3, _⟩ => h3 F E σ H (Same.refl F) ok ht
theorem bs_cont {pos : Pos} : BSt b (.Continue pos) bCont := ps_weak ps_continue fun D σ H ⟨N, F, E, DB, XB, ok, ht, h1, h2, h3, h4, _⟩ => h4 F E σ H (Same.refl F) ok ht
theorem bs_doc {x j pos pos'} : BSt b (.Expr (.Constant (.str x) j pos) pos') bNext := ps_weak ps_doc fun D σ H ⟨N, F, E, DB, XB, ok, ht, h1, _⟩ => h1 F E σ H (Same.refl F) ok ht
/-- an expression whose value is dropped -/
def bDrop (t : BT) : BS := fun D X E => t E (fun _ E' => D.nx E') X
theorem bs_expr {e : Expr} {t : BT} {pos : Pos} (h : BE b e t) (hs : swapsWith e none pos.line b.X.env = pure false := by rfl) : BSt b (.Expr e pos) (bDrop t) :=
  ps_weak (ps_expr h hs) fun D σ H ⟨N, F, E, DB, XB, ok, ht, h1, h2, h3, h4, hX⟩ =>
    ⟨N, F, E, _, XB, ok, ht, fun F' E' s v H' sF ok' q => h1 F' E' σ H' sF ok'.pop q, hX⟩
def bRet (t : BT) : BS := fun D X E => t E (fun s E' => D.rt s E') X
theorem bs_ret {e : Expr} {t : BT} {pos : Pos} (h : BE b e t) : BSt b (.Return (some e) pos) (bRet t) :=
  ps_weak (ps_ret h) fun D σ H ⟨N, F, E, DB, XB, ok, ht, h1, h2, h3, h4, hX⟩ =>
    ⟨N, F, E, _, XB, ok, ht, fun F' E' s v H' sF ok' q => h2 F' E' s v σ H' sF ok' q, hX⟩
def bRetN : BS := fun D _ E => D.rt (.fr .non) E
theorem bs_retN {pos : Pos} : BSt b (.Return none pos) bRetN := ps_weak ps_retN fun D σ H ⟨N, F, E, DB, XB, ok, ht, h1, h2, _⟩ => h2 F E (.fr .non) .non σ H (Same.refl F) (ok.push rep_non) ht
/-- what an expression may give -/
def Sl.res : Sl → Bool
  | .fr _ => true
  | .ow _ => true
  | _ => false
theorem Sl.nrd {s : Sl} (h : s.res = true) (o : Ob) : s ≠ .rd o := fun e => by rw [e] at h; cases h
/-- a name is set -/
def bSet (i : Nat) (t : BT) : BS := fun D X E => t E (fun s E' => s.res = true ∧ D.nx ⟨E'.r.set i s, E'.m⟩) X
theorem set_low2 {i : Nat} {te : TE} {t : BT} (w : ∀ σ H Q, lowE b t σ H Q → te σ H Q) : ∀ D σ H, lowS b (bSet i t) D σ H → tAsg te (gName i) D σ H := fun D σ H ⟨N, F, E, DB, XB, ok, ht, h1, h2, h3, h4, hX⟩ =>
  w σ H _ ⟨N, F, E, _, XB, ok, ht, fun F' E' s v H' sF ok' q => h1 F' ⟨E'.r.set i s, E'.m⟩ (σ.set i (some v)) H' sF (ok'.store (Sl.nrd q.1)) q.2, hX⟩
def bIf (c : BQ) (t u : BS) : BS := fun D X E => c E (fun k E' => if k = true then t D X E' else u D X E') X
theorem bs_if {c : Expr} {p q : List Stmt} {pos : Pos} {tc : BQ} {t u : BS} (hc : BQt b c tc) (hp : BSs b p t) (hq : BSs b q u) : BSt b (.If c p q pos) (bIf tc t u) :=
  ps_weak (ps_if hc hp hq) fun D σ H ⟨N, F, E, DB, XB, ok, ht, h1, h2, h3, h4, hX⟩ =>
    ⟨N, F, E, _, XB, ok, ht, fun F' E' k H' sF ok' z => by
      have fin : ∀ {w : BS}, w DB XB E' → lowS b w D σ H' := fun {w} z => ⟨N, F', E', DB, XB, ok', z, fun F2 E2 σ2 H2 s2 => h1 F2 E2 σ2 H2 (sF.trans s2), fun F2 E2 y v σ2 H2 s2 => h2 F2 E2 y v σ2 H2 (sF.trans s2),
        fun F2 E2 σ2 H2 s2 => h3 F2 E2 σ2 H2 (sF.trans s2), fun F2 E2 σ2 H2 s2 => h4 F2 E2 σ2 H2 (sF.trans s2), hX.go sF⟩
      cases k with
      | true => exact iteT (fin (by have z : if true = true then t DB XB E' else u DB XB E' := z; rw [if_pos rfl] at z; exact z))
      | false => exact iteF (fin (by have z : if false = true then t DB XB E' else u DB XB E' := z; rw [if_neg Bool.false_ne_true] at z; exact z)), hX⟩
def bWhile (c : BQ) (t : BS) : BS := fun D X E => ∃ W : Nat → En → Prop, (∃ m, W m E) ∧ ∀ m E, W m E → c E (fun k E' => if k = true then t { D with nx := fun E2 => ∃ m', m' < m ∧ W m' E2, ct := fun E2 => ∃ m', m' < m ∧ W m' E2, bk := D.nx } X E' else D.nx E') X
theorem bs_while {c : Expr} {body : List Stmt} {pos : Pos} {tc : BQ} {t : BS} (hp : PassesOwn (model b.X.prog b.X.w) b.X.A b.X.env b.X.xe) (hc : BQt b c tc) (hb : BSs b body t) : BSt b (.While c body [] pos) (bWhile tc t) :=
  ps_weak (ps_while hp hc hb) fun D σ H ⟨N, F, E, DB, XB, ok, ⟨W, ⟨m, w0⟩, turn⟩, h1, h2, h3, h4, hX⟩ => by
    refine ⟨fun m σ H => ∃ F' E', Same F F' ∧ Ok b.lb N F' E' σ H ∧ W m E', ⟨m, F, E, Same.refl F, ok, w0⟩, ?_⟩
    rintro m σ H ⟨F1, E1, s1, ok1, w1⟩
    refine ⟨N, F1, E1, _, XB, ok1, turn m E1 w1, fun F' E' k H' sF ok' z => ?_, hX.go s1⟩
    cases k with
    | true =>
      have z : if true = true then t { DB with nx := fun E2 => ∃ m', m' < m ∧ W m' E2, ct := fun E2 => ∃ m', m' < m ∧ W m' E2, bk := DB.nx } XB E' else DB.nx E' := z
      rw [if_pos rfl] at z
      refine iteT ⟨fun σ' H' => ∃ F2 E2, Same F F2 ∧ Ok b.lb N F2 E2 σ' H' ∧ ∃ m', m' < m ∧ W m' E2, fun σ' H' ⟨F2, E2, s2, ok2, m', l, w2⟩ => ⟨m', l, F2, E2, s2, ok2, w2⟩, ?_⟩
      exact ⟨N, F', E', _, XB, ok', z, fun F2 E2 σ2 H2 s2 ok2 q => ⟨F2, E2, (s1.trans sF).trans s2, ok2, q⟩, fun F2 E2 y v σ2 H2 s2 => h2 F2 E2 y v σ2 H2 ((s1.trans sF).trans s2),
        fun F2 E2 σ2 H2 s2 => h1 F2 E2 σ2 H2 ((s1.trans sF).trans s2), fun F2 E2 σ2 H2 s2 ok2 q => ⟨F2, E2, (s1.trans sF).trans s2, ok2, q⟩, (hX.go s1).go sF⟩
    | false =>
      have z : if false = true then t { DB with nx := fun E2 => ∃ m', m' < m ∧ W m' E2, ct := fun E2 => ∃ m', m' < m ∧ W m' E2, bk := DB.nx } XB E' else DB.nx E' := z
      rw [if_neg Bool.false_ne_true] at z
      exact iteF (h1 F' E' σ H' (s1.trans sF) ok' z)
end

/-! ### and, or, if else -/
section
variable {b : Bx} {a c : Expr} {pos : Pos}
abbrev BQw (b : Bx) (e : Expr) (t : BQ) : Prop := PW b.X e (lowQ b t)
def bAnd (t u : BQ) : BQ := fun E Q X => t E (fun k E' => if k = true then u E' Q X else Q false E') X
def bOr (t u : BQ) : BQ := fun E Q X => t E (fun k E' => if k = true then Q true E' else u E' Q X) X
theorem bw_and1 {t : BQ} (h : BQt b a t) : BQw b (.BoolOp .And [a] pos) t := pw_and1 h
theorem bw_or1 {t : BQ} (h : BQt b a t) : BQw b (.BoolOp .Or [a] pos) t := pw_or1 h
theorem low_q {N : Nh} {F : Hp} {E : En} {QB : Bool → En → Prop} {XB : QX} {σ : L2.St} {H : Hp} {t : BQ} {Q : Bool → Hp → Prop} (ok : Ok b.lb N F E σ H) (h : t E QB XB) (hQ : ∀ F' E' k H', Same F F' → Ok b.lb N F' E' σ H' → QB k E' → Q k H') (hX : xOk b N F XB) : lowQ b t σ H Q := ⟨N, F, E, QB, XB, ok, h, hQ, hX⟩
theorem bw_and {rest : List Expr} {t u : BQ} (h : BQt b a t) (r : BQw b (.BoolOp .And (c :: rest) pos) u) : BQw b (.BoolOp .And (a :: c :: rest) pos) (bAnd t u) :=
  pw_weak (pw_and h r) fun σ H Q ⟨N, F, E, QB, XB, ok, ht, hQ, hX⟩ => ⟨N, F, E, _, XB, ok, ht, fun F' E' k H' s ok' z => by
    cases k with
    | true =>
      have z : if true = true then u E' QB XB else QB false E' := z
      rw [if_pos rfl] at z
      exact iteT ⟨N, F', E', QB, XB, ok', z, fun F2 E2 k2 H2 s2 => hQ F2 E2 k2 H2 (s.trans s2), hX.go s⟩
    | false =>
      have z : if false = true then u E' QB XB else QB false E' := z
      rw [if_neg Bool.false_ne_true] at z
      exact iteF (hQ F' E' false H' s ok' z), hX⟩
theorem bw_or {rest : List Expr} {t u : BQ} (h : BQt b a t) (r : BQw b (.BoolOp .Or (c :: rest) pos) u) : BQw b (.BoolOp .Or (a :: c :: rest) pos) (bOr t u) :=
  pw_weak (pw_or h r) fun σ H Q ⟨N, F, E, QB, XB, ok, ht, hQ, hX⟩ => ⟨N, F, E, _, XB, ok, ht, fun F' E' k H' s ok' z => by
    cases k with
    | true =>
      have z : if true = true then QB true E' else u E' QB XB := z
      rw [if_pos rfl] at z
      exact iteT (hQ F' E' true H' s ok' z)
    | false =>
      have z : if false = true then QB true E' else u E' QB XB := z
      rw [if_neg Bool.false_ne_true] at z
      exact iteF ⟨N, F', E', QB, XB, ok', z, fun F2 E2 k2 H2 s2 => hQ F2 E2 k2 H2 (s.trans s2), hX.go s⟩, hX⟩
theorem bq_w {t : BQ} (h : BQw b a t) : BQt b a t := h.pt
/-- as values: all but the last True or False -/
def bAndV (t : BO) (u : BT) : BT := fun E Q X => t E (fun d E' => match d with
  | .bl true => u E' Q X
  | .bl false => Q (.fr (.bl false)) E'
  | _ => False) X
def bOrV (t : BO) (u : BT) : BT := fun E Q X => t E (fun d E' => match d with
  | .bl false => u E' Q X
  | .bl true => Q (.fr (.bl true)) E'
  | _ => False) X
theorem be_one {op} {t : BT} (h : BE b a t) : BE b (.BoolOp op [a] pos) t := pe_one h
theorem be_and {rest : List Expr} {t : BO} {u : BT} (h : BV b a t) (r : BE b (.BoolOp .And (c :: rest) pos) u) : BE b (.BoolOp .And (a :: c :: rest) pos) (bAndV t u) :=
  pe_weak (pe_and h r) fun σ H Q ⟨N, F, E, QB, XB, ok, ht, hQ, hX⟩ => ⟨N, F, E, _, XB, ok, ht, fun F' E' d v H' s ok' rp z => by
    cases d with
    | bl k =>
      rw [Rep] at rp
      subst rp
      cases k with
      | true => exact ⟨true, rfl, iteT ⟨N, F', E', QB, XB, ok', z, fun F2 E2 y v2 H2 s2 => hQ F2 E2 y v2 H2 (s.trans s2), hX.go s⟩⟩
      | false => exact ⟨false, rfl, iteF (hQ F' E' (.fr (.bl false)) (.bl false) H' s (ok'.push rep_bl) z)⟩
    | _ => exact False.elim z, hX⟩
theorem be_or {rest : List Expr} {t : BO} {u : BT} (h : BV b a t) (r : BE b (.BoolOp .Or (c :: rest) pos) u) : BE b (.BoolOp .Or (a :: c :: rest) pos) (bOrV t u) :=
  pe_weak (pe_or h r) fun σ H Q ⟨N, F, E, QB, XB, ok, ht, hQ, hX⟩ => ⟨N, F, E, _, XB, ok, ht, fun F' E' d v H' s ok' rp z => by
    cases d with
    | bl k =>
      rw [Rep] at rp
      subst rp
      cases k with
      | true => exact ⟨true, rfl, iteT (hQ F' E' (.fr (.bl true)) (.bl true) H' s (ok'.push rep_bl) z)⟩
      | false => exact ⟨false, rfl, iteF ⟨N, F', E', QB, XB, ok', z, fun F2 E2 y v2 H2 s2 => hQ F2 E2 y v2 H2 (s.trans s2), hX.go s⟩⟩
    | _ => exact False.elim z, hX⟩
def bNotV (t : BO) : BT := fun E Q X => t E (fun d E' => match d with
  | .bl k => Q (.fr (.bl (!k))) E'
  | _ => False) X
theorem be_not {t : BO} (h : BV b a t) : BE b (.UnaryOp .Not a pos) (bNotV t) :=
  pe_weak (pe_not h) fun σ H Q ⟨N, F, E, QB, XB, ok, ht, hQ, hX⟩ => ⟨N, F, E, _, XB, ok, ht, fun F' E' d v H' s ok' rp z => by
    cases d with
    | bl k =>
      rw [Rep] at rp
      subst rp
      exact ⟨k, rfl, hQ F' E' (.fr (.bl (!k))) (.bl (!k)) H' s (ok'.push rep_bl) z⟩
    | _ => exact False.elim z, hX⟩
def bIfE (c : BQ) (t u : BT) : BT := fun E Q X => c E (fun k E' => if k = true then t E' Q X else u E' Q X) X
theorem be_if {c e : Expr} {tc : BQ} {t u : BT} (hc : BQt b c tc) (h1 : BE b a t) (h2 : BE b e u) : BE b (.IfExp c a e pos) (bIfE tc t u) :=
  pe_weak (pe_ifExp hc h1 h2) fun σ H Q ⟨N, F, E, QB, XB, ok, ht, hQ, hX⟩ => ⟨N, F, E, _, XB, ok, ht, fun F' E' k H' s ok' z => by
    have fin : ∀ {w : BT}, w E' QB XB → lowE b w σ H' Q := fun {w} z => ⟨N, F', E', QB, XB, ok', z, fun F2 E2 y v H2 s2 => hQ F2 E2 y v H2 (s.trans s2), hX.go s⟩
    cases k with
    | true => exact iteT (fin (by have z : if true = true then t E' QB XB else u E' QB XB := z; rw [if_pos rfl] at z; exact z))
    | false => exact iteF (fin (by have z : if false = true then t E' QB XB else u E' QB XB := z; rw [if_neg Bool.false_ne_true] at z; exact z)), hX⟩
end

/-! ### a body's names -/
/-- N: the slots; tb: the names that are seen, with their slots; gl: the names of the module; k: the room -/
structure Gd (b : Bx) (N : List Str) (tb : List (Nat × Str)) (gl : List Str) (k : Nat) : Prop where
  calm : b.X.calm = true
  rm : Room k b.X.A
  gd : b.X.A.guards = some []
  tk : Takes b.X b.W
  pass : PassesOwn (model b.X.prog b.X.w) b.X.A b.X.env b.X.xe
  nm : b.X.N = N
  nd : N.Nodup
  vis : ∀ p ∈ tb, N[p.1]? = some p.2 ∧ Vis b.X.env.scope p.2 ∧ (p.2 == ("__debug__" : Str)) = false ∧ (p.2 == ("__classdict__" : Str)) = false
  gls : ∀ x ∈ gl, Gl b.X x ∧ (x == ("__debug__" : Str)) = false ∧ x ≠ "__name__"
section
variable {b : Bx} {N : List Str} {tb : List (Nat × Str)} {gl : List Str} {k : Nat}
theorem Gd.v (g : Gd b N tb gl k) (j : Nat) {i : Nat} {x : Str} {pos : Pos} (h : tb[j]? = some (i, x) := by rfl) : PE b.X (.Name x pos) (tVar i) := by
  obtain ⟨h1, h2, h3, h4⟩ := g.vis _ (List.mem_of_getElem? h)
  exact pe_var (by rw [g.nm]; exact h1) h2 h3 h4
theorem Gd.g (g : Gd b N tb gl k) (j : Nat) {x : Str} (h : gl[j]? = some x := by rfl) : Gl b.X x := (g.gls _ (List.mem_of_getElem? h)).1
theorem Gd.nn (g : Gd b N tb gl k) : b.X.N.Nodup := by rw [g.nm]; exact g.nd
/-- name = e -/
theorem bs_set (g : Gd b N tb gl k) (j : Nat) {i : Nat} {x : Str} {e : Expr} {t : BT} {pos pos' : Pos} (he : BE b e t) (h : tb[j]? = some (i, x) := by rfl) (hl : Loc b.X.env.scope x := by first | exact Or.inl rfl | exact Or.inr rfl)
    (hf : b.X.fn x = true ∨ b.X.env.scope.names.lookup x = some .local := by first | exact .inl rfl | exact .inr rfl | assumption)
    (hs : swapsWith e (some (.Name x pos')) pos.line b.X.env = pure false := by rfl) : BSt b (.Assign [.Name x pos'] e pos) (bSet i t) :=
  ps_weak (ps_set (i := i) g.nn (by rw [g.nm]; exact (g.vis _ (List.mem_of_getElem? h)).1) hl he hs hf) (set_low2 fun _ _ _ z => z)
end
end B
/-! BFun: what a def promises over data; its body; its call. -/
namespace B
open PySem PySem.Spec PyProof.Rows L2
abbrev FnB := List D → Mst → (Sl → Mst → Prop) → (Xd → Mst → Prop) → Prop

/-- what stays while a callee runs: what stayed, and the objects of one's own -/
noncomputable def ownH (N : Nh) (E : En) (σ : L2.St) (H : Hp) : Hp :=
  open Classical in fun a => if ∃ (i : Nat) (o : Ob), E.r[i]? = some (.ow o) ∧ σ[i]? = some (some (.ref a)) then H a else N a
noncomputable def ownN (N : Nh) (E : En) (σ : L2.St) (H : Hp) : Nh := ⟨ownH N E σ H, []⟩
section
variable {L : Lb} {N : Nh} {F F' H H' : Hp} {E : En} {σ : L2.St}
theorem ownN_own {i : Nat} {o : Ob} {a : Addr} (h1 : E.r[i]? = some (.ow o)) (h2 : σ[i]? = some (some (.ref a))) : ownN N E σ H a = H a := by
  show ownH N E σ H a = H a
  unfold ownH; rw [if_pos ⟨i, o, h1, h2⟩]
theorem ownN_of (ok : Ok L N F E σ H) {a : Addr} {x : HO} (h : N a = some x) : ownN N E σ H a = some x := by
  show ownH N E σ H a = some x
  unfold ownH
  split
  · exact ok.nsub a x h
  · exact h
theorem ownN_none (ok : Ok L N F E σ H) {a : Addr} (h : ownN N E σ H a = none) : N a = none := by
  cases e : N a with
  | none => rfl
  | some x => rw [ownN_of ok e] at h; cases h
theorem ownN_sub (ok : Ok L N F E σ H) : Same (ownN N E σ H).h H := fun a x h => by
  have h : ownH N E σ H a = some x := h
  unfold ownH at h
  split at h
  · exact h
  · exact ok.nsub a x h
theorem ownN_dis (ok : Ok L N F E σ H) : ∀ a, ownN N E σ H a ≠ none → F a = none := fun a h => by
  have h : ownH N E σ H a ≠ none := h
  unfold ownH at h
  split at h
  · rename_i q
    obtain ⟨i, o, h1, h2⟩ := q
    obtain ⟨p, g1, g2, g3, _⟩ := ok.ow i o h1
    rw [h2] at g1
    cases g1
    exact g3
  · exact ok.ndis a h
/-- the arguments' state -/
theorem Ok.args {ds : List D} {vs : List V} (ok : Ok L N F E σ H) (r : RepA L F ds vs) : Ok L (ownN N E σ H) F ⟨ds.map .fr, E.m⟩ (vs.map some) H := by
  have get : ∀ (ds : List D) (vs : List V), RepA L F ds vs → ds.length = vs.length ∧ ∀ (i : Nat) (d : D), ds[i]? = some d → ∃ v, vs[i]? = some v ∧ Rep L F d v := by
    intro ds
    induction ds with
    | nil => intro vs h; rw [RepA] at h; subst h; exact ⟨rfl, fun i d h => by simp at h⟩
    | cons d ds ih =>
      intro vs h
      rw [RepA] at h
      obtain ⟨v, r, e, h1, h2⟩ := h
      subst e
      obtain ⟨l, g⟩ := ih r h2
      refine ⟨by simp [l], fun i d' hi => ?_⟩
      cases i with
      | zero => cases hi; exact ⟨v, rfl, h1⟩
      | succ i => exact g i d' hi
  obtain ⟨l, g⟩ := get ds vs r
  have nos : ∀ (i : Nat) (s : Sl), (ds.map Sl.fr)[i]? = some s → ∃ d, s = .fr d ∧ ds[i]? = some d := fun i s h => by
    rw [List.getElem?_map] at h
    cases e : ds[i]? with
    | none => rw [e] at h; cases h
    | some d => rw [e] at h; exact ⟨d, by cases h; rfl, rfl⟩
  refine ⟨by simp [l], ok.sub, fun i d h => ?_, fun i o h => ?_, fun i o h => ?_, fun i j o u p h => ?_, fun x hx => ?_, ok.mnd, ownN_sub ok, ⟨(fun x hx => nomatch hx), ok.lks.sm.imp (fun h => h.imp fun o h => h.imp fun es h => h.imp fun ep h => ⟨ownN_of ok h.1, h.2⟩) id⟩, ownN_dis ok⟩
  · obtain ⟨d', e, h'⟩ := nos i _ h
    cases e
    obtain ⟨v, h1, h2⟩ := g i d h'
    exact ⟨v, by rw [List.getElem?_map, h1]; rfl, h2⟩
  · obtain ⟨d', e, _⟩ := nos i _ h; cases e
  · obtain ⟨d', e, _⟩ := nos i _ h; cases e
  · obtain ⟨d', e, _⟩ := nos i _ h; cases e
  · obtain ⟨h1, h2, h3⟩ := ok.mem x hx
    refine ⟨h1, h2, ?_⟩
    show ownH N E σ H x.1 = none
    unfold ownH
    split
    · rename_i q
      obtain ⟨i, o, g1, g2⟩ := q
      obtain ⟨p, k1, k2, k3, k4, k5⟩ := ok.ow i o g1
      rw [g2] at k1
      cases k1
      exact absurd (List.mem_map.mpr ⟨x, hx, rfl⟩) k5
    · exact h3
/-- behind a callee -/
theorem Ok.back {s : Sl} {v : V} {M : Mst} (ok : Ok L N F E σ H) (sF : Same F F') (ok' : Ok L (ownN N E σ H) F' ⟨[s], M⟩ [some v] H') (hs : s.res = true) : Ok L N F' ⟨E.r ++ [s], M⟩ (σ ++ [some v]) H' := by
  have base : Ok L N F' ⟨E.r, M⟩ σ H' := by
    refine ⟨ok.len, ok'.sub, fun i d h => ?_, fun i o h => ?_, fun i o h => ?_, ok.inj, fun x hx => ?_, ok'.mnd, fun a y hy => ?_, ok.lks, fun a ha => ?_⟩
    · obtain ⟨u, h1, h2⟩ := ok.fr i d h
      exact ⟨u, h1, Rep.mono sF d u h2⟩
    · obtain ⟨p, h1, h2, h3, h4, h5⟩ := ok.ow i o h
      have e : ownN N E σ H p = H p := ownN_own h h1
      obtain ⟨x, hx⟩ := h2.there
      have hp : (ownN N E σ H) p = some x := by rw [e]; exact hx
      refine ⟨p, h1, h2.mono sF fun y hy => ok'.nsub p y (show ownN N E σ H p = some y by rw [e]; exact hy), ok'.ndis p (show ownN N E σ H p ≠ none by rw [hp]; simp), h4, fun hm => ?_⟩
      obtain ⟨y, hy, ey⟩ := List.mem_map.mp hm
      have := (ok'.mem y hy).2.2
      have z : ownN N E σ H y.1 = none := this
      rw [ey, hp] at z; cases z
    · obtain ⟨p, h1, h2, h3⟩ := ok.rd i o h
      cases e : N p with
      | none => exact absurd e (ok.lks.at_ _ h3)
      | some x =>
        refine ⟨p, h1, h2.mono sF fun y hy => ?_, h3⟩
        have g := ok.nsub p x e
        obtain rfl : y = x := by rw [hy] at g; exact Option.some.inj g
        exact ok'.nsub p y (ownN_of ok e)
    · obtain ⟨h1, h2, h3⟩ := ok'.mem x hx
      exact ⟨h1, h2, ownN_none ok h3⟩
    · exact ok'.nsub a y (ownN_of ok hy)
    · cases e : N a with
      | none => exact absurd e ha
      | some x => exact ok'.ndis a (show ownN N E σ H a ≠ none by rw [ownN_of ok e]; simp)
  cases s with
  | un => cases hs
  | rd o => cases hs
  | fr d =>
    obtain ⟨u, h1, h2⟩ := ok'.fr 0 d rfl
    cases h1
    exact base.push h2
  | ow o =>
    obtain ⟨p, h1, h2, h3, h4, h5⟩ := ok'.ow 0 o rfl
    cases h1
    refine base.pushOw h2 h3 (ownN_none ok h4) h5 fun i u hi e => ?_
    have z : ownN N E σ H p = none := h4
    obtain ⟨q, g1, g2, _⟩ := ok.ow i u hi
    rw [e] at g1
    cases g1
    obtain ⟨x, hx⟩ := g2.there
    rw [show ownN N E σ H p = H p from ownN_own hi e, hx] at z
    cases z
theorem Ok.backX {M : Mst} (ok : Ok L N F E σ H) (sF : Same F F') (ok' : Ok L (ownN N E σ H) F' ⟨[], M⟩ [] H') : Ok L N F' ⟨E.r, M⟩ σ H' := by
  have h : Ok L (ownN N E σ H) F' ⟨[] ++ [.fr .non], M⟩ ([] ++ [some .non]) H' := ok'.push rep_non
  exact (ok.back sF h rfl).pop
end

section
variable {P : Program} {w : World} {K : PySem.W.Frag} {mg : Str → Option Value} {base : Heap} {cl : Str → Addr}
/-- the def at f keeps the promise fb over data -/
structure BFn (P : Program) (w : World) (K : PySem.W.Frag) (mg : Str → Option Value) (base : Heap) (cl : Str → Addr) (k : Nat) (f : Addr) (fd : FuncData) (ps : List Str) (fb : FnB) : Prop where
  len : ∀ ds M Q E, fb ds M Q E → ds.length = ps.length
  run : ∀ (A : Around) (outer : List Env) (s : Shared) (H : Hp) (args : Args) (us : List Value) (vs : List V) (ds : List D) (N : Nh) (F : Hp) (M : Mst) (QB : Sl → Mst → Prop) (EB : Xd → Mst → Prop) (Q : VK) (E : XK),
    Room k A → A.guards = some [] → Env0 P w K mg base A outer s H → us.length = ps.length → BindsTo s fd args (ps.zip us) → Vals vs us → Ok ⟨P, w, K, cl⟩ N F ⟨ds.map .fr, M⟩ (vs.map some) H → fb ds M QB EB →
    (∀ F' M' x v H', Same F F' → x.res = true → Ok ⟨P, w, K, cl⟩ N F' ⟨[x], M'⟩ [some v] H' → QB x M' → Q v H') →
    (∀ F' M' x cls od H', Same F F' → Ok ⟨P, w, K, cl⟩ N F' ⟨[], M'⟩ [] H' → XdR ⟨P, w, K, cl⟩ F' H' x cls od → EB x M' → E cls od H') →
    codeAny (model P w) A (.call (.ref f) args) (CR (L2.CX P w) outer P w H s Q E) s
theorem BFn.mono {j k : Nat} {f : Addr} {fd : FuncData} {ps : List Str} {fb : FnB} (G : BFn P w K mg base cl j f fd ps fb) (h : j ≤ k) : BFn P w K mg base cl k f fd ps fb :=
  ⟨G.len, fun A outer s H args us vs ds N F M QB EB Q E hr => G.run A outer s H args us vs ds N F M QB EB Q E (hr.mono h)⟩
theorem BFn.imp {k : Nat} {f : Addr} {fd : FuncData} {ps : List Str} {fb fb' : FnB} (G : BFn P w K mg base cl k f fd ps fb) (h : ∀ ds M Q E, fb' ds M Q E → fb ds M Q E) : BFn P w K mg base cl k f fd ps fb' :=
  ⟨fun ds M Q E z => G.len ds M Q E (h ds M Q E z), fun A outer s H args us vs ds N F M QB EB Q E hr hg e0 hl hb r ok hf => G.run A outer s H args us vs ds N F M QB EB Q E hr hg e0 hl hb r ok (h ds M QB EB hf)⟩
/-- a body's promise: n slots, m parameters -/
def bodyF (t : BS) (n m : Nat) : FnB := fun ds M QB EB => ds.length = m ∧
  t { nx := fun E => QB (.fr .non) E.m, rt := fun s E => s.res = true ∧ QB s E.m } (fun x E => EB x E.m) ⟨ds.map .fr ++ List.replicate (n - m) .un, M⟩
theorem Ok.start {L : Lb} {N : Nh} {F H : Hp} {r : List Sl} {m : Mst} {σ : L2.St} (ok : Ok L N F ⟨r, m⟩ σ H) (n : Nat) : Ok L N F ⟨r ++ List.replicate n .un, m⟩ (σ ++ List.replicate n none) H := by
  have hl : r.length = σ.length := ok.len
  have low : ∀ {i : Nat} {s : Sl}, (r ++ List.replicate n Sl.un)[i]? = some s → s ≠ .un → r[i]? = some s ∧ (σ ++ List.replicate n none)[i]? = σ[i]? := fun {i s} h ne => by
    by_cases h1 : i < r.length
    · rw [List.getElem?_append_left h1] at h
      exact ⟨h, List.getElem?_append_left (by omega)⟩
    · rw [List.getElem?_append_right (by omega), List.getElem?_replicate] at h
      split at h
      · cases h; exact absurd rfl ne
      · cases h
  refine ⟨by simp [hl], ok.sub, fun i d h => ?_, fun i o h => ?_, fun i o h => ?_, fun i j o u p h1 h2 h3 h4 => ?_, ok.mem, ok.mnd, ok.nsub, ok.lks, ok.ndis⟩
  · obtain ⟨h1, h2⟩ := low h (by simp)
    rw [h2]; exact ok.fr i d h1
  · obtain ⟨h1, h2⟩ := low h (by simp)
    rw [h2]; exact ok.ow i o h1
  · obtain ⟨h1, h2⟩ := low h (by simp)
    rw [h2]; exact ok.rd i o h1
  · obtain ⟨g1, e1⟩ := low h1 (by simp)
    obtain ⟨g2, e2⟩ := low h2 (by simp)
    rw [e1] at h3
    rw [e2] at h4
    exact ok.inj i j o u p g1 g2 h3 h4
theorem Ok.cut {L : Lb} {N : Nh} {F H : Hp} {E : En} {s : Sl} {σ : L2.St} {v : V} (ok : Ok L N F ⟨E.r ++ [s], E.m⟩ (σ ++ [some v]) H) (hs : s.res = true) : Ok L N F ⟨[s], E.m⟩ [some v] H := by
  have hl : E.r.length = σ.length := by have := ok.len; simpa using this
  have top : (E.r ++ [s])[E.r.length]? = some s := app_at
  have topx : (σ ++ [some v])[E.r.length]? = some (some v) := by rw [hl]; exact app_at
  have one : ∀ {i : Nat} {y : Sl}, ([s] : List Sl)[i]? = some y → i = 0 ∧ y = s := fun {i y} h => by
    cases i with
    | zero => cases h; exact ⟨rfl, rfl⟩
    | succ i => simp at h
  refine ⟨rfl, ok.sub, fun i d h => ?_, fun i o h => ?_, fun i o h => ?_, fun i j o u p h1 h2 _ _ => ?_, ok.mem, ok.mnd, ok.nsub, ok.lks, ok.ndis⟩
  · obtain ⟨rfl, e⟩ := one h
    subst e
    obtain ⟨u, g1, g2⟩ := ok.fr _ d top
    rw [topx] at g1; cases g1
    exact ⟨v, rfl, g2⟩
  · obtain ⟨rfl, e⟩ := one h
    subst e
    obtain ⟨u, g1, g2⟩ := ok.ow _ o top
    rw [topx] at g1; cases g1
    exact ⟨u, rfl, g2⟩
  · obtain ⟨rfl, e⟩ := one h
    subst e
    cases hs
  · rw [(one h1).1, (one h2).1]
theorem Ok.bare0 {L : Lb} {N : Nh} {F H : Hp} {E : En} {σ : L2.St} (ok : Ok L N F E σ H) : Ok L N F ⟨[], E.m⟩ [] H :=
  ⟨rfl, ok.sub, fun i d h => by simp at h, fun i o h => by simp at h, fun i o h => by simp at h, fun i j o u p h => by simp at h, ok.mem, ok.mnd, ok.nsub, ok.lks, ok.ndis⟩
/-- the context of a def's body -/
abbrev bxOf (P : Program) (w : World) (K : PySem.W.Frag) (mg : Str → Option Value) (base : Heap) (cl : Str → Addr) (N : List Str) (qual : Str) (sc : Scope) (f : Addr) (cdv : Value) (A : Around) (outer : List Env) (s : Shared) (H : Hp) (E : XK) : Bx :=
  ⟨cxOf (L2.CX P w) P w K mg base N qual sc f cdv A outer s H E, cl, fun c d _ H' => E c d H'⟩
/-- THE RULE: a def of the text, by its body -/
theorem bfn_D {x qual : Str} {params : Arguments} {body : List Stmt} {scope : Scope} {dvs : List V} {kws : List (Str × V)} {f : Addr} {fd : FuncData} {N ps : List Str} {k : Nat} {t : BS} (G : FunD K x qual params body scope dvs kws f fd) (S : FnScope N ps scope)
    (hb : ∀ (cdv : Value) (A : Around) (outer : List Env) (s : Shared) (H : Hp) (E : XK), Room k (A.deeper (envOfC qual scope s.heap.objs.size f cdv)) → A.guards = some [] → BSs (bxOf P w K mg base cl N qual scope f cdv A outer s H E) body t) :
    BFn P w K mg base cl (k + 1) f fd ps (bodyF t N.length ps.length) := by
  obtain ⟨oc, od, dV, kV, doc, pm, an, cdv, ct, osl, rfl, lk, hcd, _, _⟩ := G.ex
  refine ⟨fun ds M Q E z => z.1, fun A outer s H args us vs ds Nn F M QB EB Q E hr hgd e0 hl bnd r ok hf hQ hE => ?_⟩
  obtain ⟨hdl, hf⟩ := hf
  have hvl : vs.length = ps.length := r.length.trans hl
  have KX : K.In s.heap := e0.mod.kin.keeps fun b o e => (e0.bs b o e).1
  have lim : s.heap.NoLimit := e0.mod.nolimit.keeps fun b o e => (e0.bs b o e).1
  have places : ∀ y ∈ ps.zip us, scope.names.lookup y.1 = some .local ∨ (scope.names.lookup y.1 = some .cell ∧ ((cellsFrom (s.heap.objs.size + 1) scope.names []).lookup y.1).isSome = true) := by
    rintro ⟨n, v⟩ hy
    have hn : n ∈ ps := (List.of_mem_zip hy).1
    exact (S.par n hn).imp id fun q => ⟨q, PySem.W.cellsFrom_some _ _ _ (.inl q)⟩
  refine codeAny_call_function hr.depth (KX _ _ lk) rfl S.co S.gen rfl (PySem.W.codeRec_of KX hcd) (bnd _ _ _ _ ?_)
  refine wpAny_newFunctionEnv_cells S.kind places fun env he s1 x1 => ?_
  subst he
  refine ⟨lim.keeps x1.toInCall.keep, codeAny_func ?_⟩
  have bdy := hb cdv A outer s H E (hr.deeper _) hgd
  have I := inv_start (CX := L2.CX P w) (E := E) S hr.hd e0 hvl r x1
  have okS := ok.start (N.length - ps.length)
  have eσ : vs.map some ++ List.replicate (N.length - ps.length) Option.none = L2.start N vs := by unfold L2.start; rw [hvl]
  rw [eσ] at okS
  refine wpAny_mono (bdy.run [] s1 (L2.start N vs) H { nx := fun _ H' => Q .non H', rt := Q } I ⟨Nn, F, _, _, _, okS, hf, ?_, ?_, fun _ _ _ _ _ _ z => z.elim, fun _ _ _ _ _ _ z => z.elim, ?_⟩) (fun fl s' hs => ?_) fun e s' hs => hs
  · intro F' E' σ' H' sF ok' q
    exact hQ F' E'.m (.fr .non) .non H' sF rfl (ok'.bare0.push rep_non) q
  · intro F' E' y v σ' H' sF ok' q
    exact hQ F' E'.m y v H' sF q.1 (ok'.cut q.1) q.2
  · intro F' E' y cls d σ' H' sF ok' xr q
    exact hE F' E'.m y cls d H' sF ok'.bare0 xr q
  · cases fl with
    | ret u =>
      obtain ⟨v, σ', H', J, rv, q⟩ := hs
      exact ⟨v, H', J.os, J.bare, J.base, J.hok, rv, q⟩
    | next =>
      obtain ⟨σ', H', J, q⟩ := hs
      exact ⟨V.non, H', J.os, J.bare, J.base, J.hok, rfl, q⟩
    | brk =>
      obtain ⟨_, _, _, q⟩ := hs
      exact q.elim
    | cont =>
      obtain ⟨_, _, _, q⟩ := hs
      exact q.elim
/-- the names of a def, looked at -/
def visOk (N : List Str) (sc : Scope) (tb : List (Nat × Str)) : Bool :=
  tb.all fun p => decide (N[p.1]? = some p.2) && (match sc.names.lookup p.2 with | some .local => true | some .cell => true | some .free => true | _ => false) && !(p.2 == ("__debug__" : Str)) && !(p.2 == ("__classdict__" : Str))
def glsOk (sc : Scope) (gl : List Str) : Bool :=
  gl.all fun x => (match sc.names.lookup x with | some .globalImplicit => true | _ => false) && !(x == ("__debug__" : Str)) && !(x == ("__name__" : Str))
theorem visOk_of {N : List Str} {sc : Scope} {tb : List (Nat × Str)} (h : visOk N sc tb = true) : ∀ p ∈ tb, N[p.1]? = some p.2 ∧ Vis sc p.2 ∧ (p.2 == ("__debug__" : Str)) = false ∧ (p.2 == ("__classdict__" : Str)) = false := fun p hp => by
  have q := List.all_eq_true.mp h p hp
  simp only [Bool.and_eq_true, decide_eq_true_eq, Bool.not_eq_true'] at q
  obtain ⟨⟨⟨h1, h2⟩, h3⟩, h4⟩ := q
  refine ⟨h1, ?_, h3, h4⟩
  unfold Vis
  revert h2
  cases e : sc.names.lookup p.2 with
  | none => intro z; cases z
  | some k => cases k <;> intro z <;> first | exact .inl rfl | exact .inr (.inl rfl) | exact .inr (.inr rfl) | cases z
theorem glsOk_of {sc : Scope} {gl : List Str} (h : glsOk sc gl = true) : ∀ x ∈ gl, sc.names.lookup x = some .globalImplicit ∧ (x == ("__debug__" : Str)) = false ∧ x ≠ "__name__" := fun x hx => by
  have q := List.all_eq_true.mp h x hx
  simp only [Bool.and_eq_true, Bool.not_eq_true'] at q
  obtain ⟨⟨h1, h2⟩, h3⟩ := q
  refine ⟨?_, h2, fun e => ?_⟩
  · revert h1
    cases e : sc.names.lookup x with
    | none => intro z; cases z
    | some k => cases k <;> intro z <;> first | rfl | cases z
  · rw [e] at h3; simp at h3
theorem gd_fn {N ps : List Str} {qual : Str} {sc : Scope} {f : Addr} {cdv : Value} {A : Around} {outer : List Env} {s : Shared} {H : Hp} {E : XK} {k : Nat} {tb : List (Nat × Str)} {gl : List Str} (S : FnScope N ps sc)
    (hr : Room k (A.deeper (envOfC qual sc s.heap.objs.size f cdv))) (hg : A.guards = some []) (hv : visOk N sc tb = true) (hgl : glsOk sc gl = true) : Gd (bxOf P w K mg base cl N qual sc f cdv A outer s H E) N tb gl k where
  calm := rfl
  rm := hr
  gd := hg
  tk := takes_of rfl rfl rfl rfl
  pass := passes_of rfl
  nm := rfl
  nd := S.nd
  vis := visOk_of hv
  gls := fun x hx => glsOk_of hgl x hx
end

/-! ### calls -/
section
variable {b : Bx} {N : List Str} {tb : List (Nat × Str)} {gl : List Str} {k j : Nat} {f C : Addr} {fd : FuncData} {ps : List Str} {fb : FnB}
def bCall (fb : FnB) (dds : List D) (t : BA) : BT := fun E Q X => t E (fun ds E1 => fb (ds ++ dds) E1.m (fun s M => Q s ⟨E1.r, M⟩) fun x M => X x ⟨E1.r, M⟩) X
/-- the defaults of a def -/
def Dfl (K : PySem.W.Frag) (fd : FuncData) (ps : List Str) (dds : List D) : Prop := ∃ (dus : List Value) (dvs : List V), Binds K fd ps dus ∧ Vals dvs dus ∧ ∀ L F, L.K = K → RepA L F dds dvs
theorem repA_app {L : Lb} {F : Hp} : ∀ {ds es : List D} {vs us : List V}, RepA L F ds vs → RepA L F es us → RepA L F (ds ++ es) (vs ++ us)
  | [], es, vs, us, h, g => by rw [RepA] at h; subst h; exact g
  | d :: ds, es, vs, us, h, g => by
    rw [RepA] at h
    obtain ⟨v, r, e, h1, h2⟩ := h
    subst e
    exact repA_cons h1 (repA_app h2 g)
theorem repA_len {L : Lb} {F : Hp} : ∀ {ds : List D} {vs : List V}, RepA L F ds vs → ds.length = vs.length
  | [], vs, h => by rw [RepA] at h; subst h; rfl
  | d :: ds, vs, h => by
    rw [RepA] at h
    obtain ⟨v, r, e, h1, h2⟩ := h
    subst e
    simp [repA_len h2]
/-- the callee runs (us: its whole arguments) -/
theorem run_bfn (g : Gd b N tb gl k) (G : BFn b.X.prog b.X.w b.X.K b.X.mg b.X.base b.cl j f fd ps fb) (A' : Around) (hr : Room j A') (hgd : A'.guards = some []) {Nn : Nh} {F : Hp} {E : En} {QB : Sl → Mst → Prop} {EB : Xd → Mst → Prop} {pins : List (Addr × Obj)} {σ : L2.St} {H : Hp} {s : Shared} {Q : VK}
    {args : Args} {us : List Value} {vs : List V} {ds : List D} (I : Inv b.X pins σ H s) (e0 : Env0 b.X.prog b.X.w b.X.K b.X.mg b.X.base A' b.X.stack s H) (hl : us.length = ps.length) (bnd : BindsTo s fd args (ps.zip us)) (r : Vals vs us) (ok : Ok b.lb Nn F E σ H) (rp : RepA b.lb F ds vs)
    (hf : fb ds E.m QB EB) (hQ : ∀ F' x v H' M, Same F F' → x.res = true → Ok b.lb Nn F' ⟨E.r ++ [x], M⟩ (σ ++ [some v]) H' → QB x M → Q v H')
    (hX : ∀ F' x M cls d H', Same F F' → Ok b.lb Nn F' ⟨E.r, M⟩ σ H' → XdR b.lb F' H' x cls d → EB x M → b.W cls d σ H') :
    codeAny (model b.X.prog b.X.w) A' (.call (.ref f) args) (fun r s' => match r with | .ok (.ret u) => EP b.X pins σ Q u s' | .ok _ => False | .error e => b.X.xe e s') s := by
  refine codeAny_mono (G.run A' b.X.stack s H args us vs ds (ownN Nn E σ H) F E.m QB EB Q (fun cls d H' => b.W cls d σ H') hr hgd e0 hl bnd r (ok.args rp) hf
    (fun F' M' x v H' sF hx ok' q => hQ F' x v H' M' sF hx (ok.back sF ok' hx) q)
    (fun F' M' x cls d H' sF ok' xr q => hX F' x M' cls d H' sF (ok.backX sF ok') xr q)) fun rr s' hq => ?_
  cases rr with
  | error e => exact g.tk e s' (XE.of_call I (fun _ _ _ z => z) hq)
  | ok fl =>
    cases fl with
    | ret u => exact I.after hq
    | next => exact hq
    | brk => exact hq
    | cont => exact hq
theorem bcall_low (g : Gd b N tb gl k) (G : BFn b.X.prog b.X.w b.X.K b.X.mg b.X.base b.cl j f fd ps fb) (hj : j ≤ k) {Nn : Nh} {F : Hp} {E : En} {QB : Sl → En → Prop} {XB : QX} {pins : List (Addr × Obj)} {σ : L2.St} {H : Hp} {s : Shared} {Q : VK}
    {us dus : List Value} {vs dvs : List V} {ds dds : List D} (hb : Binds b.X.K fd ps dus) (hd : Vals dvs dus) (rd : ∀ L F, L.K = b.X.K → RepA L F dds dvs) (I : Inv b.X pins σ H s) (r : Vals vs us) (ok : Ok b.lb Nn F E σ H) (rp : RepA b.lb F ds vs)
    (hf : fb (ds ++ dds) E.m (fun x M => QB x ⟨E.r, M⟩) fun x M => XB x ⟨E.r, M⟩)
    (hQ : ∀ F' E' x v H', Same F F' → Ok b.lb Nn F' ⟨E'.r ++ [x], E'.m⟩ (σ ++ [some v]) H' → QB x E' → Q v H') (hX : xOk b Nn F XB) :
    wpAny (model b.X.prog b.X.w) b.X.A (call (.ref f) us) (EP b.X pins σ Q) b.X.xe s := by
  have rp2 := repA_app rp (rd b.lb F rfl)
  have hlen := G.len _ _ _ _ hf
  have hl : (us ++ dus).length = ps.length := by rw [← hlen, repA_len rp2, (r.append hd).length]
  refine wpAny_call (codeAny_mono (run_bfn g G b.X.A (g.rm.mono hj) g.gd I I.env0 hl (hb s us I.kIn hl) (r.append hd) ok rp2 hf (fun F' x v H' M sF _ ok' q => hQ F' ⟨E.r, M⟩ x v H' sF ok' q) (fun F' y M cls d H' sF ok' xr q => hX F' ⟨E.r, M⟩ y cls d σ H' sF ok' xr q)) fun rr s' hq => ?_)
  cases rr with
  | error e => exact hq
  | ok fl =>
    cases fl with
    | ret u => exact hq
    | next => exact hq
    | brk => exact hq
    | cont => exact hq
end
end B
/-! BCal: calls of defs and methods, instances and their fields, over data. -/
namespace B
open PySem PySem.Spec PyProof.Rows L2
/-- what a datum is an instance of -/
def Ob.ins? : Ob → Option (Str × List (Str × D))
  | .ins c fs => some (c, fs)
  | .lst _ => none
  | .dic _ => none
  | .rng _ => none
  | .nats => none
def inst (M : Mst) : D → Option (Str × List (Str × D))
  | .obj c fs => some (c, fs)
  | .ptr a => (M.lookup a).bind Ob.ins?
  | .non => none
  | .bl _ => none
  | .int _ => none
  | .str _ => none
  | .ty _ => none
  | .tup _ => none
  | .lst _ => none
  | .dic _ => none
  | .exc _ _ => none
  | .scr _ => none
theorem mem_lookup {M : Mst} {a : Nat} {o : Ob} (h : M.lookup a = some o) : (a, o) ∈ M := by
  induction M with
  | nil => cases h
  | cons p M ih =>
    obtain ⟨k, u⟩ := p
    rw [List.lookup_cons] at h
    by_cases e : (a == k) = true
    · rw [e] at h
      cases h
      rw [beq_iff_eq.mp e]
      exact List.mem_cons_self
    · rw [Bool.not_eq_true] at e
      rw [e] at h
      exact List.mem_cons_of_mem _ (ih h)
section
variable {L : Lb} {N : Nh} {F H : Hp} {E : En} {σ : L2.St}
theorem inst_at (ok : Ok L N F E σ H) {d : D} {v : V} {c : Str} {fs : List (Str × D)} (r : RepT L F H d v) (h : inst E.m d = some (c, fs)) : ∃ a dx ws, v = .ref a ∧ H a = some (.ins (L.cl c) dx ws) ∧ RepF L F fs ws := by
  cases d with
  | obj c' fs' =>
    cases h
    exact r
  | ptr a =>
    have h : (E.m.lookup a).bind Ob.ins? = some (c, fs) := h
    cases e : E.m.lookup a with
    | none => rw [e] at h; cases h
    | some o =>
      rw [e] at h
      have h : o.ins? = some (c, fs) := h
      cases o with
      | ins c' fs' =>
        cases h
        obtain ⟨h1, _⟩ := ok.mem _ (mem_lookup e)
        obtain ⟨dx, ws, h2, h3⟩ := h1
        have r : Rep L F (.ptr a) v := r
        rw [Rep] at r
        exact ⟨a, dx, ws, r, h2, h3⟩
      | _ => cases h
  | _ => cases h
theorem repF_lookup {f : Str} : ∀ {fs : List (Str × D)} {ws : List (Str × V)} {d : D}, RepF L F fs ws → fs.lookup f = some d → ∃ v, ws.lookup f = some v ∧ Rep L F d v
  | [], ws, d, _, h => by cases h
  | (g, e) :: r, ws, d, h, q => by
    rw [RepF] at h
    obtain ⟨v, ws', e1, h1, h2⟩ := h
    subst e1
    rw [List.lookup_cons] at q ⊢
    cases k : f == g with
    | true => rw [k] at q; cases q; exact ⟨v, rfl, h1⟩
    | false => rw [k] at q; exact repF_lookup h2 q
theorem repF_none {f : Str} : ∀ {fs : List (Str × D)} {ws : List (Str × V)}, RepF L F fs ws → fs.lookup f = none → ws.lookup f = none
  | [], ws, h, _ => by rw [RepF] at h; subst h; rfl
  | (g, e) :: r, ws, h, q => by
    rw [RepF] at h
    obtain ⟨v, ws', e1, h1, h2⟩ := h
    subst e1
    rw [List.lookup_cons] at q ⊢
    cases k : f == g with
    | true => rw [k] at q; cases q
    | false => rw [k] at q; exact repF_none h2 q
theorem repF_len : ∀ {fs : List (Str × D)} {ws : List (Str × V)}, RepF L F fs ws → fs.length = ws.length
  | [], ws, h => by rw [RepF] at h; subst h; rfl
  | (g, e) :: r, ws, h => by
    rw [RepF] at h
    obtain ⟨v, ws', e1, h1, h2⟩ := h
    subst e1
    simp [repF_len h2]
/-- a field is stored -/
def putD (f : Str) (d : D) : List (Str × D) → List (Str × D)
  | [] => [(f, d)]
  | (g, e) :: r => if g = f then (g, d) :: r else (g, e) :: putD f d r
theorem repF_put {f : Str} {d : D} {v : V} (h : Rep L F d v) : ∀ {fs : List (Str × D)} {ws : List (Str × V)}, RepF L F fs ws → RepF L F (putD f d fs) (putF f v ws)
  | [], ws, g => by
    rw [RepF] at g
    subst g
    show RepF L F [(f, d)] [(f, v)]
    rw [RepF]
    exact ⟨v, [], rfl, h, by rw [RepF]⟩
  | (n, e) :: r, ws, g => by
    rw [RepF] at g
    obtain ⟨u, ws', e1, h1, h2⟩ := g
    subst e1
    show RepF L F (if n = f then (n, d) :: r else (n, e) :: putD f d r) (if n = f then (n, v) :: ws' else (n, u) :: putF f v ws')
    by_cases q : n = f
    · rw [if_pos q, if_pos q, RepF]
      exact ⟨v, ws', rfl, h, h2⟩
    · rw [if_neg q, if_neg q, RepF]
      exact ⟨u, _, rfl, h1, repF_put h h2⟩
/-- a changing instance's content is changed -/
def putM (a : Nat) (o : Ob) : Mst → Mst
  | [] => []
  | (k, u) :: r => if k = a then (k, o) :: r else (k, u) :: putM a o r
theorem putM_keys (a : Nat) (o : Ob) : ∀ M : Mst, (putM a o M).map (·.1) = M.map (·.1)
  | [] => rfl
  | (k, u) :: r => by
    unfold putM
    split
    · rfl
    · simp only [List.map_cons, putM_keys a o r]
theorem putM_mem {a : Nat} {o : Ob} : ∀ {M : Mst} {x : Nat × Ob}, (M.map (·.1)).Nodup → x ∈ putM a o M → (x.1 = a ∧ x.2 = o) ∨ (x.1 ≠ a ∧ x ∈ M)
  | [], x, _, h => by cases h
  | (k, u) :: r, x, nd, h => by
    unfold putM at h
    rw [List.map_cons, List.nodup_cons] at nd
    split at h
    · rename_i e
      rcases List.mem_cons.mp h with rfl | h
      · exact .inl ⟨e, rfl⟩
      · refine .inr ⟨fun q => nd.1 ?_, List.mem_cons_of_mem _ h⟩
        rw [show k = x.1 from e.trans q.symm]
        exact List.mem_map.mpr ⟨x, h, rfl⟩
    · rename_i e
      rcases List.mem_cons.mp h with rfl | h
      · exact .inr ⟨e, List.mem_cons_self⟩
      · exact (putM_mem nd.2 h).imp id fun q => ⟨q.1, List.mem_cons_of_mem _ q.2⟩
/-- an object of M is written -/
theorem Ok.writeM {a : Nat} {o u : Ob} {x : HO} (ok : Ok L N F E σ H) (hm : (a, o) ∈ E.m) (h : ObR L F (upd H a x) u a) : Ok L N F ⟨E.r, putM a u E.m⟩ σ (upd H a x) := by
  obtain ⟨hO, hF, hN⟩ := ok.mem _ hm
  have hF : F a = none := hF
  have hN : N a = none := hN
  have k : ∀ {q : Addr}, q ≠ a → ∀ y, H q = some y → (upd H a x) q = some y := fun {q} n y hy => by rw [upd_ne n]; exact hy
  refine ⟨ok.len, fun c y hy => k (fun e => by rw [e, hF] at hy; cases hy) y (ok.sub c y hy), ok.fr, fun j w hj => ?_, fun j w hj => ?_, ok.inj, fun y hy => ?_, by show ((putM a u E.m).map (·.1)).Nodup; rw [putM_keys]; exact ok.mnd,
    fun c y hy => k (fun e => by rw [e, hN] at hy; cases hy) y (ok.nsub c y hy), ok.lks, ok.ndis⟩
  · obtain ⟨q, a1, a2, a3, a4, a5⟩ := ok.ow j w hj
    have ne : q ≠ a := fun e => a5 (List.mem_map.mpr ⟨_, hm, e.symm⟩)
    exact ⟨q, a1, a2.mono (Same.refl F) fun y => k ne y, a3, a4, by show q ∉ (putM a u E.m).map (·.1); rw [putM_keys]; exact a5⟩
  · obtain ⟨q, a1, a2, a3⟩ := ok.rd j w hj
    have ne : q ≠ a := fun e => by rw [e] at a3; exact ok.lks.at_ _ a3 hN
    exact ⟨q, a1, a2.mono (Same.refl F) fun y => k ne y, a3⟩
  · rcases putM_mem ok.mnd hy with ⟨e1, e2⟩ | ⟨ne, hy⟩
    · rw [e1, e2]; exact ⟨h, hF, hN⟩
    · obtain ⟨h1, h2, h3⟩ := ok.mem y hy
      exact ⟨h1.mono (Same.refl F) fun z => k ne z, h2, h3⟩
end

section
variable {b : Bx} {Nm : List Str} {tb : List (Nat × Str)} {gl : List Str} {k j : Nat} {f C : Addr} {fd : FuncData} {ps ks : List Str} {fb : FnB} {x m : Str} {p pos apos : Pos} {e o : Expr} {es : List Expr} {kws : List Keyword} {t : BA} {to : BO} {dds : List D}
theorem BAs.runB (ha : BAs b es t) {N : Nh} {F : Hp} {E : En} {QB : List D → En → Prop} {XB : QX} {pins : List (Addr × Obj)} {σ : L2.St} {H : Hp} {s : Shared} (I : Inv b.X pins σ H s) (ok : Ok b.lb N F E σ H) (ht : t E QB XB) (hX : xOk b N F XB) :
    wpAny (model b.X.prog b.X.w) b.X.A (spliced (backTo pos (starEach es b.X.env))) (fun us s1 => ∃ vs H1 F' E' ds, Inv b.X pins σ H1 s1 ∧ Vals vs us ∧ Same F F' ∧ Ok b.lb N F' E' σ H1 ∧ RepA b.lb F' ds vs ∧ QB ds E') b.X.xe s :=
  thn (ha.run pos pins s σ H (fun vs H' => ∃ F' E' ds, Same F F' ∧ Ok b.lb N F' E' σ H' ∧ RepA b.lb F' ds vs ∧ QB ds E') I ⟨N, F, E, QB, XB, ok, ht, fun F' E' ds vs H' s' ok' r q => ⟨F', E', ds, s', ok', r, q⟩, hX⟩)
    fun us s1 ⟨vs, H1, I1, r, F', E', ds, s', ok', rp, q⟩ => ⟨vs, H1, F', E', ds, I1, r, s', ok', rp, q⟩
theorem BV.runB {e : Expr} (ha : BV b e to) {N : Nh} {F : Hp} {E : En} {QB : D → En → Prop} {XB : QX} {pins : List (Addr × Obj)} {σ : L2.St} {H : Hp} {s : Shared} (I : Inv b.X pins σ H s) (ok : Ok b.lb N F E σ H) (ht : to E QB XB) (hX : xOk b N F XB) :
    wpAny (model b.X.prog b.X.w) b.X.A (eval e b.X.env) (fun u s1 => ∃ v H1 F' E' d, Inv b.X pins σ H1 s1 ∧ RelV v u ∧ Same F F' ∧ Ok b.lb N F' E' σ H1 ∧ Rep b.lb F' d v ∧ QB d E') b.X.xe s :=
  thn (PE.run ha pins s σ H (fun v H' => ∃ F' E' d, Same F F' ∧ Ok b.lb N F' E' σ H' ∧ Rep b.lb F' d v ∧ QB d E') I ⟨N, F, E, QB, XB, ok, ht, fun F' E' d v H' s' ok' r q => ⟨F', E', d, s', ok', r, q⟩, hX⟩)
    fun us s1 ⟨v, H1, I1, r, F', E', d, s', ok', rp, q⟩ => ⟨v, H1, F', E', d, I1, r, s', ok', rp, q⟩
/-- f(e, ..) -/
theorem be_call (g : Gd b Nm tb gl k) (G : BFn b.X.prog b.X.w b.X.K b.X.mg b.X.base b.cl j f fd ps fb) (hj : j ≤ k) (hg : Gl b.X x) (hm : b.X.mg x = some (.ref f)) (hk : PySem.W.keepIn b.X.K (.ref f) = true) (df : Dfl b.X.K fd ps dds) (ha : BAs b (e :: es) t)
    (hdb : (x == ("__debug__" : Str)) = false := by decide) (he : starEach (e :: es) b.X.env = (false, eval e b.X.env) :: starEach es b.X.env := by rfl) (hpl : (backTo pos (starEach es b.X.env)).any (·.1) = false := by rfl) :
    BE b (.Call (.Name x p) (e :: es) [] pos) (bCall fb dds t) := by
  obtain ⟨dus, dvs, d1, d2, d3⟩ := df
  refine ⟨fun pins s σ H Q I ⟨N, F, E, QB, XB, ok, ht, hQ, hX⟩ => ?_⟩
  refine wpAny_Call_Name_kw (ld_glob I hg hm ?_ hdb)
  refine PySem.W.callWith_K (h₀ := b.X.base) I.ok.mod.kin hk (thn (BAs.runB ha I ok ht hX) fun us s1 ⟨vs, H1, F', E', ds, I1, r, s', ok', rp, q⟩ => ⟨I1.kIn, ?_⟩) he hpl
  exact bcall_low g G hj d1 d2 d3 I1 r ok' rp q (fun F2 E2 y v H2 s2 => hQ F2 E2 y v H2 (s'.trans s2)) (hX.go s')
/-- f() -/
theorem be_call0 (g : Gd b Nm tb gl k) (G : BFn b.X.prog b.X.w b.X.K b.X.mg b.X.base b.cl j f fd ps fb) (hj : j ≤ k) (hg : Gl b.X x) (hm : b.X.mg x = some (.ref f)) (hk : PySem.W.keepIn b.X.K (.ref f) = true) (df : Dfl b.X.K fd ps dds)
    (hdb : (x == ("__debug__" : Str)) = false := by decide) : BE b (.Call (.Name x p) [] [] pos) (bCall fb dds bNil) := by
  obtain ⟨dus, dvs, d1, d2, d3⟩ := df
  refine ⟨fun pins s σ H Q I ⟨N, F, E, QB, XB, ok, ht, hQ, hX⟩ => ?_⟩
  refine wpAny_Call_Name_kw (ld_glob I hg hm ?_ hdb)
  exact PySem.W.callWith_K0 I.kIn hk (bcall_low (ds := []) (vs := []) (us := []) g G hj d1 d2 d3 I .nil ok repA_nil ht hQ hX)
/-- how a call with keywords binds -/
def KDfl (K : PySem.W.Frag) (fd : FuncData) (ps ks : List Str) (gD : List D → List D → List D) : Prop := ∃ (g : List Value → List Value → List Value) (gV : List V → List V → List V), KBinds K fd ps ks g gV ∧
  ∀ L F ds vs es zs, L.K = K → RepA L F ds vs → RepA L F es zs → RepA L F (gD ds es) (gV vs zs)
abbrev BKs (b : Bx) (kws : List Keyword) (t : BA) : Prop := PK b.X kws (lowA b t)
theorem BKs.runB (ha : BKs b kws t) {N : Nh} {F : Hp} {E : En} {QB : List D → En → Prop} {XB : QX} {pins : List (Addr × Obj)} {σ : L2.St} {H : Hp} {s : Shared} (I : Inv b.X pins σ H s) (ok : Ok b.lb N F E σ H) (ht : t E QB XB) (hX : xOk b N F XB) :
    wpAny (model b.X.prog b.X.w) b.X.A (evalAll ((backToKw pos (keywordEach kws b.X.env)).map (·.2))) (fun us s1 => ∃ vs H1 F' E' ds, Inv b.X pins σ H1 s1 ∧ Vals vs us ∧ Same F F' ∧ Ok b.lb N F' E' σ H1 ∧ RepA b.lb F' ds vs ∧ QB ds E') b.X.xe s :=
  thn (PK.run ha pos pins s σ H (fun vs H' => ∃ F' E' ds, Same F F' ∧ Ok b.lb N F' E' σ H' ∧ RepA b.lb F' ds vs ∧ QB ds E') I ⟨N, F, E, QB, XB, ok, ht, fun F' E' ds vs H' s' ok' r q => ⟨F', E', ds, s', ok', r, q⟩, hX⟩)
    fun us s1 ⟨vs, H1, I1, r, F', E', ds, s', ok', rp, q⟩ => ⟨vs, H1, F', E', ds, I1, r, s', ok', rp, q⟩
theorem pk_weak {X : Cx} {kws : List Keyword} {t t' : TA} (h : PK X kws t) (w : ∀ σ H Q, t' σ H Q → t σ H Q) : PK X kws t' := ⟨fun pos pins s σ H Q I q => h.run pos pins s σ H Q I (w σ H Q q)⟩
theorem bk_nil : BKs b [] bNil := pk_weak pk_nil fun σ H Q ⟨N, F, E, QB, XB, ok, ht, hQ, hX⟩ => hQ F E [] [] H (Same.refl F) ok repA_nil ht
theorem bk_cons {nm : Option Str} {kpos : Pos} {u : BA} (h : BV b e to) (hs : BKs b kws u) : BKs b (⟨nm, e, kpos⟩ :: kws) (bCons to u) :=
  pk_weak (pk_cons h hs) fun σ H Q ⟨N, F, E, QB, XB, ok, ht, hQ, hX⟩ =>
    ⟨N, F, E, _, XB, ok, ht, fun F1 E1 d v H1 s1 ok1 r1 q1 => ⟨N, F1, E1, _, XB, ok1, q1, fun F2 E2 ds vs H2 s2 ok2 r2 q2 =>
      hQ F2 E2 (d :: ds) (v :: vs) H2 (s1.trans s2) ok2 (repA_cons (r1.mono s2 d v) r2) q2, hX.go s1⟩, hX⟩
def bCallK (fb : FnB) (gD : List D → List D → List D) (t u : BA) : BT := fun E Q X => t E (fun ds E1 => u E1 (fun zs E2 => fb (gD ds zs) E2.m (fun s M => Q s ⟨E2.r, M⟩) fun x M => X x ⟨E2.r, M⟩) X) X
theorem bcallk_low (g : Gd b Nm tb gl k) (G : BFn b.X.prog b.X.w b.X.K b.X.mg b.X.base b.cl j f fd ps fb) (hj : j ≤ k) {gD : List D → List D → List D} (df : KDfl b.X.K fd ps ks gD) {N : Nh} {F : Hp} {E : En} {QB : Sl → En → Prop} {XB : QX} {pins : List (Addr × Obj)} {σ : L2.St} {H : Hp} {s : Shared} {Q : VK}
    {us ws : List Value} {vs zs : List V} {ds es : List D} (I : Inv b.X pins σ H s) (r : Vals vs us) (rz : Vals zs ws) (ok : Ok b.lb N F E σ H) (rp : RepA b.lb F ds vs) (rq : RepA b.lb F es zs)
    (hf : fb (gD ds es) E.m (fun x M => QB x ⟨E.r, M⟩) fun x M => XB x ⟨E.r, M⟩)
    (hQ : ∀ F' E' x v H', Same F F' → Ok b.lb N F' ⟨E'.r ++ [x], E'.m⟩ (σ ++ [some v]) H' → QB x E' → Q v H') (hX : xOk b N F XB) :
    wpAny (model b.X.prog b.X.w) b.X.A (call (.ref f) us (ks.zip ws)) (EP b.X pins σ Q) b.X.xe s := by
  obtain ⟨g', gV, kb, kr⟩ := df
  have rp2 := kr b.lb F ds vs es zs rfl rp rq
  have r2 := kb.rel r rz
  have hlen := G.len _ _ _ _ hf
  have hl : (g' us ws).length = ps.length := by rw [← r2.length, ← repA_len rp2, hlen]
  refine wpAny_call (codeAny_mono (run_bfn g G b.X.A (g.rm.mono hj) g.gd I I.env0 hl (kb.to s us ws I.kIn hl) r2 ok rp2 hf (fun F' x v H' M sF _ ok' q => hQ F' ⟨E.r, M⟩ x v H' sF ok' q) (fun F' y M cls d H' sF ok' xr q => hX F' ⟨E.r, M⟩ y cls d σ H' sF ok' xr q)) fun rr s' hq => ?_)
  cases rr with
  | error e => exact hq
  | ok fl =>
    cases fl with
    | ret u => exact hq
    | next => exact hq
    | brk => exact hq
    | cont => exact hq
variable {gD : List D → List D → List D} {u : BA}
/-- f(e, .., k = v, ..) -/
theorem be_callK (g : Gd b Nm tb gl k) (G : BFn b.X.prog b.X.w b.X.K b.X.mg b.X.base b.cl j f fd ps fb) (hj : j ≤ k) (hg : Gl b.X x) (hm : b.X.mg x = some (.ref f)) (hk : PySem.W.keepIn b.X.K (.ref f) = true) (df : KDfl b.X.K fd ps ks gD) (ha : BAs b (e :: es) t) (hkw : BKs b kws u)
    (hall : (backToKw pos (keywordEach kws b.X.env)).all (·.1.isSome) = true := by rfl) (hks : (backToKw pos (keywordEach kws b.X.env)).filterMap (·.1) = ks := by rfl)
    (hdb : (x == ("__debug__" : Str)) = false := by decide) (he : starEach (e :: es) b.X.env = (false, eval e b.X.env) :: starEach es b.X.env := by rfl)
    (hpl : ((backTo pos (starEach (e :: es) b.X.env)).any (·.1) || (backToKw pos (keywordEach kws b.X.env)).any (·.1.isNone)) = false := by rfl) :
    BE b (.Call (.Name x p) (e :: es) kws pos) (bCallK fb gD t u) := by
  refine ⟨fun pins s σ H Q I ⟨N, F, E, QB, XB, ok, ht, hQ, hX⟩ => ?_⟩
  refine wpAny_Call_Name_kw (ld_glob I hg hm ?_ hdb)
  refine PySem.W.callWith_KW (h₀ := b.X.base) I.ok.mod.kin hk hall (thn (BAs.runB ha I ok ht hX) fun us s1 ⟨vs, H1, F', E', ds, I1, r, s', ok', rp, q⟩ => ?_) hpl he
  refine thn (BKs.runB hkw I1 ok' q (hX.go s')) fun ws s2 ⟨zs, H2, F2, E2, es', I2, rz, s2', ok2, rq, q2⟩ => ⟨I2.kIn, ?_⟩
  rw [hks]
  exact bcallk_low g G hj df I2 r rz ok2 (RepA.mono s2' _ _ rp) rq q2 (fun F3 E3 y v H3 s3 => hQ F3 E3 y v H3 ((s'.trans s2').trans s3)) ((hX.go s').go s2')
/-- f(k = v, ..) -/
theorem be_callK0 (g : Gd b Nm tb gl k) (G : BFn b.X.prog b.X.w b.X.K b.X.mg b.X.base b.cl j f fd ps fb) (hj : j ≤ k) (hg : Gl b.X x) (hm : b.X.mg x = some (.ref f)) (hk : PySem.W.keepIn b.X.K (.ref f) = true) (df : KDfl b.X.K fd ps ks gD) (hkw : BKs b kws u)
    (hall : (backToKw pos (keywordEach kws b.X.env)).all (·.1.isSome) = true := by rfl) (hks : (backToKw pos (keywordEach kws b.X.env)).filterMap (·.1) = ks := by rfl)
    (hdb : (x == ("__debug__" : Str)) = false := by decide)
    (hpl : ((backTo pos (starEach [] b.X.env)).any (·.1) || (backToKw pos (keywordEach kws b.X.env)).any (·.1.isNone)) = false := by rfl) :
    BE b (.Call (.Name x p) [] kws pos) (bCallK fb gD bNil u) := by
  refine ⟨fun pins s σ H Q I ⟨N, F, E, QB, XB, ok, ht, hQ, hX⟩ => ?_⟩
  refine wpAny_Call_Name_kw (ld_glob I hg hm ?_ hdb)
  refine PySem.W.callWith_KW0 (h₀ := b.X.base) I.ok.mod.kin hk hall (thn (BKs.runB hkw I ok ht hX) fun ws s2 ⟨zs, H2, F2, E2, es', I2, rz, s2', ok2, rq, q2⟩ => ⟨I2.kIn, ?_⟩) hpl
  rw [hks]
  exact bcallk_low (ds := []) (vs := []) (us := []) g G hj df I2 .nil rz ok2 repA_nil rq q2 (fun F3 E3 y v H3 s3 => hQ F3 E3 y v H3 (s2'.trans s3)) (hX.go s2')

/-! ### fields, methods -/
def bFld (c f : Str) (t : BO) : BO := fun E Q X => t E (fun d E1 => match inst E1.m d with
  | some (c', fs) => c' = c ∧ ∃ v, fs.lookup f = some v ∧ Q v E1
  | none => False) X
theorem bv_fld {c f : Str} {pos : Pos} (he : BOp b e to) (cl : Cls b.X.K (b.cl c)) (na : NoAttr b.X.K (b.cl c) f) (hb : attributeBase e f b.X.env (eval e b.X.env) = eval e b.X.env := by rfl) : BV b (.Attribute e f pos) (bFld c f to) :=
  pe_weak (pe_fld he hb) fun σ H Q ⟨N, F, E, QB, XB, ok, ht, hQ, hX⟩ => ⟨N, F, E, _, XB, ok, ht, fun F' E' d v H' s ok' r q => by
    have q : match inst E'.m d with
      | some (c', fs) => c' = c ∧ ∃ v, fs.lookup f = some v ∧ QB v E'
      | none => False := q
    split at q
    · rename_i c' fs hi
      obtain ⟨rfl, w, hl, q⟩ := q
      obtain ⟨a, dx, ws, e1, h1, h2⟩ := inst_at ok' r hi
      obtain ⟨u, g1, g2⟩ := repF_lookup h2 hl
      exact ⟨a, _, dx, ws, u, e1, h1, cl, na, g1, hQ F' E' w u H' s ok' g2 q⟩
    · exact q.elim, hX⟩
/-- self.f = e, self an object of M -/
def bFldSet (c f : Str) (to te : BO) : BS := fun D X E => te E (fun d E1 => to E1 (fun o E2 => match o with
  | .ptr a => ∃ fs, E2.m.lookup a = some (.ins c fs) ∧ fs.length < 1000 ∧ D.nx ⟨E2.r, putM a (.ins c (putD f d fs)) E2.m⟩
  | _ => False) X) X
theorem bs_fld {c f : Str} {pos pos' : Pos} {te : BO} (ho : BV b o to) (he : BV b e te) (cl : Cls b.X.K (b.cl c)) (na : NoAttr b.X.K (b.cl c) f) (hs : swapsWith e (some (.Attribute o f pos')) pos.line b.X.env = pure false := by rfl) : BSt b (.Assign [.Attribute o f pos'] e pos) (bFldSet c f to te) :=
  ps_weak (ps_fld ho he hs) fun D σ H ⟨N, F, E, DB, XB, ok, ht, h1, h2, h3, h4, hX⟩ => ⟨N, F, E, _, XB, ok, ht, fun F1 E1 d v H1 s1 ok1 r1 q1 => ⟨N, F1, E1, _, XB, ok1, q1, fun F2 E2 u w H2 s2 ok2 r2 q2 => by
    cases u with
    | ptr a =>
      obtain ⟨fs, hl, hlen, q⟩ := q2
      rw [Rep] at r2
      have hm := mem_lookup hl
      obtain ⟨⟨dx, ws, g1, g2⟩, gF, gN⟩ := ok2.mem _ hm
      have r1' := Rep.mono s2 d v r1
      refine ⟨a, _, dx, ws, r2, g1, cl, na, by rw [← repF_len g2]; exact hlen, h1 F2 _ σ _ (s1.trans s2) (ok2.writeM (u := .ins c (putD f d fs)) hm ⟨dx, _, upd_same, repF_put r1' g2⟩) q⟩
    | _ => exact False.elim q2, hX.go s1⟩, hX⟩
/-- o.m(e, ..) -/
def bMeth (c m : Str) (fb : FnB) (dds : List D) (to : BO) (t : BA) : BT := fun E Q X => to E (fun d E1 => match inst E1.m d with
  | some (c', fs) => c' = c ∧ fs.lookup m = none ∧ t E1 (fun ds E2 => fb (d :: (ds ++ dds)) E2.m (fun s M => Q s ⟨E2.r, M⟩) fun x M => X x ⟨E2.r, M⟩) X
  | none => False) X
theorem be_meth {c : Str} {pl : Sem Bool} (g : Gd b Nm tb gl k) (cl : Cls b.X.K (b.cl c)) (hm : Meth b.X.K (b.cl c) m f) (G : BFn b.X.prog b.X.w b.X.K b.X.mg b.X.base b.cl j f fd ps fb) (hj : j ≤ k) (df : Dfl b.X.K fd ps dds) (ho : BV b o to) (ha : BAs b (e :: es) t)
    (hst : starEach (e :: es) b.X.env = (false, eval e b.X.env) :: starEach es b.X.env := by rfl) (hpl : (backTo pos (starEach es b.X.env)).any (·.1) = false := by rfl)
    (ht : eval (.Call (.Attribute o m apos) (e :: es) [] pos) b.X.env = (do
      let ov ← eval o b.X.env
      standAt apos.atName
      let (f, first) ← holding [ov] (getMethod ov m pl)
      callWith pos f first (backTo pos (starEach (e :: es) b.X.env)) (backToKw pos (keywordEach [] b.X.env))) := by rfl) :
    BE b (.Call (.Attribute o m apos) (e :: es) [] pos) (bMeth c m fb dds to t) := by
  obtain ⟨dus, dvs, d1, d2, d3⟩ := df
  refine ⟨fun pins s σ H Q I ⟨N, F, E, QB, XB, ok, hz, hQ, hX⟩ => ?_⟩
  refine PySem.W.methodCall_KW (pl := pl) (thn (BV.runB ho I ok hz hX) fun u s1 ⟨v, H1, F', E', d, I1, rv, s', ok', rd, q⟩ => ?_) ht
  split at q
  · rename_i c' fs hi
    obtain ⟨rfl, hn, q⟩ := q
    obtain ⟨a, dx, ws, e1, h1, h2⟩ := inst_at ok' (rd.top ok'.sub) hi
    subst e1
    obtain rfl : u = Value.ref a := rv
    refine getmeth_ok I1 h1 cl hm (repF_none h2 hn) ?_
    refine PySem.W.callWith_K (first := [.ref a]) (h₀ := b.X.base) I.ok.mod.kin hm.kp (thn (BAs.runB ha I1 ok' q (hX.go s')) fun us s2 ⟨vs, H2, F2, E2, ds, I2, r, s2', ok2, rp, q2⟩ => ⟨I2.kIn, ?_⟩) hst hpl
    exact bcall_low (ds := d :: ds) (vs := .ref a :: vs) (us := .ref a :: us) g G hj d1 d2 d3 I2 (.cons rfl r) ok2 (repA_cons (Rep.mono s2' _ _ rd) rp) q2 (fun F3 E3 y v H3 s3 => hQ F3 E3 y v H3 ((s'.trans s2').trans s3)) ((hX.go s').go s2')
  · exact q.elim
theorem be_meth0 {c : Str} {pl : Sem Bool} (g : Gd b Nm tb gl k) (cl : Cls b.X.K (b.cl c)) (hm : Meth b.X.K (b.cl c) m f) (G : BFn b.X.prog b.X.w b.X.K b.X.mg b.X.base b.cl j f fd ps fb) (hj : j ≤ k) (df : Dfl b.X.K fd ps dds) (ho : BV b o to)
    (ht : eval (.Call (.Attribute o m apos) [] [] pos) b.X.env = (do
      let ov ← eval o b.X.env
      standAt apos.atName
      let (f, first) ← holding [ov] (getMethod ov m pl)
      callWith pos f first (backTo pos (starEach [] b.X.env)) (backToKw pos (keywordEach [] b.X.env))) := by rfl) :
    BE b (.Call (.Attribute o m apos) [] [] pos) (bMeth c m fb dds to bNil) := by
  obtain ⟨dus, dvs, d1, d2, d3⟩ := df
  refine ⟨fun pins s σ H Q I ⟨N, F, E, QB, XB, ok, hz, hQ, hX⟩ => ?_⟩
  refine PySem.W.methodCall_KW (pl := pl) (thn (BV.runB ho I ok hz hX) fun u s1 ⟨v, H1, F', E', d, I1, rv, s', ok', rd, q⟩ => ?_) ht
  split at q
  · rename_i c' fs hi
    obtain ⟨rfl, hn, q⟩ := q
    obtain ⟨a, dx, ws, e1, h1, h2⟩ := inst_at ok' (rd.top ok'.sub) hi
    subst e1
    obtain rfl : u = Value.ref a := rv
    refine getmeth_ok I1 h1 cl hm (repF_none h2 hn) ?_
    exact PySem.W.callWith_K0 (first := [.ref a]) I1.kIn hm.kp (bcall_low (ds := [d]) (vs := [.ref a]) (us := [.ref a]) g G hj d1 d2 d3 I1 (.cons rfl .nil) ok' (repA_cons rd repA_nil) q (fun F3 E3 y v H3 s3 => hQ F3 E3 y v H3 (s'.trans s3)) (hX.go s'))
  · exact q.elim
/-- o.m(k = v, ..): gD of the object and the keywords' values -/
def bMethK (c m : Str) (fb : FnB) (gD : List D → List D → List D) (to : BO) (u : BA) : BT := fun E Q X => to E (fun d E1 => match inst E1.m d with
  | some (c', fs) => c' = c ∧ fs.lookup m = none ∧ u E1 (fun zs E2 => fb (gD [d] zs) E2.m (fun s M => Q s ⟨E2.r, M⟩) fun x M => X x ⟨E2.r, M⟩) X
  | none => False) X
theorem be_methK {c : Str} {pl : Sem Bool} (g : Gd b Nm tb gl k) (cl : Cls b.X.K (b.cl c)) (hm : Meth b.X.K (b.cl c) m f) (G : BFn b.X.prog b.X.w b.X.K b.X.mg b.X.base b.cl j f fd ps fb) (hj : j ≤ k) (df : KDfl b.X.K fd ps ks gD) (ho : BV b o to) (hkw : BKs b kws u)
    (hall : (backToKw pos (keywordEach kws b.X.env)).all (·.1.isSome) = true := by rfl) (hks : (backToKw pos (keywordEach kws b.X.env)).filterMap (·.1) = ks := by rfl)
    (hpl : ((backTo pos (starEach [] b.X.env)).any (·.1) || (backToKw pos (keywordEach kws b.X.env)).any (·.1.isNone)) = false := by rfl)
    (ht : eval (.Call (.Attribute o m apos) [] kws pos) b.X.env = (do
      let ov ← eval o b.X.env
      standAt apos.atName
      let (f, first) ← holding [ov] (getMethod ov m pl)
      callWith pos f first (backTo pos (starEach [] b.X.env)) (backToKw pos (keywordEach kws b.X.env))) := by rfl) :
    BE b (.Call (.Attribute o m apos) [] kws pos) (bMethK c m fb gD to u) := by
  refine ⟨fun pins s σ H Q I ⟨N, F, E, QB, XB, ok, hz, hQ, hX⟩ => ?_⟩
  refine PySem.W.methodCall_KW (pl := pl) (thn (BV.runB ho I ok hz hX) fun uu s1 ⟨v, H1, F', E', d, I1, rv, s', ok', rd, q⟩ => ?_) ht
  split at q
  · rename_i c' fs hi
    obtain ⟨rfl, hn, q⟩ := q
    obtain ⟨a, dx, ws, e1, h1, h2⟩ := inst_at ok' (rd.top ok'.sub) hi
    subst e1
    obtain rfl : uu = Value.ref a := rv
    refine getmeth_ok I1 h1 cl hm (repF_none h2 hn) ?_
    refine PySem.W.callWith_KW0 (first := [.ref a]) (h₀ := b.X.base) I.ok.mod.kin hm.kp hall (thn (BKs.runB hkw I1 ok' q (hX.go s')) fun ws2 s2 ⟨zs, H2, F2, E2, es', I2, rz, s2', ok2, rq, q2⟩ => ⟨I2.kIn, ?_⟩) hpl
    rw [hks]
    exact bcallk_low (ds := [d]) (vs := [.ref a]) (us := [.ref a]) g G hj df I2 (.cons rfl .nil) rz ok2 (repA_cons (Rep.mono s2' _ _ rd) repA_nil) rq q2 (fun F3 E3 y v H3 s3 => hQ F3 E3 y v H3 ((s'.trans s2').trans s3)) ((hX.go s').go s2')
  · exact q.elim

/-! ### making instances -/
end
section
variable {L : Lb} {N : Nh} {F F' H H' : Hp} {E : En} {σ : L2.St}
theorem Ok.newM {o : Ob} {p : Addr} (ok : Ok L N F E σ H) (s : Same H H') (hp : H p = none) (h : ObR L F H' o p) : Ok L N F ⟨E.r, (p, o) :: E.m⟩ σ H' ∧ p ∉ E.m.map (·.1) := by
  have np : ∀ {G : Hp}, Same G H → G p = none := fun {G} sG => by
    cases q : G p with
    | none => rfl
    | some y => have := sG p y q; rw [hp] at this; cases this
  have nm : p ∉ E.m.map (·.1) := fun hm => by
    obtain ⟨x, hx, e⟩ := List.mem_map.mp hm
    obtain ⟨h1, _⟩ := ok.mem x hx
    obtain ⟨y, hy⟩ := h1.there
    rw [e, hp] at hy; cases hy
  have ok' := ok.grow s
  refine ⟨⟨ok'.len, ok'.sub, ok'.fr, fun i u hi => ?_, ok'.rd, ok'.inj, fun x hx => ?_, ?_, ok'.nsub, ok'.lks, ok'.ndis⟩, nm⟩
  · obtain ⟨q, h1, h2, h3, h4, h5⟩ := ok.ow i u hi
    obtain ⟨q', g1, g2, g3, g4, g5⟩ := ok'.ow i u hi
    refine ⟨q', g1, g2, g3, g4, fun hm => ?_⟩
    rw [h1] at g1
    cases g1
    rcases List.mem_cons.mp hm with e | hm
    · obtain ⟨y, hy⟩ := h2.there
      have e : q = p := e
      rw [e, hp] at hy; cases hy
    · exact g5 hm
  · rcases List.mem_cons.mp hx with rfl | hx
    · exact ⟨h, np ok.sub, np ok.nsub⟩
    · exact ok'.mem x hx
  · rw [List.map_cons, List.nodup_cons]
    exact ⟨nm, ok.mnd⟩
theorem Ok.dropM {r : List Sl} {M : Mst} {p : Nat × Ob} (ok : Ok L N F ⟨r, p :: M⟩ σ H) : Ok L N F ⟨r, M⟩ σ H :=
  ⟨ok.len, ok.sub, ok.fr, fun i u hi => by
    obtain ⟨q, g1, g2, g3, g4, g5⟩ := ok.ow i u hi
    exact ⟨q, g1, g2, g3, g4, fun hm => g5 (List.mem_cons_of_mem _ hm)⟩, ok.rd, ok.inj, fun x hx => ok.mem x (List.mem_cons_of_mem _ hx), (List.nodup_cons.mp (by have := ok.mnd; rwa [List.map_cons] at this)).2, ok.nsub, ok.lks, ok.ndis⟩
theorem Ok.takeM {r : List Sl} {M : Mst} {a : Nat} {o : Ob} (ok : Ok L N F ⟨r, (a, o) :: M⟩ σ H) : Ok L N F ⟨r ++ [.ow o], M⟩ (σ ++ [some (.ref a)]) H := by
  obtain ⟨h1, h2, h3⟩ := ok.mem _ List.mem_cons_self
  have nd := ok.mnd
  have nd : (a :: M.map (·.1)).Nodup := nd
  exact ok.dropM.pushOw h1 h2 h3 (List.nodup_cons.mp nd).1 fun i u hi e => by
    obtain ⟨q, g1, _, _, _, g5⟩ := ok.ow i u hi
    rw [e] at g1
    cases g1
    exact g5 List.mem_cons_self
end
section
variable {b : Bx} {Nm : List Str} {tb : List (Nat × Str)} {gl : List Str} {k j : Nat} {f C : Addr} {fd : FuncData} {ps ks : List Str} {fb : FnB} {x m : Str} {p pos apos : Pos} {e o : Expr} {es : List Expr} {kws : List Keyword} {t : BA} {to : BO} {dds : List D}
theorem guards_make {A : Around} {C : Addr} {us : List Value} {kw : List (Str × Value)} (h : A.guards = some []) : (A.under (.builtin "type.__call__" ⟨.ref C :: us, kw⟩)).guards = some [] := by
  have e : (Code.builtin "type.__call__" ⟨.ref C :: us, kw⟩).isGuard = false := by
    show guardIds.contains "type.__call__" = false
    decide +kernel
  simp [Around.under, Code.guards, e, pushGuards, h]
/-- what is asked of __init__, and what comes of it: an instance of one's own -/
def mkF (c : Str) (fb : FnB) (ds : List D) (E : En) (Q : Sl → En → Prop) (X : QX) : Prop := ∀ x, x ∉ E.m.map (·.1) → fb (.ptr x :: ds) ((x, .ins c []) :: E.m)
  (fun s M' => s = .fr .non ∧ ∃ fs M2, M' = (x, .ins c fs) :: M2 ∧ Q (.ow (.ins c fs)) ⟨E.r, M2⟩) fun y M' => ∃ o M2, M' = (x, o) :: M2 ∧ X y ⟨E.r, M2⟩
/-- .. that stays among the changing objects -/
def mkM (c : Str) (fb : FnB) (ds : List D) (E : En) (Q : Sl → En → Prop) (X : QX) : Prop := ∀ x, x ∉ E.m.map (·.1) → fb (.ptr x :: ds) ((x, .ins c []) :: E.m)
  (fun s M' => s = .fr .non ∧ Q (.fr (.ptr x)) ⟨E.r, M'⟩) fun y M' => X y ⟨E.r, M'⟩
theorem make_low (g : Gd b Nm tb gl k) {c : Str} (M : Mk b.X.K (b.cl c) f) (G : BFn b.X.prog b.X.w b.X.K b.X.mg b.X.base b.cl j f fd ps fb) (hj : j + 1 ≤ k) {N : Nh} {F : Hp} {E : En} {QB : Sl → En → Prop} {XB : QX} {pins : List (Addr × Obj)} {σ : L2.St} {H : Hp} {s : Shared} {Q : VK}
    {us us2 : List Value} {vs : List V} {ds : List D} {kw : List (Str × Value)} (hbnd : ∀ (s : Shared) (q : Value), b.X.K.In s.heap → (q :: us2).length = ps.length → BindsTo s fd ⟨q :: us, kw⟩ (ps.zip (q :: us2))) (I : Inv b.X pins σ H s) (r : Vals vs us2) (ok : Ok b.lb N F E σ H) (rp : RepA b.lb F ds vs)
    (hf : mkF c fb ds E QB XB ∨ mkM c fb ds E QB XB)
    (hQ : ∀ F' E' x v H', Same F F' → Ok b.lb N F' ⟨E'.r ++ [x], E'.m⟩ (σ ++ [some v]) H' → QB x E' → Q v H') (hX : xOk b N F XB) :
    wpAny (model b.X.prog b.X.w) b.X.A (call (.ref (b.cl c)) us kw) (EP b.X pins σ Q) b.X.xe s := by
  have n1 : H (s.heap.objs.size + 1) = none := I.hok.fresh (Nat.le_succ _)
  have n0 : H s.heap.objs.size = none := I.hok.fresh (Nat.le_refl _)
  have I2 := Inv.made (C := b.cl c) I
  have sm : Same H (upd (upd H s.heap.objs.size (.own (s.heap.objs.size + 1))) (s.heap.objs.size + 1) (.ins (b.cl c) s.heap.objs.size [])) := fun a u h => by
    rw [upd_ne (ne_of_none h n1), upd_ne (ne_of_none h n0)]; exact h
  obtain ⟨ok2, nm⟩ := ok.newM (o := .ins c []) sm n1 ⟨s.heap.objs.size, [], upd_same, by rw [RepF]⟩
  have r2 : Vals (V.ref (s.heap.objs.size + 1) :: vs) (Value.ref (s.heap.objs.size + 1) :: us2) := .cons rfl r
  have rp2 : RepA b.lb F (D.ptr (s.heap.objs.size + 1) :: ds) (V.ref (s.heap.objs.size + 1) :: vs) := repA_cons (by rw [Rep]) rp
  -- both ways end alike
  have go : ∀ (QB' : Sl → Mst → Prop) (EB' : Xd → Mst → Prop), fb (.ptr (s.heap.objs.size + 1) :: ds) ((s.heap.objs.size + 1, .ins c []) :: E.m) QB' EB' →
      (∀ F' x v H' M, Same F F' → x.res = true → Ok b.lb N F' ⟨E.r ++ [x], M⟩ (σ ++ [some v]) H' → QB' x M → v = .non ∧ Q (.ref (s.heap.objs.size + 1)) H') → (∀ F' y M cls od H', Same F F' → Ok b.lb N F' ⟨E.r, M⟩ σ H' → XdR b.lb F' H' y cls od → EB' y M → b.W cls od σ H') →
      wpAny (model b.X.prog b.X.w) b.X.A (call (.ref (b.cl c)) us kw) (EP b.X pins σ Q) b.X.xe s := fun QB' EB' hb hq hx => by
    have hlen := G.len _ _ _ _ hb
    have hl : (Value.ref (s.heap.objs.size + 1) :: us2).length = ps.length := by rw [← hlen, repA_len rp2, r2.length]
    refine wpAny_call (make_map (f := f) I.kIn M.makes M.init (beq_iff_eq.mp M.fn) (codeAny_mono (run_bfn (E := ⟨E.r, (s.heap.objs.size + 1, .ins c []) :: E.m⟩) (QB := QB') (EB := EB') (Q := fun v H' => v = .non ∧ Q (.ref (s.heap.objs.size + 1)) H') g G _ ((g.rm.mono hj).make _ us kw) (guards_make g.gd) I2
      (I2.env0.make _ us kw) hl (hbnd _ _ I2.kIn hl) r2 ok2 rp2 hb (fun F' y v H' M' sF hy ok' q => hq F' y v H' M' sF hy ok' q) (fun F' y M cls d H' sF ok' xr q => hx F' y M cls d H' sF ok' xr q)) fun rr s' hq' => ?_))
    cases rr with
    | error e => exact hq'
    | ok fl =>
      cases fl with
      | ret u =>
        obtain ⟨v, H', I3, rv, ev, q3⟩ := hq'
        subst ev
        exact ⟨rv, ⟨V.ref (s.heap.objs.size + 1), H', I3, rfl, q3⟩⟩
      | next => exact hq'.elim
      | brk => exact hq'.elim
      | cont => exact hq'.elim
  rcases hf with hf | hf
  · refine go _ _ (hf _ nm) (fun F' y v H' M' sF hy ok' q => ?_) fun F' y M' cls od H' sF ok' xr q => ?_
    · obtain ⟨e, fs, M2, e2, q⟩ := q
      subst e; subst e2
      have rn := ok'.last
      rw [Rep] at rn
      exact ⟨rn, hQ F' ⟨E.r, M2⟩ _ _ H' sF ok'.pop.takeM q⟩
    · obtain ⟨o, M2, e2, q⟩ := q
      subst e2
      exact hX F' ⟨E.r, M2⟩ y cls od σ H' sF ok'.dropM xr q
  · refine go _ _ (hf _ nm) (fun F' y v H' M' sF hy ok' q => ?_) fun F' y M' cls od H' sF ok' xr q => ?_
    · obtain ⟨e, q⟩ := q
      subst e
      have rn := ok'.last
      rw [Rep] at rn
      exact ⟨rn, hQ F' ⟨E.r, M'⟩ _ _ H' sF (ok'.pop.push (by rw [Rep])) q⟩
    · exact hX F' ⟨E.r, M'⟩ y cls od σ H' sF ok' xr q

def bMake (c : Str) (fb : FnB) (dds : List D) (t : BA) : BT := fun E Q X => t E (fun ds E1 => mkF c fb (ds ++ dds) E1 Q X) X
def bMakeM (c : Str) (fb : FnB) (dds : List D) (t : BA) : BT := fun E Q X => t E (fun ds E1 => mkM c fb (ds ++ dds) E1 Q X) X
/-- the defaults of __init__ -/
def MDfl (K : PySem.W.Frag) (fd : FuncData) (ps : List Str) (dds : List D) : Prop := ∃ (dus : List Value) (dvs : List V), (∀ (s : Shared) (q : Value) (us : List Value), K.In s.heap → (q :: (us ++ dus)).length = ps.length → BindsTo s fd ⟨q :: us, []⟩ (ps.zip (q :: (us ++ dus)))) ∧ Vals dvs dus ∧ ∀ L F, L.K = K → RepA L F dds dvs
theorem Dfl.make {K : PySem.W.Frag} (h : Dfl K fd ps dds) : MDfl K fd ps dds := by
  obtain ⟨dus, dvs, h1, h2, h3⟩ := h
  exact ⟨dus, dvs, fun s q us hk hl => h1 s (q :: us) hk hl, h2, h3⟩
/-- C(e, ..) -/
theorem be_make {c : Str} (g : Gd b Nm tb gl k) (M : Mk b.X.K (b.cl c) f) (G : BFn b.X.prog b.X.w b.X.K b.X.mg b.X.base b.cl j f fd ps fb) (hj : j + 1 ≤ k) (hg : Gl b.X x) (hm : b.X.mg x = some (.ref (b.cl c))) (df : Dfl b.X.K fd ps dds) (ha : BAs b (e :: es) t)
    (hdb : (x == ("__debug__" : Str)) = false := by decide) (he : starEach (e :: es) b.X.env = (false, eval e b.X.env) :: starEach es b.X.env := by rfl) (hpl : (backTo pos (starEach es b.X.env)).any (·.1) = false := by rfl) :
    BE b (.Call (.Name x p) (e :: es) [] pos) (bMake c fb dds t) := by
  obtain ⟨dus, dvs, d1, d2, d3⟩ := df.make
  refine ⟨fun pins s σ H Q I ⟨N, F, E, QB, XB, ok, ht, hQ, hX⟩ => ?_⟩
  refine wpAny_Call_Name_kw (ld_glob I hg hm ?_ hdb)
  refine PySem.W.callWith_K (h₀ := b.X.base) I.ok.mod.kin M.kp (thn (BAs.runB ha I ok ht hX) fun us s1 ⟨vs, H1, F', E', ds, I1, r, s', ok', rp, q⟩ => ⟨I1.kIn, ?_⟩) he hpl
  exact make_low g M G hj (us := us) (us2 := us ++ dus) (kw := []) (fun s q hk hl => d1 s q us hk hl) I1 (r.append d2) ok' (repA_app rp (d3 b.lb F' rfl)) (.inl q) (fun F2 E2 y v H2 s2 => hQ F2 E2 y v H2 (s'.trans s2)) (hX.go s')
/-- C(), the instance among the changing objects -/
theorem be_makeM0 {c : Str} (g : Gd b Nm tb gl k) (M : Mk b.X.K (b.cl c) f) (G : BFn b.X.prog b.X.w b.X.K b.X.mg b.X.base b.cl j f fd ps fb) (hj : j + 1 ≤ k) (hg : Gl b.X x) (hm : b.X.mg x = some (.ref (b.cl c))) (df : Dfl b.X.K fd ps dds)
    (hdb : (x == ("__debug__" : Str)) = false := by decide) : BE b (.Call (.Name x p) [] [] pos) (bMakeM c fb dds bNil) := by
  obtain ⟨dus, dvs, d1, d2, d3⟩ := df.make
  refine ⟨fun pins s σ H Q I ⟨N, F, E, QB, XB, ok, ht, hQ, hX⟩ => ?_⟩
  refine wpAny_Call_Name_kw (ld_glob I hg hm ?_ hdb)
  exact PySem.W.callWith_K0 I.kIn M.kp (make_low (vs := dvs) (ds := dds) g M G hj (us := []) (us2 := dus) (kw := []) (fun s q hk hl => d1 s q [] hk hl) I d2 ok (d3 b.lb F rfl) (.inr ht) hQ hX)
theorem be_makeM {c : Str} (g : Gd b Nm tb gl k) (M : Mk b.X.K (b.cl c) f) (G : BFn b.X.prog b.X.w b.X.K b.X.mg b.X.base b.cl j f fd ps fb) (hj : j + 1 ≤ k) (hg : Gl b.X x) (hm : b.X.mg x = some (.ref (b.cl c))) (df : Dfl b.X.K fd ps dds) (ha : BAs b (e :: es) t)
    (hdb : (x == ("__debug__" : Str)) = false := by decide) (he : starEach (e :: es) b.X.env = (false, eval e b.X.env) :: starEach es b.X.env := by rfl) (hpl : (backTo pos (starEach es b.X.env)).any (·.1) = false := by rfl) :
    BE b (.Call (.Name x p) (e :: es) [] pos) (bMakeM c fb dds t) := by
  obtain ⟨dus, dvs, d1, d2, d3⟩ := df.make
  refine ⟨fun pins s σ H Q I ⟨N, F, E, QB, XB, ok, ht, hQ, hX⟩ => ?_⟩
  refine wpAny_Call_Name_kw (ld_glob I hg hm ?_ hdb)
  refine PySem.W.callWith_K (h₀ := b.X.base) I.ok.mod.kin M.kp (thn (BAs.runB ha I ok ht hX) fun us s1 ⟨vs, H1, F', E', ds, I1, r, s', ok', rp, q⟩ => ⟨I1.kIn, ?_⟩) he hpl
  exact make_low g M G hj (us := us) (us2 := us ++ dus) (kw := []) (fun s q hk hl => d1 s q us hk hl) I1 (r.append d2) ok' (repA_app rp (d3 b.lb F' rfl)) (.inr q) (fun F2 E2 y v H2 s2 => hQ F2 E2 y v H2 (s'.trans s2)) (hX.go s')
/-- how C(k = v, ..) binds the parameters behind self -/
def KMk (K : PySem.W.Frag) (fd : FuncData) (ps ks : List Str) (gD : List D → List D) : Prop := ∃ (g : List Value → List Value) (gV : List V → List V),
  (∀ (s : Shared) (q : Value) (ws : List Value), K.In s.heap → (q :: g ws).length = ps.length → BindsTo s fd ⟨[q], ks.zip ws⟩ (ps.zip (q :: g ws))) ∧ (∀ {zs : List V} {ws : List Value}, Vals zs ws → Vals (gV zs) (g ws)) ∧
  ∀ L F es zs, L.K = K → RepA L F es zs → RepA L F (gD es) (gV zs)
def bMakeK (c : Str) (fb : FnB) (gD : List D → List D) (u : BA) : BT := fun E Q X => u E (fun zs E1 => mkF c fb (gD zs) E1 Q X) X
theorem be_makeK {c : Str} (g : Gd b Nm tb gl k) (M : Mk b.X.K (b.cl c) f) (G : BFn b.X.prog b.X.w b.X.K b.X.mg b.X.base b.cl j f fd ps fb) (hj : j + 1 ≤ k) (hg : Gl b.X x) (hm : b.X.mg x = some (.ref (b.cl c))) {gD : List D → List D} (df : KMk b.X.K fd ps ks gD) {u : BA} (hkw : BKs b kws u)
    (hall : (backToKw pos (keywordEach kws b.X.env)).all (·.1.isSome) = true := by rfl) (hks : (backToKw pos (keywordEach kws b.X.env)).filterMap (·.1) = ks := by rfl)
    (hdb : (x == ("__debug__" : Str)) = false := by decide)
    (hpl : ((backTo pos (starEach [] b.X.env)).any (·.1) || (backToKw pos (keywordEach kws b.X.env)).any (·.1.isNone)) = false := by rfl) :
    BE b (.Call (.Name x p) [] kws pos) (bMakeK c fb gD u) := by
  obtain ⟨gg, gV, k1, k2, k3⟩ := df
  refine ⟨fun pins s σ H Q I ⟨N, F, E, QB, XB, ok, ht, hQ, hX⟩ => ?_⟩
  refine wpAny_Call_Name_kw (ld_glob I hg hm ?_ hdb)
  refine PySem.W.callWith_KW0 (h₀ := b.X.base) I.ok.mod.kin M.kp hall (thn (BKs.runB hkw I ok ht hX) fun ws s2 ⟨zs, H2, F2, E2, es', I2, rz, s2', ok2, rq, q2⟩ => ⟨I2.kIn, ?_⟩) hpl
  rw [hks]
  exact make_low g M G hj (us := []) (us2 := gg ws) (kw := ks.zip ws) (fun s q hk hl => k1 s q ws hk hl) I2 (k2 rz) ok2 (k3 b.lb F2 es' zs rfl rq) (.inl q2) (fun F3 E3 y v H3 s3 => hQ F3 E3 y v H3 (s2'.trans s3)) (hX.go s2')
end
end B
/-! BOps: operators and built-in calls by values. -/
namespace B
open PySem PySem.Spec PyProof.Rows L2

/-! ### data as the library's data -/
mutual
def D.py : D → PyData
  | .non => .none
  | .bl b => .bool b
  | .int i => .int i
  | .str s => .str s
  | .tup xs => .tuple (D.pyA xs)
  | .lst xs => .list (D.pyA xs)
  | .dic kvs => .dict (D.pyK kvs)
  | .ty _ => .none
  | .obj _ _ => .none
  | .ptr _ => .none
  | .exc _ _ => .none
  | .scr _ => .none
def D.pyA : List D → List PyData
  | [] => []
  | d :: ds => D.py d :: D.pyA ds
def D.pyK : List (D × D) → List (PyData × PyData)
  | [] => []
  | (k, d) :: r => (D.py k, D.py d) :: D.pyK r
end
mutual
/-- nothing but data -/
def D.pure : D → Bool
  | .non => true
  | .bl _ => true
  | .int _ => true
  | .str _ => true
  | .tup xs => D.pureA xs
  | .lst xs => D.pureA xs
  | .dic kvs => D.pureK kvs
  | .ty _ => false
  | .obj _ _ => false
  | .ptr _ => false
  | .exc _ _ => false
  | .scr _ => false
def D.pureA : List D → Bool
  | [] => true
  | d :: ds => D.pure d && D.pureA ds
def D.pureK : List (D × D) → Bool
  | [] => true
  | (k, d) :: r => D.pure k && (D.pure d && D.pureK r)
end
section
variable {b : Bx} {pins : List (Addr × Obj)} {σ : L2.St} {F H : Hp} {s : Shared}
theorem ext_at (I : Inv b.X pins σ H s) {a : Addr} {o : Obj} (h : H a = some (dO a o)) : s.heap.get? a = some o := (I.hok a _ h).1
theorem tup_at (I : Inv b.X pins σ H s) (sF : Same F H) {a : Addr} {vs : List V} (h : SqT b.X.K F a vs) : ∃ its : List Value, Vals vs its ∧ IsTup s.heap a its.toArray := by
  obtain ⟨its, r, t, _⟩ := I.tuple (SqTm sF h)
  exact ⟨its, r, t⟩
theorem lst_at (I : Inv b.X pins σ H s) {a : Addr} {vs : List V} (h : H a = some (.lst vs)) : ∃ its : List Value, Vals vs its ∧ ∃ o n, s.heap.get? a = some o ∧ o.cls = .type "list" ∧ o.data = .seq its.toArray n := by
  obtain ⟨_, its, n, r, e⟩ := I.hok a _ h
  exact ⟨its, r, _, n, e, rfl, rfl⟩
/-- sys.modules stands -/
def SmAt (s : Shared) : Prop := ∃ o es ep, s.heap.get? sysModules = some o ∧ o.data = .dict es ep
theorem Ok.smAt {N : Nh} {E : En} {σ' : L2.St} (ok : Ok b.lb N F E σ' H) (I : Inv b.X pins σ H s) : SmAt s := by
  rcases ok.lks.sm with ⟨o, es, ep, h1, h2⟩ | ⟨o, es, ep, h1, h2⟩
  · exact ⟨o, es, ep, ext_at I (ok.nsub _ _ h1), h2⟩
  · exact ⟨o, es, ep, I.kIn _ _ h1, h2⟩
theorem SmAt.ne (h : SmAt s) {a : Addr} {o : Obj} {vs : Array Value} {n : Nat} (ho : s.heap.get? a = some o) (hd : o.data = .seq vs n) : sysModules ≠ a := fun e => by
  obtain ⟨o', es, ep, h1, h2⟩ := h
  rw [e, ho] at h1
  cases h1
  rw [hd] at h2
  cases h2
mutual
theorem Rep.reads (I : Inv b.X pins σ H s) (hS : SmAt s) (sF : Same F H) : ∀ (d : D) (v : V) (u : Value), d.pure = true → Rep b.lb F d v → RelV v u → ∃ as, Reads s.heap u d.py as ∧ sysModules ∉ as
  | .non, v, u, _, h, r => by
    rw [Rep] at h; subst h; cases r; exact ⟨_, .none, by simp⟩
  | .bl k, v, u, _, h, r => by
    rw [Rep] at h; subst h; cases r; exact ⟨_, .bool k, by simp⟩
  | .int k, v, u, _, h, r => by
    rw [Rep] at h; subst h; obtain ⟨t, rfl⟩ := r; exact ⟨_, .int k t, by simp⟩
  | .str k, v, u, _, h, r => by
    rw [Rep] at h; subst h; obtain ⟨t, rfl⟩ := r; exact ⟨_, .str k t, by simp⟩
  | .tup xs, v, u, p, h, r => by
    rw [Rep] at h
    obtain ⟨a, vs, e, q, ra⟩ := h
    subst e
    cases r
    obtain ⟨its, rv, o, ho, hc, n, hd⟩ := tup_at I sF q
    obtain ⟨as, hr, hn⟩ := RepA.reads I hS sF xs vs its p ra rv
    exact ⟨_, .tuple ho hc hd (by simpa using hr), hn⟩
  | .lst xs, v, u, p, h, r => by
    rw [Rep] at h
    obtain ⟨a, vs, e, q, ra⟩ := h
    subst e
    cases r
    obtain ⟨its, rv, o, n, ho, hc, hd⟩ := lst_at I (sF _ _ q)
    obtain ⟨as, hr, hn⟩ := RepA.reads I hS sF xs vs its p ra rv
    exact ⟨_, .list ho hc hd (by simpa using hr), by simpa using ⟨hS.ne ho hd, hn⟩⟩
  | .dic kvs, v, u, p, h, r => by
    rw [Rep] at h
    obtain ⟨a, o, e, q, z, l, rr⟩ := h
    subst e
    cases r
    have ho := ext_at I (sF _ _ q)
    have nz : sysModules ≠ a := fun e => by rw [← e] at z; simp at z
    rcases rr with ⟨us, ⟨es, ep, hx, hd, _, hp, _⟩, r2⟩ | ⟨xs, ⟨es, ep, hx, hd, he, _⟩, r2⟩
    · obtain ⟨⟨as, h1, n1⟩, bs, h2, n2⟩ := RepS.reads I hS sF kvs us es.toList p r2 hp
      exact ⟨_, .dict ho hx.1 hd h1 h2, by simpa using ⟨nz, n1, n2⟩⟩
    · obtain ⟨⟨as, h1, n1⟩, bs, h2, n2⟩ := RepX.reads I hS sF kvs xs p r2
      exact ⟨_, .dict ho hx.1 hd (by rw [he]; exact h1) (by rw [he]; exact h2), by simpa using ⟨nz, n1, n2⟩⟩
  | .ty _, _, _, p, _, _ => by cases p
  | .obj _ _, _, _, p, _, _ => by cases p
  | .ptr _, _, _, p, _, _ => by cases p
  | .exc _ _, _, _, p, _, _ => by cases p
  | .scr _, _, _, p, _, _ => by cases p
theorem RepA.reads (I : Inv b.X pins σ H s) (hS : SmAt s) (sF : Same F H) : ∀ (ds : List D) (vs : List V) (us : List Value), D.pureA ds = true → RepA b.lb F ds vs → Vals vs us → ∃ as, ReadsAll s.heap us (D.pyA ds) as ∧ sysModules ∉ as
  | [], vs, us, _, h, r => by
    rw [RepA] at h; subst h; cases r; exact ⟨_, .nil, by simp⟩
  | d :: ds, vs, us, p, h, r => by
    rw [RepA] at h
    obtain ⟨v, vr, e, h1, h2⟩ := h
    subst e
    have p : (D.pure d && D.pureA ds) = true := p
    rw [Bool.and_eq_true] at p
    cases r with
    | cons r1 r2 =>
      obtain ⟨as, q1, n1⟩ := Rep.reads I hS sF d v _ p.1 h1 r1
      obtain ⟨bs, q2, n2⟩ := RepA.reads I hS sF ds vr _ p.2 h2 r2
      exact ⟨_, .cons q1 q2, by simpa using ⟨n1, n2⟩⟩
theorem RepS.reads (I : Inv b.X pins σ H s) (hS : SmAt s) (sF : Same F H) : ∀ (kvs : List (D × D)) (us : List (Str × Value)) (es : List DictEntry), D.pureK kvs = true → RepS b.lb F kvs us → Pairs (strKind b.X.prog b.X.w) es us →
    (∃ as, ReadsAll s.heap (es.map (·.key)) ((D.pyK kvs).map (·.1)) as ∧ sysModules ∉ as) ∧ ∃ bs, ReadsAll s.heap (es.map (·.val)) ((D.pyK kvs).map (·.2)) bs ∧ sysModules ∉ bs
  | [], us, es, _, h, r => by
    rw [RepS] at h; subst h; cases r; exact ⟨⟨_, .nil, by simp⟩, _, .nil, by simp⟩
  | (k, d) :: rest, us, es, p, h, r => by
    rw [RepS] at h
    obtain ⟨x, u, v, us', e, e2, rv, h1, h2⟩ := h
    subst e; subst e2
    have p : (D.pure (.str x) && (D.pure d && D.pureK rest)) = true := p
    rw [Bool.and_eq_true, Bool.and_eq_true] at p
    cases r with
    | @cons en kv es' kvs' hk hv hp =>
      obtain ⟨t, ht⟩ := Value.isStrOf_shape (x := x) (v := en.key) hk
      have hv : en.val = u := hv
      obtain ⟨⟨as, q1, n1⟩, bs, q2, n2⟩ := RepS.reads I hS sF rest us' es' p.2.2 h2 hp
      obtain ⟨cs, q3, n3⟩ := Rep.reads I hS sF d v u p.2.1 h1 rv
      have k1 : ReadsAll s.heap (en.key :: es'.map (·.key)) (.str x :: (D.pyK rest).map (·.1)) ([] ++ as) := by
        rw [ht]
        exact .cons (.str x t) q1
      have k2 : ReadsAll s.heap (en.val :: es'.map (·.val)) (d.py :: (D.pyK rest).map (·.2)) (cs ++ bs) := by
        rw [hv]
        exact .cons q3 q2
      exact ⟨⟨_, k1, by simpa using n1⟩, _, k2, by simpa using ⟨n3, n2⟩⟩
theorem RepX.reads (I : Inv b.X pins σ H s) (hS : SmAt s) (sF : Same F H) : ∀ (kvs : List (D × D)) (xs : List (NestedKey × Addr × Value)), D.pureK kvs = true → RepX b.lb F kvs xs →
    (∃ as, ReadsAll s.heap ((xs.map (entryOfKey (nestedKind b.X.prog b.X.w))).map (·.key)) ((D.pyK kvs).map (·.1)) as ∧ sysModules ∉ as) ∧ ∃ bs, ReadsAll s.heap ((xs.map (entryOfKey (nestedKind b.X.prog b.X.w))).map (·.val)) ((D.pyK kvs).map (·.2)) bs ∧ sysModules ∉ bs
  | [], us, _, h => by
    rw [RepX] at h; subst h; exact ⟨⟨_, .nil, by simp⟩, _, .nil, by simp⟩
  | (k, d) :: rest, us, p, h => by
    rw [RepX] at h
    obtain ⟨nk, ka, u, v, us', e, _, hk, rv, h1, h2⟩ := h
    subst e
    have p : (D.pure k && (D.pure d && D.pureK rest)) = true := p
    rw [Bool.and_eq_true, Bool.and_eq_true] at p
    obtain ⟨⟨as, q1, n1⟩, bs, q2, n2⟩ := RepX.reads I hS sF rest us' p.2.2 h2
    obtain ⟨cs, q3, n3⟩ := Rep.reads I hS sF d v u p.2.1 h1 rv
    obtain ⟨ds, q4, n4⟩ := Rep.reads I hS sF k (.ref ka) (.ref ka) p.1 hk rfl
    exact ⟨⟨_, .cons q4 q1, by simpa using ⟨n4, n1⟩⟩, _, .cons q3 q2, by simpa using ⟨n3, n2⟩⟩
end
/-- .. what stands at the top may be an object of one's own -/
theorem RepT.reads (I : Inv b.X pins σ H s) (hS : SmAt s) (sF : Same F H) : ∀ (d : D) (v : V) (u : Value), d.pure = true → RepT b.lb F H d v → RelV v u → ∃ as, Reads s.heap u d.py as ∧ sysModules ∉ as
  | .lst xs, v, u, p, h, r => by
    obtain ⟨a, vs, e, q, ra⟩ := h
    subst e
    cases r
    obtain ⟨its, rv, o, n, ho, hc, hd⟩ := lst_at I q
    obtain ⟨as, hr, hn⟩ := RepA.reads I hS sF xs vs its p ra rv
    exact ⟨_, .list ho hc hd (by simpa using hr), by simpa using ⟨hS.ne ho hd, hn⟩⟩
  | .dic kvs, v, u, p, h, r => by
    obtain ⟨a, o, e, q, z, l, rr⟩ := h
    subst e
    cases r
    have ho := ext_at I q
    have nz : sysModules ≠ a := fun e => by rw [← e] at z; simp at z
    rcases rr with ⟨us, ⟨es, ep, hx, hd, _, hp, _⟩, r2⟩ | ⟨xs, ⟨es, ep, hx, hd, he, _⟩, r2⟩
    · obtain ⟨⟨as, h1, n1⟩, bs, h2, n2⟩ := RepS.reads I hS sF kvs us es.toList p r2 hp
      exact ⟨_, .dict ho hx.1 hd h1 h2, by simpa using ⟨nz, n1, n2⟩⟩
    · obtain ⟨⟨as, h1, n1⟩, bs, h2, n2⟩ := RepX.reads I hS sF kvs xs p r2
      exact ⟨_, .dict ho hx.1 hd (by rw [he]; exact h1) (by rw [he]; exact h2), by simpa using ⟨nz, n1, n2⟩⟩
  | .non, v, u, p, h, r => Rep.reads I hS sF _ v u p h r
  | .bl _, v, u, p, h, r => Rep.reads I hS sF _ v u p h r
  | .int _, v, u, p, h, r => Rep.reads I hS sF _ v u p h r
  | .str _, v, u, p, h, r => Rep.reads I hS sF _ v u p h r
  | .tup _, v, u, p, h, r => Rep.reads I hS sF _ v u p h r
  | .ty _, _, _, p, _, _ => by cases p
  | .obj _ _, _, _, p, _, _ => by cases p
  | .ptr _, _, _, p, _, _ => by cases p
  | .exc _ _, _, _, p, _, _ => by cases p
  | .scr _, _, _, p, _, _ => by cases p
end

/-! ### new results -/
section
variable {L : Lb} {N : Nh} {F H : Hp} {E : En} {σ : L2.St}
theorem res_tup (ok : Ok L N F E σ H) {vs : List V} {ds : List D} (r : RepA L F ds vs) {p : Addr} (hp : H p = none) : ∃ F', Same F F' ∧ Ok L N F' ⟨E.r ++ [.fr (.tup ds)], E.m⟩ (σ ++ [some (.ref p)]) (upd H p (.tup vs)) := by
  have hF : F p = none := by
    cases q : F p with
    | none => rfl
    | some y => have := ok.sub p y q; rw [hp] at this; cases this
  have s := same_upd (o := .tup vs) hF
  refine ⟨upd F p (.tup vs), s, Ok.push (ok.ext (same_upd hp) s (fun a o h => ?_) fun a h1 h2 => ?_) ?_⟩
  · by_cases q : a = p
    · subst q; rw [upd_same] at h ⊢; exact h
    · rw [upd_ne q] at h ⊢; exact ok.sub a o h
  · by_cases q : a = p
    · subst q; exact hp
    · rw [upd_ne q] at h2; exact absurd h1 h2
  · rw [Rep]
    exact ⟨p, vs, rfl, SqT.of upd_same, RepA.mono s ds vs r⟩
theorem res_lst (ok : Ok L N F E σ H) {vs : List V} {ds : List D} (r : RepA L F ds vs) {p : Addr} (hp : H p = none) : Ok L N F ⟨E.r ++ [.ow (.lst ds)], E.m⟩ (σ ++ [some (.ref p)]) (upd H p (.lst vs)) :=
  ok.newOw (same_upd hp) hp ⟨vs, upd_same, r⟩
end
/-! ### displays -/
section
variable {b : Bx} {es : List Expr} {pos : Pos} {t : BA}
def bTup (t : BA) : BT := fun E Q X => t E (fun ds E' => ds.length ≤ sizeLine ∧ Q (.fr (.tup ds)) E') X
def bLst (t : BA) : BT := fun E Q X => t E (fun ds E' => ds.length ≤ sizeLine ∧ Q (.ow (.lst ds)) E') X
theorem be_tup {x1} (h : BAs b es t) : BE b (.Tuple es x1 pos) (bTup t) := pe_weak (pe_tup h) fun σ H Q ⟨N, F, E, QB, XB, ok, ht, hQ, hX⟩ =>
  ⟨N, F, E, _, XB, ok, ht, fun F' E' ds vs H' s' ok' r ⟨l, q⟩ => ⟨by rw [← repA_len r]; exact l, fun p hp => by
    obtain ⟨F2, s2, ok2⟩ := res_tup ok' r hp
    exact hQ F2 E' _ _ _ (s'.trans s2) ok2 q⟩, hX⟩
theorem be_lst (h : BAs b es t) : BE b (.List es pos) (bLst t) := pe_weak (pe_lst h) fun σ H Q ⟨N, F, E, QB, XB, ok, ht, hQ, hX⟩ =>
  ⟨N, F, E, _, XB, ok, ht, fun F' E' ds vs H' s' ok' r ⟨l, q⟩ => ⟨by rw [← repA_len r]; exact l, fun p hp => hQ F' E' _ _ _ s' (res_lst ok' r hp) q⟩, hX⟩
end
end B
/-! BVal: operators, subscripts, built-in calls by values. -/
namespace B
open PySem PySem.Spec PyProof.Rows L2
section
variable {L : Lb} {N : Nh} {F F' H : Hp} {E : En} {σ : L2.St} {v : V}
theorem t_int {i : Int} (h : RepT L F H (.int i) v) : v = .int i := by have h : Rep L F (.int i) v := h; rwa [Rep] at h
theorem t_str {i : Str} (h : RepT L F H (.str i) v) : v = .str i := by have h : Rep L F (.str i) v := h; rwa [Rep] at h
theorem t_bl {i : Bool} (h : RepT L F H (.bl i) v) : v = .bl i := by have h : Rep L F (.bl i) v := h; rwa [Rep] at h
theorem t_non (h : RepT L F H .non v) : v = .non := by have h : Rep L F .non v := h; rwa [Rep] at h
theorem t_tup {ds : List D} (ok : Same F H) (h : RepT L F H (.tup ds) v) : ∃ a vs, v = .ref a ∧ SqT L.K F a vs ∧ SqT L.K H a vs ∧ RepA L F ds vs := by
  have h : Rep L F (.tup ds) v := h
  rw [Rep] at h
  obtain ⟨a, vs, e, q, r⟩ := h
  exact ⟨a, vs, e, q, SqTm ok q, r⟩
theorem t_scr {ns : List Int} (ok : Same F H) (h : RepT L F H (.scr ns) v) : ∃ a, v = .ref a ∧ SqL L.K H a (ns.map V.int) := by
  have h : Rep L F (.scr ns) v := h
  rw [Rep] at h
  obtain ⟨a, e, q⟩ := h
  exact ⟨a, e, ok.seq q⟩
theorem repA_get {ds : List D} {vs : List V} (h : RepA L F ds vs) : ∀ {i : Nat} {d : D}, ds[i]? = some d → ∃ u, vs[i]? = some u ∧ Rep L F d u := by
  induction ds generalizing vs with
  | nil => intro i d hi; simp at hi
  | cons e ds ih =>
    intro i d hi
    rw [RepA] at h
    obtain ⟨u, r, e1, h1, h2⟩ := h
    subst e1
    cases i with
    | zero => cases hi; exact ⟨u, rfl, h1⟩
    | succ i => exact ih h2 hi
theorem repA_take {ds : List D} {vs : List V} (h : RepA L F ds vs) : ∀ n, RepA L F (ds.take n) (vs.take n) := by
  induction ds generalizing vs with
  | nil => intro n; rw [RepA] at h; subst h; simpa using repA_nil
  | cons e ds ih =>
    intro n
    rw [RepA] at h
    obtain ⟨u, r, e1, h1, h2⟩ := h
    subst e1
    cases n with
    | zero => exact repA_nil
    | succ n => exact repA_cons h1 (ih h2 n)
theorem repA_drop {ds : List D} {vs : List V} (h : RepA L F ds vs) : ∀ n, RepA L F (ds.drop n) (vs.drop n) := by
  induction ds generalizing vs with
  | nil => intro n; rw [RepA] at h; subst h; simpa using repA_nil
  | cons e ds ih =>
    intro n
    rw [RepA] at h
    obtain ⟨u, r, e1, h1, h2⟩ := h
    subst e1
    cases n with
    | zero => exact repA_cons h1 h2
    | succ n => exact ih h2 n
theorem repA_ints {vs : List V} : ∀ {ns : List Int}, RepA L F (ns.map D.int) vs → vs = ns.map V.int
  | [], h => by rwa [List.map_nil, RepA] at h
  | n :: ns, h => by
    rw [List.map_cons, RepA] at h
    obtain ⟨u, r, e, h1, h2⟩ := h
    rw [Rep] at h1
    rw [e, h1, repA_ints h2]; rfl
theorem repA_strs {vs : List V} : ∀ {ns : List Str}, RepA L F (ns.map D.str) vs → vs = ns.map V.str
  | [], h => by rwa [List.map_nil, RepA] at h
  | n :: ns, h => by
    rw [List.map_cons, RepA] at h
    obtain ⟨u, r, e, h1, h2⟩ := h
    rw [Rep] at h1
    rw [e, h1, repA_strs h2]; rfl
theorem repA_bls {vs : List V} : ∀ {ns : List Bool}, RepA L F (ns.map D.bl) vs → vs = ns.map V.bl
  | [], h => by rwa [List.map_nil, RepA] at h
  | n :: ns, h => by
    rw [List.map_cons, RepA] at h
    obtain ⟨u, r, e, h1, h2⟩ := h
    rw [Rep] at h1
    rw [e, h1, repA_bls h2]; rfl
theorem repA_mkInts : ∀ ns : List Int, RepA L F (ns.map D.int) (ns.map V.int)
  | [] => repA_nil
  | _ :: ns => repA_cons rep_int (repA_mkInts ns)
end

/-! ### ints -/
section
variable {b : Bx}
/-- an operator of two ints -/
def dInt (C : Int → Int → Prop) (f : Int → Int → D) : F2 := fun x y Q => match x, y with
  | .int i, .int j => C i j ∧ Q (.fr (f i j))
  | _, _ => False
theorem op2_int {C : Int → Int → Prop} {f : Int → Int → D} {g : Int → Int → V} (h : ∀ L F i j, Rep L F (f i j) (g i j)) : Op2 b (rI C g) (dInt C f) := by
  intro N F E σ H x y v u QB Q ok rx ry hf k
  cases x with
  | int i =>
    cases y with
    | int j =>
      obtain ⟨c, q⟩ := hf
      exact ⟨i, j, t_int rx, t_int ry, c, k F _ _ H (Same.refl F) (ok.push (h _ _ i j)) q⟩
    | _ => exact False.elim hf
  | _ => exact False.elim hf
theorem op2_int0 {f : Int → Int → D} {g : Int → Int → V} (h : ∀ L F i j, Rep L F (f i j) (g i j)) : Op2 b (rI0 g) (dInt (fun _ _ => True) f) := by
  intro N F E σ H x y v u QB Q ok rx ry hf k
  cases x with
  | int i =>
    cases y with
    | int j =>
      obtain ⟨c, q⟩ := hf
      exact ⟨i, j, t_int rx, t_int ry, k F _ _ H (Same.refl F) (ok.push (h _ _ i j)) q⟩
    | _ => exact False.elim hf
  | _ => exact False.elim hf
abbrev dSub : F2 := dInt (fun _ _ => True) fun i j => .int (i - j)
abbrev dMul : F2 := dInt CMul fun i j => .int (i * j)
abbrev dDiv : F2 := dInt CDiv fun i j => .int (i / j)
abbrev dMod : F2 := dInt (fun _ j => 0 < j) fun i j => .int (i % j)
abbrev dPow : F2 := dInt CPow fun i j => .int (i ^ j.toNat)
abbrev dLt : F2 := dInt (fun _ _ => True) fun i j => .bl (decide (i < j))
abbrev dLe : F2 := dInt (fun _ _ => True) fun i j => .bl (decide (i ≤ j))
abbrev dGt : F2 := dInt (fun _ _ => True) fun i j => .bl (decide (j < i))
abbrev dGe : F2 := dInt (fun _ _ => True) fun i j => .bl (decide (j ≤ i))
variable {a c : Expr} {pos : Pos} {ta : BL} {tb : BO}
theorem be_sub (ha : BLe b a ta) (hc : BOp b c tb) : BE b (.BinOp a .Sub c pos) (bBin dSub ta tb) := be_op op_sub (op2_int0 fun _ _ _ _ => rep_int) ha hc
theorem be_mul (ha : BLe b a ta) (hc : BOp b c tb) : BE b (.BinOp a .Mult c pos) (bBin dMul ta tb) := be_op op_mul (op2_int fun _ _ _ _ => rep_int) ha hc
theorem be_div (ha : BLe b a ta) (hc : BOp b c tb) : BE b (.BinOp a .FloorDiv c pos) (bBin dDiv ta tb) := be_op op_fdiv (op2_int fun _ _ _ _ => rep_int) ha hc
theorem be_mod (ha : BLe b a ta) (hc : BOp b c tb) : BE b (.BinOp a .Mod c pos) (bBin dMod ta tb) := be_op op_mod (op2_int fun _ _ _ _ => rep_int) ha hc
theorem be_pow (ha : BLe b a ta) (hc : BOp b c tb) : BE b (.BinOp a .Pow c pos) (bBin dPow ta tb) := be_op op_pow (op2_int fun _ _ _ _ => rep_int) ha hc
theorem be_lt (ha : BLe b a ta) (hc : BOp b c tb) : BE b (.Compare a [.Lt] [c] pos) (bBin dLt ta tb) := be_cmp op_lt (op2_int0 fun _ _ _ _ => rep_bl) ha hc (nomark _)
theorem be_le (ha : BLe b a ta) (hc : BOp b c tb) : BE b (.Compare a [.LtE] [c] pos) (bBin dLe ta tb) := be_cmp op_le (op2_int0 fun _ _ _ _ => rep_bl) ha hc (nomark _)
theorem be_gt (ha : BLe b a ta) (hc : BOp b c tb) : BE b (.Compare a [.Gt] [c] pos) (bBin dGt ta tb) := be_cmp op_gt (op2_int0 fun _ _ _ _ => rep_bl) ha hc (nomark _)
theorem be_ge (ha : BLe b a ta) (hc : BOp b c tb) : BE b (.Compare a [.GtE] [c] pos) (bBin dGe ta tb) := be_cmp op_ge (op2_int0 fun _ _ _ _ => rep_bl) ha hc (nomark _)

/-! ### + -/
def dAdd : F2 := fun x y Q => match x, y with
  | .int i, .int j => Q (.fr (.int (i + j)))
  | .str i, .str j => i.length + j.length ≤ sizeLine ∧ Q (.fr (.str (i ++ j)))
  | .lst xs, .lst ys => xs.length + ys.length ≤ sizeLine ∧ Q (.ow (.lst (xs ++ ys)))
  | .tup xs, .tup ys => xs.length + ys.length ≤ sizeLine ∧ Q (.fr (.tup (xs ++ ys)))
  | _, _ => False
def rAll4 (K : PySem.W.Frag) : R2 := fun x y H Q => (rI0 fun i j => .int (i + j)) x y H Q ∨ (∃ i j, x = .str i ∧ y = .str j ∧ i.length + j.length ≤ sizeLine ∧ Q (.str (i ++ j)) H) ∨ rCat x y H Q ∨ rCatA K x y H Q
theorem op_all4 {X : Cx} : OpR X (binaryOp .Add) (rAll4 X.K) := OpR.or op_add (OpR.or op_add_str (OpR.or op_cat op_catA))
theorem op2_add : Op2 b (rAll4 b.X.K) dAdd := by
  intro N F E σ H x y v u QB Q ok rx ry hf k
  cases x with
  | int i =>
    cases y with
    | int j => exact .inl ⟨i, j, t_int rx, t_int ry, k F _ _ H (Same.refl F) (ok.push rep_int) hf⟩
    | _ => exact False.elim hf
  | str i =>
    cases y with
    | str j => exact .inr (.inl ⟨i, j, t_str rx, t_str ry, hf.1, k F _ _ H (Same.refl F) (ok.push rep_str) hf.2⟩)
    | _ => exact False.elim hf
  | lst xs =>
    cases y with
    | lst ys =>
      obtain ⟨a, vs, rfl, h1, r1⟩ := rx
      obtain ⟨c, us, rfl, h2, r2⟩ := ry
      refine .inr (.inr (.inl ⟨a, c, vs, us, rfl, rfl, h1, h2, by rw [← repA_len r1, ← repA_len r2]; exact hf.1, fun p hp => ?_⟩))
      exact k F _ _ _ (Same.refl F) (res_lst ok (repA_app r1 r2) hp) hf.2
    | _ => exact False.elim hf
  | tup xs =>
    cases y with
    | tup ys =>
      obtain ⟨a, vs, e1, h1, h1', r1⟩ := t_tup ok.sub rx
      obtain ⟨c, us, e2, h2, h2', r2⟩ := t_tup ok.sub ry
      refine .inr (.inr (.inr ⟨a, c, vs, us, e1, e2, h1', h2', by rw [← repA_len r1, ← repA_len r2]; exact hf.1, fun z => ?_, fun z z2 => ?_, fun _ _ p hp => ?_⟩))
      · subst z
        cases xs with
        | nil => exact k F _ _ H (Same.refl F) (ok.push (by rw [List.nil_append, ← e2]; exact ry)) hf.2
        | cons d ds => have := repA_len r1; simp at this
      · subst z2
        cases ys with
        | nil => exact k F _ _ H (Same.refl F) (ok.push (by rw [List.append_nil, ← e1]; exact rx)) hf.2
        | cons d ds => have := repA_len r2; simp at this
      · obtain ⟨F', s', ok'⟩ := res_tup ok (repA_app r1 r2) hp
        exact k F' _ _ _ s' ok' hf.2
    | _ => exact False.elim hf
  | _ => exact False.elim hf
theorem be_add (ha : BLe b a ta) (hc : BOp b c tb) : BE b (.BinOp a .Add c pos) (bBin dAdd ta tb) := be_op op_all4 op2_add ha hc

/-! ### == and != of data -/
/-- data whose == the library's rules tell -/
def D.eqs (d : D) : Bool := d.pure && SeqAt.shaped d.py
def rEqB (b : Bx) (neg : Bool) : R2 := fun x y H Q => ∃ N F E σ d e, Ok b.lb N F E σ H ∧ RepT b.lb F H d x ∧ RepT b.lb F H e y ∧ d.eqs = true ∧ e.eqs = true ∧ Q (.bl (if neg then !PyData.eqv d.py e.py else PyData.eqv d.py e.py)) H
theorem op_eqB (hu : b.X.A.units + 64 < cLine) : OpR b.X (compareOp .Eq) (rEqB b false) := by
  intro pins s σ H x y v u Q I rx ry h
  obtain ⟨N, F, E, σ', d, e, ok, r1, r2, h1, h2, q⟩ := h
  rw [D.eqs, Bool.and_eq_true] at h1 h2
  obtain ⟨as, q1, _⟩ := RepT.reads I (ok.smAt I) ok.sub d x v h1.1 r1 rx
  obtain ⟨bs, q2, _⟩ := RepT.reads I (ok.smAt I) ok.sub e y u h2.1 r2 ry
  exact eq_dataH q1 q2 h1.2 h2.2 hu ⟨.bl _, H, I, rfl, q⟩
theorem op_neB (hu : b.X.A.units + 64 < cLine) : OpR b.X (compareOp .NotEq) (rEqB b true) := by
  intro pins s σ H x y v u Q I rx ry h
  obtain ⟨N, F, E, σ', d, e, ok, r1, r2, h1, h2, q⟩ := h
  rw [D.eqs, Bool.and_eq_true] at h1 h2
  obtain ⟨as, q1, _⟩ := RepT.reads I (ok.smAt I) ok.sub d x v h1.1 r1 rx
  obtain ⟨bs, q2, _⟩ := RepT.reads I (ok.smAt I) ok.sub e y u h2.1 r2 ry
  exact ne_dataH q1 q2 h1.2 h2.2 hu ⟨.bl _, H, I, rfl, q⟩
def dEq (neg : Bool) : F2 := fun x y Q => x.eqs = true ∧ y.eqs = true ∧ Q (.fr (.bl (if neg then !PyData.eqv x.py y.py else PyData.eqv x.py y.py)))
theorem op2_eq {neg : Bool} : Op2 b (rEqB b neg) (dEq neg) := fun N F E σ H x y v u QB Q ok rx ry hf k =>
  ⟨N, F, E, σ, x, y, ok, rx, ry, hf.1, hf.2.1, k F _ _ H (Same.refl F) (ok.push rep_bl) hf.2.2⟩
variable {Nm : List Str} {tbl : List (Nat × Str)} {gl : List Str} {k : Nat}
theorem be_eq (g : Gd b Nm tbl gl k) (ha : BLe b a ta) (hc : BOp b c tb) : BE b (.Compare a [.Eq] [c] pos) (bBin (dEq false) ta tb) := be_cmp (op_eqB g.rm.units) op2_eq ha hc (nomark _)
theorem be_ne (g : Gd b Nm tbl gl k) (ha : BLe b a ta) (hc : BOp b c tb) : BE b (.Compare a [.NotEq] [c] pos) (bBin (dEq true) ta tb) := be_cmp (op_neB g.rm.units) op2_eq ha hc (nomark _)
/-! ### is None -/
def D.isNon : D → Bool
  | .non => true
  | _ => false
theorem nonV {L : Lb} {F H : Hp} {d : D} {v : V} (h : RepT L F H d v) : decide (v = .non) = d.isNon := by
  cases d with
  | non => rw [t_non h]; rfl
  | bl k => rw [t_bl h]; rfl
  | int k => rw [t_int h]; rfl
  | str k => rw [t_str h]; rfl
  | ty k => have h : Rep L F (.ty k) v := h; rw [Rep] at h; rw [h]; rfl
  | tup k => have h : Rep L F (.tup k) v := h; rw [Rep] at h; obtain ⟨a, vs, rfl, _⟩ := h; rfl
  | lst k => obtain ⟨a, vs, rfl, _⟩ := h; rfl
  | dic k => obtain ⟨a, vs, rfl, _⟩ := h; rfl
  | obj c k => obtain ⟨a, dx, vs, rfl, _⟩ := h; rfl
  | ptr a => have h : Rep L F (.ptr a) v := h; rw [Rep] at h; rw [h]; rfl
  | exc c k => have h : Rep L F (.exc c k) v := h; rw [Rep] at h; obtain ⟨a, dx, rfl, _⟩ := h; rfl
  | scr k => have h : Rep L F (.scr k) v := h; rw [Rep] at h; obtain ⟨a, rfl, _⟩ := h; rfl
def bIsN (neg : Bool) (ta : BO) : BT := fun E Q X => ta E (fun d E' => Q (.fr (.bl (if neg then !d.isNon else d.isNon))) E') X
theorem be_isN {j pos'} {tc : BO} (h : BOp b a tc) : BE b (.Compare a [.Is] [.Constant .none j pos'] pos) (bIsN false tc) := pe_weak (pe_cmp (pc_isN h) rfl) fun σ H Q ⟨N, F, E, QB, XB, ok, ht, hQ, hX⟩ =>
  ⟨N, F, E, _, XB, ok, ht, fun F' E' d v H' s' ok' r q => by show Q (V.bl (decide (v = .non))) H'; rw [nonV r]; exact hQ F' E' _ _ H' s' (ok'.push rep_bl) q, hX⟩
theorem be_notN {j pos'} {tc : BO} (h : BOp b a tc) : BE b (.Compare a [.IsNot] [.Constant .none j pos'] pos) (bIsN true tc) := pe_weak (pe_cmp (pc_notN h) rfl) fun σ H Q ⟨N, F, E, QB, XB, ok, ht, hQ, hX⟩ =>
  ⟨N, F, E, _, XB, ok, ht, fun F' E' d v H' s' ok' r q => by show Q (V.bl (!decide (v = .non))) H'; rw [nonV r]; exact hQ F' E' _ _ H' s' (ok'.push rep_bl) q, hX⟩
end
end B
/-! BSub: subscripts, slices, in, len and other calls with one operand. -/
namespace B
open PySem PySem.Spec PyProof.Rows L2
section
variable {b : Bx} {a c e : Expr} {pos : Pos} {ta : BL} {tb : BO}

/-! ### subscripts -/
def dIx : F2 := fun x y Q => match x, y with
  | .lst ds, .int i => ∃ d, atI ds i = some d ∧ Q (.fr d)
  | .tup ds, .int i => ∃ d, atI ds i = some d ∧ Q (.fr d)
  | .str z, .int i => z.length ≤ sizeLine ∧ ∃ k, atI z.cps.toList i = some k ∧ Q (.fr (.str ⟨#[k]⟩))
  | _, _ => False
theorem repA_atI {L : Lb} {F : Hp} {ds : List D} {vs : List V} {i : Int} {d : D} (r : RepA L F ds vs) (h : atI ds i = some d) : ∃ v, atI vs i = some v ∧ Rep L F d v := by
  unfold atI at h ⊢
  rw [← repA_len r]
  cases q : ixN ds.length i with
  | none => rw [q] at h; cases h
  | some j =>
    rw [q] at h
    exact repA_get r (show ds[j]? = some d from h)
theorem op2_ix : Op2 b (rIx b.X.K) dIx := by
  intro N F E σ H x y v u QB Q ok rx ry hf k
  cases x with
  | lst ds =>
    cases y with
    | int i =>
      obtain ⟨d, h1, h2⟩ := hf
      obtain ⟨p, vs, rfl, hp, ra⟩ := rx
      obtain ⟨z, hz, rz⟩ := repA_atI ra h1
      exact .inl ⟨p, vs, i, z, rfl, t_int ry, .inl (.inl hp), hz, k F _ _ H (Same.refl F) (ok.push rz) h2⟩
    | _ => exact False.elim hf
  | tup ds =>
    cases y with
    | int i =>
      obtain ⟨d, h1, h2⟩ := hf
      obtain ⟨p, vs, e, _, hp, ra⟩ := t_tup ok.sub rx
      obtain ⟨z, hz, rz⟩ := repA_atI ra h1
      exact .inr (.inl ⟨p, vs, i, z, e, t_int ry, hp, hz, k F _ _ H (Same.refl F) (ok.push rz) h2⟩)
    | _ => exact False.elim hf
  | str z =>
    cases y with
    | int i =>
      obtain ⟨hz, d, h1, h2⟩ := hf
      exact .inr (.inr ⟨z, i, d, t_str rx, t_int ry, hz, h1, k F _ _ H (Same.refl F) (ok.push rep_str) h2⟩)
    | _ => exact False.elim hf
  | _ => exact False.elim hf

/-! ### slices -/
abbrev BP := En → (Option Int → En → Prop) → QX → Prop
def lowP (b : Bx) (t : BP) : TO := fun σ H Q => ∃ N F E QB XB, Ok b.lb N F E σ H ∧ t E QB XB ∧
  (∀ F' E' i H', Same F F' → Ok b.lb N F' E' σ H' → QB i E' → Q i H') ∧ xOk b N F XB
abbrev BPt (b : Bx) (e : Option Expr) (t : BP) : Prop := PO b.X e (lowP b t)
theorem po_weak {X : Cx} {e : Option Expr} {t t' : TO} (h : PO X e t) (w : ∀ σ H Q, t' σ H Q → t σ H Q) : PO X e t' := ⟨fun pins s σ H Q I q => h.run pins s σ H Q I (w σ H Q q)⟩
def bPn : BP := fun E Q _ => Q none E
def bPs (t : BO) : BP := fun E Q X => t E (fun d E' => match d with
  | .int i => Q (some i) E'
  | _ => False) X
theorem bp_none : BPt b none bPn := po_weak po_none fun σ H Q ⟨N, F, E, QB, XB, ok, ht, hQ, hX⟩ => hQ F E none H (Same.refl F) ok ht
theorem bp_some {t : BO} (h : BOp b e t) : BPt b (some e) (bPs t) := po_weak (po_some h) fun σ H Q ⟨N, F, E, QB, XB, ok, ht, hQ, hX⟩ =>
  ⟨N, F, E, _, XB, ok, ht, fun F' E' d v H' s' ok' r q => by
    cases d with
    | int i => exact ⟨i, t_int r, hQ F' E' _ H' s' ok' q⟩
    | _ => exact False.elim q, hX⟩
def cutD {α : Type} (xs : List α) (lo hi : Option Int) : List α := (xs.drop (HT.sIx xs.length 0 lo)).take (HT.sIx xs.length xs.length hi - HT.sIx xs.length 0 lo)
theorem repA_cut {L : Lb} {F : Hp} {ds : List D} {vs : List V} (r : RepA L F ds vs) (lo hi : Option Int) : RepA L F (cutD ds lo hi) (cutV vs lo hi) := by
  unfold cutD cutV
  rw [repA_len r]
  exact repA_take (repA_drop r _) _
theorem cutD_whole {α : Type} {xs : List α} {lo hi : Option Int} (h : HT.sIx xs.length 0 lo = 0 ∧ HT.sIx xs.length xs.length hi = xs.length) : cutD xs lo hi = xs := by
  unfold cutD
  rw [h.1, h.2]
  simp
def dSl (x : D) (lo hi : Option Int) (Q : Sl → Prop) : Prop := match x with
  | .lst ds => Q (.ow (.lst (cutD ds lo hi)))
  | .tup ds => Q (.fr (.tup (cutD ds lo hi)))
  | .str z => z.length ≤ sizeLine ∧ Q (.fr (.str (cutS z lo hi)))
  | _ => False
def bSlc (t : BL) (tl th : BP) : BT := fun E Q X => t E (fun h E1 => tl E1 (fun lo E2 => th E2 (fun hi E3 => match h.get E3 with
  | some x => dSl x lo hi fun s => Q s E3
  | none => False) X) X) X
def rSlB3 (K : PySem.W.Frag) : V → Option Int → Option Int → Hp → VK → Prop := fun x lo hi H Q => rSlL K x lo hi H Q ∨ (rSlA K x lo hi H Q ∨ rSlS x lo hi H Q)
theorem sl_b3 {X : Cx} : SlR X (rSlB3 X.K) := SlR.or sl_list (SlR.or sl_tupA sl_str)
theorem be_slc {lo hi : Option Expr} {p2 : Pos} {tl th : BP} (h : BLe b e ta) (hl : BPt b lo tl) (hh : BPt b hi th) : BE b (.Subscript e (.Slice lo hi none p2) pos) (bSlc ta tl th) :=
  pe_weak (pe_slice sl_b3 h hl hh) fun σ H Q ⟨N, F, E, QB, XB, ok, ht, hQ, hX⟩ => ⟨N, F, E, _, XB, ok, ht, fun F1 E1 h v H1 s1 ok1 r1 q1 =>
    ⟨N, F1, E1, _, XB, ok1, q1, fun F2 E2 lo H2 s2 ok2 q2 => ⟨N, F2, E2, _, XB, ok2, q2, fun F3 E3 hi H3 s3 ok3 q3 => by
      cases g : h.get E3 with
      | none =>
        have q3 : (match h.get E3 with
          | some x => dSl x lo hi fun s => QB s E3
          | none => False) := q3
        rw [g] at q3; exact q3.elim
      | some x =>
        have q3 : (match h.get E3 with
          | some x => dSl x lo hi fun s => QB s E3
          | none => False) := q3
        rw [g] at q3
        have s13 := s2.trans s3
        have rx := HdR.top ok3 s13 r1 g
        have hQ' : ∀ F' s v' H', Same F3 F' → Ok b.lb N F' ⟨E3.r ++ [s], E3.m⟩ (σ ++ [some v']) H' → QB s E3 → Q v' H' := fun F' s v' H' sF => hQ F' E3 s v' H' ((s1.trans s13).trans sF)
        cases x with
        | lst ds =>
          obtain ⟨p, vs, rfl, hp, ra⟩ := rx
          exact .inl ⟨p, vs, rfl, .inl (.inl hp), fun q hq => hQ' F3 _ _ _ (Same.refl _) (res_lst ok3 (repA_cut ra lo hi) hq) q3⟩
        | tup ds =>
          obtain ⟨p, vs, e, _, hp, ra⟩ := t_tup ok3.sub rx
          refine .inr (.inl ⟨p, vs, e, hp, fun w => ?_, fun _ q hq => ?_⟩)
          · rw [← repA_len ra] at w
            have q3 : QB (.fr (.tup (cutD ds lo hi))) E3 := q3
            rw [cutD_whole w] at q3
            rw [← e]
            exact hQ' F3 _ _ _ (Same.refl _) (ok3.push rx) q3
          · obtain ⟨F', s', ok'⟩ := res_tup ok3 (repA_cut ra lo hi) hq
            exact hQ' F' _ _ _ s' ok' q3
        | str z => exact .inr (.inr ⟨z, t_str rx, q3.1, hQ' F3 _ _ _ (Same.refl _) (ok3.push rep_str) q3.2⟩)
        | _ => exact False.elim q3, (hX.go s1).go s2⟩, hX.go s1⟩, hX⟩

/-! ### a call with one operand -/
abbrev F1 := D → (Sl → Prop) → Prop
def Op1 (b : Bx) (r : List V → Hp → VK → Prop) (f : F1) : Prop := ∀ N F E σ H x v (QB : Sl → Prop) (Q : VK), Ok b.lb N F E σ H → RepT b.lb F H x v → f x QB →
  (∀ F' s v' H', Same F F' → Ok b.lb N F' ⟨E.r ++ [s], E.m⟩ (σ ++ [some v']) H' → QB s → Q v' H') → r [v] H Q
def bUn (f : F1) (t : BO) : BT := fun E Q X => t E (fun d E' => f d fun s => Q s E') X
def lowO1 (b : Bx) (t : BO) : TA := tCons (lowO b t) tNil
theorem un_low {r : List V → Hp → VK → Prop} {f : F1} {t : BO} (o : Op1 b r f) : ∀ σ H Q, lowE b (bUn f t) σ H Q → tCB r (lowO1 b t) σ H Q := fun σ H Q ⟨N, F, E, QB, XB, ok, ht, hQ, hX⟩ =>
  ⟨N, F, E, _, XB, ok, ht, fun F1 E1 d v H1 s1 ok1 r1 q1 => o N F1 E1 σ H1 d v _ Q ok1 r1 q1 fun F' s v' H' sF => hQ F' E1 s v' H' (s1.trans sF), hX⟩
theorem be_b1 {x : Str} {id : String} {p : Pos} {r : List V → Hp → VK → Prop} {f : F1} {t : BO} (hc : CallR b.X (.builtin id) r) (o : Op1 b r f) (hg : Gl b.X x) (hm : b.X.mg x = none) (hv : bootBuiltins x = some (.builtin id)) (ha : BOp b e t)
    (hn : x ≠ "__name__" := by decide) (hdb : (x == ("__debug__" : Str)) = false := by decide) (he : starEach [e] b.X.env = (false, eval e b.X.env) :: starEach [] b.X.env := by rfl) : BE b (.Call (.Name x p) [e] [] pos) (bUn f t) :=
  pe_weak (pe_callB hc hg hm hv (pa_cons ha pa_nil he) hn hdb he rfl) (un_low o)
theorem be_t1 {x : Str} {T : String} {p : Pos} {r : List V → Hp → VK → Prop} {f : F1} {t : BO} (hc : CallR b.X (.type T) r) (o : Op1 b r f) (hg : Gl b.X x) (hm : b.X.mg x = none) (hv : bootBuiltins x = some (.type T)) (ha : BOp b e t)
    (hn : x ≠ "__name__" := by decide) (hdb : (x == ("__debug__" : Str)) = false := by decide) (he : starEach [e] b.X.env = (false, eval e b.X.env) :: starEach [] b.X.env := by rfl) : BE b (.Call (.Name x p) [e] [] pos) (bUn f t) :=
  pe_weak (pe_callTy hc hg hm hv (pa_cons ha pa_nil he) hn hdb he rfl) (un_low o)
end
/-! ### dicts as they stand -/
section
variable {b : Bx} {pins : List (Addr × Obj)} {σ : L2.St} {F H : Hp} {s : Shared}
mutual
/-- a nested key's tuple -/
theorem Rep.nested (I : Inv b.X pins σ H s) (sF : Same F H) : ∀ (k : D) (nk : NestedKey) (v : V) (u : Value), k.key = some nk → Rep b.lb F k v → RelV v u → NestedIs s.heap nk u
  | .non, nk, v, u, hk, h, r => by
    rw [D.key] at hk
    rw [Rep] at h; subst h; cases r; cases hk
    exact .none
  | .bl k, nk, v, u, hk, h, r => by
    rw [D.key] at hk
    rw [Rep] at h; subst h; cases r; cases hk
    exact .bool rfl
  | .int k, nk, v, u, hk, h, r => by
    rw [D.key] at hk
    rw [Rep] at h; subst h; obtain ⟨t, rfl⟩ := r; cases hk
    exact .int _ _
  | .str k, nk, v, u, hk, h, r => by
    rw [D.key] at hk
    rw [Rep] at h; subst h; obtain ⟨t, rfl⟩ := r; cases hk
    exact .text _ _
  | .tup xs, nk, v, u, hk, h, r => by
    rw [D.key] at hk
    rw [Rep] at h
    obtain ⟨a, vs, e, q, ra⟩ := h
    subst e
    cases r
    obtain ⟨its, rv, o, ho, hc, n, hd⟩ := tup_at I sF q
    cases q2 : D.keyA xs with
    | none => rw [q2] at hk; cases hk
    | some nks =>
      rw [q2] at hk
      cases hk
      exact .tup ho hc hd (by simpa using RepA.nested I sF xs nks vs its q2 ra rv)
  | .ty _, nk, v, u, hk, _, _ => by rw [D.key] at hk; cases hk
  | .lst _, nk, v, u, hk, _, _ => by rw [D.key] at hk; cases hk
  | .dic _, nk, v, u, hk, _, _ => by rw [D.key] at hk; cases hk
  | .obj _ _, nk, v, u, hk, _, _ => by rw [D.key] at hk; cases hk
  | .ptr _, nk, v, u, hk, _, _ => by rw [D.key] at hk; cases hk
  | .exc _ _, nk, v, u, hk, _, _ => by rw [D.key] at hk; cases hk
  | .scr _, nk, v, u, hk, _, _ => by rw [D.key] at hk; cases hk
theorem RepA.nested (I : Inv b.X pins σ H s) (sF : Same F H) : ∀ (ds : List D) (nks : List NestedKey) (vs : List V) (us : List Value), D.keyA ds = some nks → RepA b.lb F ds vs → Vals vs us → NestedAll s.heap nks us
  | [], nks, vs, us, hk, h, r => by
    rw [D.keyA] at hk
    rw [RepA] at h; subst h; cases r; cases hk
    exact .nil
  | d :: ds, nks, vs, us, hk, h, r => by
    rw [D.keyA] at hk
    rw [RepA] at h
    obtain ⟨v, vr, e, h1, h2⟩ := h
    subst e
    cases r with
    | cons r1 r2 =>
      cases q1 : D.key d with
      | none => rw [q1] at hk; cases hk
      | some nk =>
        cases q2 : D.keyA ds with
        | none => rw [q1, q2] at hk; cases hk
        | some nks' =>
          rw [q1, q2] at hk
          cases hk
          exact .cons (Rep.nested I sF d nk v _ q1 h1 r1) (RepA.nested I sF ds nks' vr _ q2 h2 r2)
end
end
end B
/-! BBlt: built-in calls by data. -/
namespace B
open PySem PySem.Spec PyProof.Rows L2
section
variable {b : Bx} {a c e : Expr} {pos p : Pos} {t tb : BO} {ta : BL} {Nm : List Str} {tbl : List (Nat × Str)} {gl : List Str} {k : Nat}
/-- a call by data: all that is known -/
def rD1 (b : Bx) (f : F1) : List V → Hp → VK → Prop := fun xs H Q => ∃ N F E σ d x QB, xs = [x] ∧ Ok b.lb N F E σ H ∧ RepT b.lb F H d x ∧ f d QB ∧
  ∀ F' s v' H', Same F F' → Ok b.lb N F' ⟨E.r ++ [s], E.m⟩ (σ ++ [some v']) H' → QB s → Q v' H'
theorem op1_D {f : F1} : Op1 b (rD1 b f) f := fun N F E σ H x v QB Q ok rx hf k => ⟨N, F, E, σ, x, v, QB, rfl, ok, rx, hf, k⟩
/-- at v stands that dict -/
theorem dic_at {pins : List (Addr × Obj)} {σ σ' : L2.St} {N : Nh} {F H : Hp} {E : En} {s : Shared} {kvs : List (D × D)} {v : V} (I : Inv b.X pins σ H s) (ok : Ok b.lb N F E σ' H) (r : RepT b.lb F H (.dic kvs) v) :
    ∃ q, v = .ref q ∧ (q == sysModules) = false ∧ kvs.length ≤ sizeLine ∧ ((∃ us, s.heap.DictOf (strKind b.X.prog b.X.w) q us ∧ us.length = kvs.length ∧ RepS b.lb F kvs us) ∨
      ∃ xs, s.heap.DictOfH (nestedKind b.X.prog b.X.w) q xs ∧ xs.length = kvs.length ∧ RepX b.lb F kvs xs) := by
  obtain ⟨q, o, e, ho, z, l, rr⟩ := r
  have ho := ext_at I ho
  refine ⟨q, e, z, l, ?_⟩
  have lenS : ∀ (kvs : List (D × D)) (us : List (Str × Value)), RepS b.lb F kvs us → us.length = kvs.length := by
    intro kvs
    induction kvs with
    | nil => intro us h; rw [RepS] at h; subst h; rfl
    | cons kv kvs ih =>
      intro us h
      obtain ⟨k, d⟩ := kv
      rw [RepS] at h
      obtain ⟨x, u, v, us', e1, _, _, _, h2⟩ := h
      subst e1
      simp [ih us' h2]
  have lenX : ∀ (kvs : List (D × D)) (us : List (NestedKey × Addr × Value)), RepX b.lb F kvs us → us.length = kvs.length := by
    intro kvs
    induction kvs with
    | nil => intro us h; rw [RepX] at h; subst h; rfl
    | cons kv kvs ih =>
      intro us h
      obtain ⟨k, d⟩ := kv
      rw [RepX] at h
      obtain ⟨x, u, v, w, us', e1, _, _, _, _, h2⟩ := h
      subst e1
      simp [ih us' h2]
  have isX : ∀ (kvs : List (D × D)) (us : List (NestedKey × Addr × Value)), RepX b.lb F kvs us → ∀ x ∈ us, NestedIs s.heap x.1 (.ref x.2.1) := by
    intro kvs
    induction kvs with
    | nil => intro us h; rw [RepX] at h; subst h; intro x hx; cases hx
    | cons kv kvs ih =>
      intro us h
      obtain ⟨k, d⟩ := kv
      rw [RepX] at h
      obtain ⟨nk, ka, u, w, us', e1, hk, hr, _, _, h2⟩ := h
      subst e1
      intro x hx
      rcases List.mem_cons.mp hx with rfl | hx
      · exact Rep.nested I ok.sub k nk (.ref ka) (.ref ka) hk hr rfl
      · exact ih us' h2 x hx
  rcases rr with ⟨us, h1, h2⟩ | ⟨xs, ⟨es, ep, hx, hd, he, hn, hdp⟩, h2⟩
  · exact .inl ⟨us, Heap.dictOf_iff.mpr ⟨o, ho, h1⟩, lenS _ _ h2, h2⟩
  · exact .inr ⟨xs, ⟨o, es, ep, ho, hx, hd, he, fun x hx => ⟨isX _ _ h2 x hx, hdp x hx⟩, hn⟩, lenX _ _ h2, h2⟩

/-! ### len -/
def dLen : F1 := fun d Q => match d with
  | .lst ds => Q (.fr (.int ds.length))
  | .tup ds => Q (.fr (.int ds.length))
  | .dic kvs => Q (.fr (.int kvs.length))
  | .scr ns => Q (.fr (.int ns.length))
  | .str z => z.length ≤ sizeLine ∧ Q (.fr (.int z.length))
  | _ => False
theorem cb_len : CallR b.X (.builtin "len") (rD1 b dLen) := by
  intro pins s σ H xs us Q I r h
  obtain ⟨N, F, E, σ', d, x, QB, rfl, ok, rx, hf, k⟩ := h
  have fin : ∀ i : Int, QB (.fr (.int i)) → Q (.int i) H := fun i q => k F _ _ H (Same.refl F) (ok.push rep_int) q
  cases d with
  | lst ds =>
    obtain ⟨q, vs, rfl, h1, h2⟩ := rx
    exact call_len pins s σ H _ us Q I r ⟨_, vs.length, rfl, .inl ⟨vs, .inl (.inl h1), rfl⟩, by rw [← repA_len h2]; exact fin _ hf⟩
  | tup ds =>
    obtain ⟨q, vs, rfl, _, h1, h2⟩ := t_tup ok.sub rx
    exact call_len pins s σ H _ us Q I r ⟨_, vs.length, rfl, .inr ⟨vs, h1, rfl⟩, by rw [← repA_len h2]; exact fin _ hf⟩
  | scr ns =>
    obtain ⟨q, rfl, h1⟩ := t_scr ok.sub rx
    exact call_len pins s σ H _ us Q I r ⟨_, ns.length, rfl, .inl ⟨_, h1, by simp⟩, fin _ hf⟩
  | str z =>
    rw [t_str rx] at r
    exact call_len pins s σ H _ us Q I r ⟨_, z.length, rfl, ⟨hf.1, rfl⟩, fin _ hf.2⟩
  | dic kvs =>
    obtain ⟨q, rfl, z, l, hk⟩ := dic_at I ok rx
    obtain ⟨u, rfl, ru⟩ := vals1 r
    cases ru
    have hn := line63
    rcases hk with ⟨us, h1, e1, _⟩ | ⟨us, h1, e1, _⟩
    · exact call_len_dict z h1 (by omega) ⟨.int kvs.length, H, I.tok _, ⟨_, by rw [e1]⟩, fin _ hf⟩
    · exact call_len_dictH z h1 (by omega) ⟨.int kvs.length, H, I.tok _, ⟨_, by rw [e1]⟩, fin _ hf⟩
  | _ => exact False.elim hf
theorem be_len (hg : Gl b.X "len") (hm : b.X.mg "len" = none) (ha : BOp b e t) (he : starEach [e] b.X.env = [(false, eval e b.X.env)] := by rfl) : BE b (.Call (.Name "len" p) [e] [] pos) (bUn dLen t) :=
  be_b1 cb_len op1_D hg hm boot_len ha (he := he)

/-! ### all, any, sum, int -/
def dAll : F1 := fun d Q => ∃ bs : List Bool, d = .lst (bs.map .bl) ∧ Q (.fr (.bl (bs.all id)))
def dAny : F1 := fun d Q => ∃ bs : List Bool, d = .lst (bs.map .bl) ∧ Q (.fr (.bl (bs.any id)))
def dSum : F1 := fun d Q => ∃ ns : List Int, d = .lst (ns.map .int) ∧ Q (.fr (.int ns.sum))
def dInt1 : F1 := fun d Q => ∃ n : Int, d = .int n ∧ Q (.fr (.int n))
theorem o1_all : Op1 b (rAll b.X.K) dAll := by
  rintro N F E σ H x v QB Q ok rx ⟨bs, rfl, q⟩ k
  obtain ⟨a, vs, rfl, h1, h2⟩ := rx
  exact ⟨a, bs, rfl, .inl (.inl (by rw [← repA_bls h2]; exact h1)), k F _ _ H (Same.refl F) (ok.push rep_bl) q⟩
theorem o1_any : Op1 b (rAny b.X.K) dAny := by
  rintro N F E σ H x v QB Q ok rx ⟨bs, rfl, q⟩ k
  obtain ⟨a, vs, rfl, h1, h2⟩ := rx
  exact ⟨a, bs, rfl, .inl (.inl (by rw [← repA_bls h2]; exact h1)), k F _ _ H (Same.refl F) (ok.push rep_bl) q⟩
theorem o1_sum : Op1 b (rSum b.X.K) dSum := by
  rintro N F E σ H x v QB Q ok rx ⟨bs, rfl, q⟩ k
  obtain ⟨a, vs, rfl, h1, h2⟩ := rx
  exact ⟨a, bs, rfl, .inl (.inl (by rw [← repA_ints h2]; exact h1)), k F _ _ H (Same.refl F) (ok.push rep_int) q⟩
theorem o1_int : Op1 b (fun xs H Q => (∃ i, xs = [.int i] ∧ Q (.int i) H) ∨ ∃ k, xs = [.bl k] ∧ Q (.int (if k then 1 else 0)) H) dInt1 := by
  rintro N F E σ H x v QB Q ok rx ⟨i, rfl, q⟩ k
  exact .inl ⟨i, by rw [t_int rx], k F _ _ H (Same.refl F) (ok.push rep_int) q⟩
theorem be_all (g : Gd b Nm tbl gl k) (hg : Gl b.X "all") (hm : b.X.mg "all" = none) (ha : BOp b e t) (he : starEach [e] b.X.env = [(false, eval e b.X.env)] := by rfl) : BE b (.Call (.Name "all" p) [e] [] pos) (bUn dAll t) :=
  be_b1 (cr_all g.calm) o1_all hg hm boot_all ha (he := he)
theorem be_any (g : Gd b Nm tbl gl k) (hg : Gl b.X "any") (hm : b.X.mg "any" = none) (ha : BOp b e t) (he : starEach [e] b.X.env = [(false, eval e b.X.env)] := by rfl) : BE b (.Call (.Name "any" p) [e] [] pos) (bUn dAny t) :=
  be_b1 (cr_any g.calm) o1_any hg hm boot_any ha (he := he)
theorem be_sum (g : Gd b Nm tbl gl k) (hg : Gl b.X "sum") (hm : b.X.mg "sum" = none) (ha : BOp b e t) (he : starEach [e] b.X.env = [(false, eval e b.X.env)] := by rfl) : BE b (.Call (.Name "sum" p) [e] [] pos) (bUn dSum t) :=
  be_b1 (cr_sum g.calm) o1_sum hg hm boot_sum ha (he := he)
theorem be_int (hg : Gl b.X "int") (hm : b.X.mg "int" = none) (ha : BOp b e t) (he : starEach [e] b.X.env = [(false, eval e b.X.env)] := by rfl) : BE b (.Call (.Name "int" p) [e] [] pos) (bUn dInt1 t) :=
  be_t1 call_int1 o1_int hg hm boot_int ha (he := he)

/-! ### repr of lists, tuples, dicts -/
def D.isRef : D → Bool
  | .lst _ => true
  | .tup _ => true
  | .dic _ => true
  | _ => false
def dRepr : F1 := fun d Q => d.isRef = true ∧ d.pure = true ∧ d.py.showable = true ∧ d.py.depth ≤ 60 ∧ d.py.shown.length ≤ sizeLine ∧ Q (.fr (.str d.py.shown))
theorem cb_repr (hu : b.X.A.units + 64 < cLine) (hgd : b.X.A.guards = some []) : CallR b.X (.builtin "repr") (rD1 b dRepr) := by
  intro pins s σ H xs us Q I r h
  obtain ⟨N, F, E, σ', d, x, QB, rfl, ok, rx, ⟨h1, h2, h3, h4, h5, q⟩, k⟩ := h
  obtain ⟨u, rfl, ru⟩ := vals1 r
  obtain ⟨as, hr, hn⟩ := RepT.reads I (ok.smAt I) ok.sub d x u h2 rx ru
  have rf : ∃ q, x = .ref q := by
    cases d with
    | lst ds => obtain ⟨q, vs, e, _⟩ := rx; exact ⟨q, e⟩
    | tup ds => obtain ⟨q, vs, e, _⟩ := t_tup ok.sub rx; exact ⟨q, e⟩
    | dic ds => obtain ⟨q, vs, e, _⟩ := rx; exact ⟨q, e⟩
    | _ => cases h1
  obtain ⟨q', rfl⟩ := rf
  cases ru
  exact repr_of_reads' hr h3 (fun _ => hn) hgd (by omega) (fun _ _ e => e) (fun h' u tk hk => ⟨.str d.py.shown, H, I.kept hk, ⟨u, rfl⟩, k F _ _ H (Same.refl F) (ok.push rep_str) q⟩) h5
theorem be_repr (g : Gd b Nm tbl gl k) (hg : Gl b.X "repr") (hm : b.X.mg "repr" = none) (ha : BOp b e t) (he : starEach [e] b.X.env = [(false, eval e b.X.env)] := by rfl) : BE b (.Call (.Name "repr" p) [e] [] pos) (bUn dRepr t) :=
  be_b1 (cb_repr g.rm.units g.gd) op1_D hg hm boot_repr ha (he := he)

/-! ### list(x), tuple(x) -/
def dList : F1 := fun d Q => match d with
  | .lst ds => Q (.ow (.lst ds))
  | .tup ds => Q (.ow (.lst ds))
  | _ => False
def dTuple : F1 := fun d Q => match d with
  | .lst ds => Q (.fr (.tup ds))
  | .tup ds => Q (.fr (.tup ds))
  | _ => False
theorem o1_list : Op1 b (fun xs H Q => ∃ p ys, xs = [.ref p] ∧ (SqL b.X.K H p ys ∨ SqT b.X.K H p ys) ∧ ∀ l, H l = none → Q (.ref l) (upd H l (.lst ys))) dList := by
  intro N F E σ H x v QB Q ok rx hf k
  cases x with
  | lst ds =>
    obtain ⟨q, vs, rfl, h1, h2⟩ := rx
    exact ⟨q, vs, rfl, .inl (.inl (.inl h1)), fun l hl => k F _ _ _ (Same.refl F) (res_lst ok h2 hl) hf⟩
  | tup ds =>
    obtain ⟨q, vs, rfl, _, h1, h2⟩ := t_tup ok.sub rx
    exact ⟨q, vs, rfl, .inr h1, fun l hl => k F _ _ _ (Same.refl F) (res_lst ok h2 hl) hf⟩
  | _ => exact False.elim hf
theorem o1_tuple : Op1 b (fun xs H Q => ∃ p ys, xs = [.ref p] ∧ ((SqL b.X.K H p ys ∧ ∀ l, H l = none → Q (.ref l) (upd H l (.tup ys))) ∨ (SqT b.X.K H p ys ∧ Q (.ref p) H))) dTuple := by
  intro N F E σ H x v QB Q ok rx hf k
  cases x with
  | lst ds =>
    obtain ⟨q, vs, rfl, h1, h2⟩ := rx
    exact ⟨q, vs, rfl, .inl ⟨.inl (.inl h1), fun l hl => by
      obtain ⟨F', s', ok'⟩ := res_tup ok h2 hl
      exact k F' _ _ _ s' ok' hf⟩⟩
  | tup ds =>
    obtain ⟨q, vs, rfl, _, h1, h2⟩ := t_tup ok.sub rx
    exact ⟨q, vs, rfl, .inr ⟨h1, k F _ _ H (Same.refl F) (ok.push rx) hf⟩⟩
  | _ => exact False.elim hf
theorem be_list (hg : Gl b.X "list") (hm : b.X.mg "list" = none) (ha : BOp b e t) (he : starEach [e] b.X.env = [(false, eval e b.X.env)] := by rfl) : BE b (.Call (.Name "list" p) [e] [] pos) (bUn dList t) :=
  be_t1 call_list_of o1_list hg hm boot_list ha (he := he)
theorem be_tuple (hg : Gl b.X "tuple") (hm : b.X.mg "tuple" = none) (ha : BOp b e t) (he : starEach [e] b.X.env = [(false, eval e b.X.env)] := by rfl) : BE b (.Call (.Name "tuple" p) [e] [] pos) (bUn dTuple t) :=
  be_t1 call_tuple_of o1_tuple hg hm boot_tuple ha (he := he)
end
end B
/-! BIter: what a loop or a comprehension walks; for; list comprehensions. -/
namespace B
open PySem PySem.Spec PyProof.Rows L2
/-- an iterator that gives those data, one after another, while what stood at its making stands -/
structure Feed (L : Lb) (J : It) (N₀ : Nh) (F₀ : Hp) (ds : List D) : Prop where
  go : ∀ i N F E σ H, Same F₀ F → Same N₀.h N.h → Ok L N F E σ H → i < ds.length → J.go i H
  stop : ∀ i N F E σ H, Same F₀ F → Same N₀.h N.h → Ok L N F E σ H → i = ds.length → J.stop i H
  yld : ∀ i N F E σ H x H' d, Same F₀ F → Same N₀.h N.h → Ok L N F E σ H → ds[i]? = some d → J.yld i H x H' → ∃ F', Same F F' ∧ Ok L N F' E σ H' ∧ Rep L F' d x

/-- the items of a datum -/
def D.items : D → Option (List D)
  | .lst ds => some ds
  | .tup ds => some ds
  | .scr ns => some (ns.map .int)
  | .str z => some (z.cps.toList.map fun c => .str ⟨#[c]⟩)
  | .dic kvs => some (kvs.map (·.1))
  | _ => none

section
variable {P : Program} {w : World} {K : PySem.W.Frag} {tg : Expr}
/-- the keys of the dict object o at a -/
def Ito (a : Addr) (o : Obj) (es : Array DictEntry) : It :=
  ⟨fun i H => H a = some (dO a o) ∧ i < es.size, fun i H x H' => H' = H ∧ ∃ en, es[i]? = some en ∧ RelV x en.key, fun i H => H a = some (dO a o) ∧ i = es.size⟩
theorem dO_at {X : Cx} {pins : List (Addr × Obj)} {σ : L2.St} {H : Hp} {s : Shared} {a : Addr} {o : Obj} (I : Inv X pins σ H s) (h : H a = some (dO a o)) : s.heap.get? a = some o := (I.hok a _ h).1
theorem turn_o {a it : Addr} {o : Obj} {es : Array DictEntry} {ep : Nat} (hx : o.ExactDict) (hd : o.data = .dict es ep) (hv : ∀ (i : Nat) (en : DictEntry), es[i]? = some en → ∃ x : V, RelV x en.key) :
    Turn P w K tg (Ito a o es) [it] it (fun i h => h.IsKeyIter it a i es.size ep) where
  mem := by simp
  obj := fun i h st b hb => by
    obtain rfl : b = it := by simpa using hb
    obtain ⟨oi, e, c, dd⟩ := st
    exact ⟨oi, e, fun v z => by rw [dd] at z; cases z⟩
  keep := fun i h h' st k => st.at fun oi e => k it (by simp) oi e
  item := by
    intro X hP hw hK hc i pins s σ H E I hf st hg
    subst hP hw hK
    obtain ⟨h1, hi⟩ := hg
    obtain ⟨f0, f1, f2, f3, f4, f5⟩ := hf it (by simp)
    refine wpAny_pyNext_keys_item_raw st ⟨o, dO_at I h1, hx, hd⟩ hi fun h' st' sb => ?_
    have I1 : Inv X pins σ H { s with heap := h' } := I.turned (t' := s.toks) (fun b ob hb e => (sb.2 b hb).trans e) f0 f1 f3 f4 f5
    obtain ⟨oi, e, c, dd⟩ := id st'
    have he : es[i]? = some es[i] := by simp [hi]
    obtain ⟨x, rx⟩ := hv i _ he
    exact ⟨es[i].key, rfl, go_of (s := { s with heap := h' }) e c dd (by decide) ⟨x, H, I1, rx, ⟨rfl, _, he, rx⟩, st', fun b hb => (hf b hb).1⟩⟩
  done := by
    intro X hP hw hK hc i pins s σ H E I hf st hg
    subst hP hw hK
    obtain ⟨h1, hi⟩ := hg
    obtain ⟨f0, f1, f2, f3, f4, f5⟩ := hf it (by simp)
    exact wpAny_pyNext_keys_end_raw (I.ok.hd hc) st ⟨o, dO_at I h1, hx, hd⟩ (by omega) fun h' eb => ⟨rfl, I.turned (t' := s.toks) (fun b ob hb e => eb b ob hb e) f0 f1 f3 f4 f5⟩
  self := fun A i s Q E st h => wpAny_pyIter_keyiter st h
end

section
variable {b : Bx} {pins : List (Addr × Obj)} {σ σ' : L2.St} {N : Nh} {F H : Hp} {En' : En} {s : Shared} {tg : Expr}
/-- the keys' values of a dict, by its entries -/
theorem keys_of {kvs : List (D × D)} {q : Addr} {o : Obj} (r : DicR b.lb F kvs o) : ∃ es ep, o.ExactDict ∧ o.data = .dict es ep ∧ es.size = kvs.length ∧
    ∀ (i : Nat) (en : DictEntry), es[i]? = some en → ∃ k d x, kvs[i]? = some (k, d) ∧ RelV x en.key ∧ Rep b.lb F k x ∧ ∀ y, RelV y en.key → y = x := by
  obtain ⟨l, rr⟩ := r
  rcases rr with ⟨us, ⟨es, ep, hx, hd, _, hp, _⟩, r2⟩ | ⟨xs, ⟨es, ep, hx, hd, he, _, _⟩, r2⟩
  · refine ⟨es, ep, hx, hd, ?_⟩
    have key : ∀ (kvs : List (D × D)) (us : List (Str × Value)) (el : List DictEntry), RepS b.lb F kvs us → Pairs (strKind b.X.prog b.X.w) el us → el.length = kvs.length ∧
        ∀ (i : Nat) (en : DictEntry), el[i]? = some en → ∃ k d x, kvs[i]? = some (k, d) ∧ RelV x en.key ∧ Rep b.lb F k x ∧ ∀ y, RelV y en.key → y = x := by
      intro kvs
      induction kvs with
      | nil => intro us el h p; rw [RepS] at h; subst h; cases p; exact ⟨rfl, fun i en z => by simp at z⟩
      | cons kv kvs ih =>
        intro us el h p
        obtain ⟨k, d⟩ := kv
        rw [RepS] at h
        obtain ⟨x, u, v, us', e, e2, rv, h1, h2⟩ := h
        subst e; subst e2
        cases p with
        | @cons en kv es' kvs' hk hv hp =>
          obtain ⟨t, ht⟩ := Value.isStrOf_shape (x := x) (v := en.key) hk
          obtain ⟨l1, l2⟩ := ih us' es' h2 hp
          refine ⟨by simp [l1], fun i en' z => ?_⟩
          cases i with
          | zero =>
            cases z
            refine ⟨.str x, d, .str x, rfl, ⟨t, ht⟩, rep_str, fun y hy => ?_⟩
            rw [ht] at hy
            cases y with
            | str y => obtain ⟨t', e⟩ := hy; cases e; rfl
            | non => cases hy
            | bl _ => cases hy
            | int _ => obtain ⟨_, e⟩ := hy; cases e
            | byt _ => obtain ⟨_, e⟩ := hy; cases e
            | flt _ => obtain ⟨_, e⟩ := hy; cases e
            | ref _ => cases hy
            | ty _ => cases hy
          | succ i => exact l2 i en' z
    obtain ⟨l1, l2⟩ := key kvs us es.toList r2 hp
    exact ⟨by simpa using l1, fun i en z => l2 i en (by simpa using z)⟩
  · refine ⟨es, ep, hx, hd, ?_⟩
    have key : ∀ (kvs : List (D × D)) (xs : List (NestedKey × Addr × Value)), RepX b.lb F kvs xs → xs.length = kvs.length ∧
        ∀ (i : Nat) (en : DictEntry), (xs.map (entryOfKey (nestedKind b.X.prog b.X.w)))[i]? = some en → ∃ k d x, kvs[i]? = some (k, d) ∧ RelV x en.key ∧ Rep b.lb F k x ∧ ∀ y, RelV y en.key → y = x := by
      intro kvs
      induction kvs with
      | nil => intro us h; rw [RepX] at h; subst h; exact ⟨rfl, fun i en z => by simp at z⟩
      | cons kv kvs ih =>
        intro us h
        obtain ⟨k, d⟩ := kv
        rw [RepX] at h
        obtain ⟨nk, ka, u, v, us', e, _, hk, rv, h1, h2⟩ := h
        subst e
        obtain ⟨l1, l2⟩ := ih us' h2
        refine ⟨by simp [l1], fun i en' z => ?_⟩
        cases i with
        | zero =>
          cases z
          refine ⟨k, d, .ref ka, rfl, rfl, hk, fun y hy => ?_⟩
          cases y with
          | ref y => cases hy; rfl
          | non => cases hy
          | bl _ => cases hy
          | int _ => obtain ⟨_, e⟩ := hy; cases e
          | byt _ => obtain ⟨_, e⟩ := hy; cases e
          | flt _ => obtain ⟨_, e⟩ := hy; cases e
          | str _ => obtain ⟨_, e⟩ := hy; cases e
          | ty _ => cases hy
        | succ i => exact l2 i en' z
    obtain ⟨l1, l2⟩ := key kvs xs r2
    refine ⟨by have := congrArg List.length he; simpa [l1] using this, fun i en z => l2 i en ?_⟩
    rw [← he]
    simpa using z
/-- what is iterated is held: it is frozen, or it belongs to what stays -/
def Held (L : Lb) (N : Nh) (F H : Hp) (d : D) (x : V) : Prop := Rep L F d x ∨ (RepT L F H d x ∧ ∃ a o, x = .ref a ∧ N a = some o ∧ H a = some o)
theorem iter_of {d : D} {ds : List D} {x : V} {u : Value} {R : It → Hp → Prop} (hd : d.items = some ds) (I : Inv b.X pins σ H s) (ok : Ok b.lb N F En' σ' H) (hh : Held b.lb N F H d x) (ru : RelV x u)
    (q : ∀ J, Feed b.lb J N F ds → R J H) : wpAny (model b.X.prog b.X.w) b.X.A (pyIter u) (PIE b.X pins σ tg R) b.X.xe s := by
  have rt : RepT b.lb F H d x := hh.elim (fun r => r.top ok.sub) fun r => r.1
  have stay : ∀ {a : Addr} {ho : HO}, x = .ref a → H a = some ho → (Rep b.lb F d x → F a = some ho) → ∀ {N' F' E' σ'' H'}, Same F F' → Same N.h N'.h → Ok b.lb N' F' E' σ'' H' → H' a = some ho := by
    intro a ho e hH hR N' F' E' σ'' H' sF sN ok'
    rcases hh with r | ⟨_, a', o', e', hN, hH'⟩
    · exact ok'.sub _ _ (sF _ _ (hR r))
    · rw [e] at e'
      cases e'
      rw [hH] at hH'
      cases hH'
      exact ok'.nsub _ _ (sN _ _ hN)
  cases d with
  | lst xs =>
    cases hd
    obtain ⟨a, vs, rfl, h1, h2⟩ := rt
    cases ru
    obtain ⟨its, rv, p, hz⟩ := I.list (.inl (.inl h1))
    have st : ∀ {N' F' E' σ'' H'}, Same F F' → Same N.h N'.h → Ok b.lb N' F' E' σ'' H' → H' a = some (.lst vs) := stay rfl h1 fun r => by
      rw [Rep] at r
      obtain ⟨a', vs', e, q1, _⟩ := r
      cases e
      have z := ok.sub _ _ q1
      rw [h1] at z
      rw [q1, z]
    refine wpAny_pyIter_list p.isList (pi_one (tk := s.toks) I _ (turn_list a _) ⟨_, Heap.get?_push_size _ rfl, rfl, rfl⟩ (q _ ⟨?_, ?_, ?_⟩))
    · intro i N' F' E' σ'' H' sF sN ok' hi
      obtain ⟨z, hz, _⟩ := repA_get h2 (show ds[i]? = some ds[i] by simp [hi])
      exact ⟨vs, z, .inl (.inl (st sF sN ok')), hz⟩
    · intro i N' F' E' σ'' H' sF sN ok' hi
      exact ⟨vs, .inl (.inl (st sF sN ok')), by rw [← repA_len h2]; omega⟩
    · intro i N' F' E' σ'' H' x H'' d sF sN ok' hi hy
      obtain ⟨rfl, hy⟩ := hy
      obtain ⟨z, hz, rz⟩ := repA_get h2 hi
      have := hy vs (.inl (.inl (st sF sN ok')))
      rw [hz] at this
      cases this
      exact ⟨F', Same.refl F', ok', Rep.mono sF _ _ rz⟩
  | tup xs =>
    cases hd
    obtain ⟨a, vs, rfl, h0, h1, h2⟩ := t_tup ok.sub rt
    cases ru
    obtain ⟨its, rv, p, hz⟩ := I.tuple h1
    have st : ∀ {N' F' E' σ'' H'}, Same F F' → Ok b.lb N' F' E' σ'' H' → SqT b.X.K H' a vs := fun {N' F' E' σ'' H'} sF ok' => SqTm (sF.trans ok'.sub) h0
    refine wpAny_pyIter_tuple (show s.heap.IsTuple a its.toArray from p) (pi_one (tk := s.toks) I _ (turn_tuple a _) ⟨_, Heap.get?_push_size _ rfl, rfl, rfl⟩ (q _ ⟨?_, ?_, ?_⟩))
    · intro i N' F' E' σ'' H' sF sN ok' hi
      obtain ⟨z, hz, _⟩ := repA_get h2 (show ds[i]? = some ds[i] by simp [hi])
      exact ⟨vs, z, st sF ok', hz⟩
    · intro i N' F' E' σ'' H' sF sN ok' hi
      exact ⟨vs, st sF ok', by rw [← repA_len h2]; omega⟩
    · intro i N' F' E' σ'' H' x H'' d sF sN ok' hi hy
      obtain ⟨rfl, hy⟩ := hy
      obtain ⟨z, hz, rz⟩ := repA_get h2 hi
      have := hy vs (st sF ok')
      rw [hz] at this
      cases this
      exact ⟨F', Same.refl F', ok', Rep.mono sF _ _ rz⟩
  | scr ns =>
    cases hd
    have rt' : Rep b.lb F (.scr ns) x := rt
    rw [Rep] at rt'
    obtain ⟨a, rfl, h0⟩ := rt'
    cases ru
    have h1 : SqL b.X.K H a (ns.map V.int) := ok.sub.seq h0
    obtain ⟨its, rv, p, hz⟩ := I.list h1
    have st : ∀ {N' F' E' σ'' H'}, Same F F' → Ok b.lb N' F' E' σ'' H' → SqL b.X.K H' a (ns.map V.int) := fun {N' F' E' σ'' H'} sF ok' => (sF.trans ok'.sub).seq h0
    refine wpAny_pyIter_list p.isList (pi_one (tk := s.toks) I _ (turn_list a _) ⟨_, Heap.get?_push_size _ rfl, rfl, rfl⟩ (q _ ⟨?_, ?_, ?_⟩))
    · intro i N' F' E' σ'' H' sF sN ok' hi
      have hi : i < ns.length := by simpa using hi
      exact ⟨_, .int ns[i], st sF ok', by simp [hi]⟩
    · intro i N' F' E' σ'' H' sF sN ok' hi
      have hi : i = ns.length := by simpa using hi
      exact ⟨_, st sF ok', by simp; omega⟩
    · intro i N' F' E' σ'' H' x H'' d sF sN ok' hi hy
      obtain ⟨rfl, hy⟩ := hy
      have z := hy _ (st sF ok')
      rw [List.getElem?_map] at hi z
      obtain ⟨n, hn, rfl⟩ := Option.map_eq_some_iff.mp hi
      rw [hn] at z
      cases z
      exact ⟨F', Same.refl F', ok', rep_int⟩
  | str z =>
    cases hd
    rw [t_str rt] at ru
    obtain ⟨t, rfl⟩ := ru
    have fd : Feed b.lb (Its z) N F (z.cps.toList.map fun c => D.str ⟨#[c]⟩) := by
      refine ⟨?_, ?_, ?_⟩
      · intro i N' F' E' σ'' H' sF sN ok' hi
        have hi : i < z.cps.size := by simpa using hi
        exact hi
      · intro i N' F' E' σ'' H' sF sN ok' hi
        have hi : i = z.cps.size := by simpa using hi
        show z.cps.size ≤ i
        omega
      · intro i N' F' E' σ'' H' x H'' d sF sN ok' hi hy
        obtain ⟨rfl, c, hc, rfl⟩ := hy
        rw [List.getElem?_map, Array.getElem?_toList, hc] at hi
        cases hi
        exact ⟨F', Same.refl F', ok', rep_str⟩
    cases ha : z.cps.all (· < 128)
    · exact wpAny_pyIter_wide ha (pi_one (tk := s.toks) I _ (turn_str _ z t "str_iterator" (.inr rfl)) ⟨_, Heap.get?_push_size _ rfl, rfl, rfl⟩ (q _ fd))
    · exact wpAny_pyIter_ascii ha (pi_one (tk := s.toks) I _ (turn_str _ z t "str_ascii_iterator" (.inl rfl)) ⟨_, Heap.get?_push_size _ rfl, rfl, rfl⟩ (q _ fd))
  | dic kvs =>
    cases hd
    obtain ⟨a, o, rfl, h1, hz, hr⟩ := rt
    cases ru
    obtain ⟨es, ep, hx, hdd, hsz, hk⟩ := keys_of (q := a) hr
    have st : ∀ {N' F' E' σ'' H'}, Same F F' → Same N.h N'.h → Ok b.lb N' F' E' σ'' H' → H' a = some (dO a o) := stay rfl h1 fun r => by
      rw [Rep] at r
      obtain ⟨a', o', e, q1, _⟩ := r
      cases e
      have z := ok.sub _ _ q1
      rw [h1] at z
      rw [q1, z]
    refine wpAny_pyIter_dict_raw hz ⟨o, dO_at I h1, hx, hdd⟩ (pi_one (tk := s.toks) I _ (turn_o (o := o) hx hdd fun i en he => ?_) ⟨_, Heap.get?_push_size _ rfl, rfl, rfl⟩ (q _ ⟨?_, ?_, ?_⟩))
    · obtain ⟨k, d, x, _, rx, _⟩ := hk i en he
      exact ⟨x, rx⟩
    · intro i N' F' E' σ'' H' sF sN ok' hi
      exact ⟨st sF sN ok', by rw [hsz]; simpa using hi⟩
    · intro i N' F' E' σ'' H' sF sN ok' hi
      exact ⟨st sF sN ok', by rw [hsz]; simpa using hi⟩
    · intro i N' F' E' σ'' H' x H'' d sF sN ok' hi hy
      obtain ⟨rfl, en, he, rx⟩ := hy
      obtain ⟨k, d', x', h2, _, h4, h5⟩ := hk i en he
      rw [List.getElem?_map, h2] at hi
      cases hi
      rw [h5 x rx]
      exact ⟨F', Same.refl F', ok', Rep.mono sF _ _ h4⟩
  | _ => cases hd
end
end B
/-! BFor: targets, for, list comprehensions. -/
namespace B
open PySem PySem.Spec PyProof.Rows L2

/-! ### targets -/
inductive Tgt where
  | nm (i : Nat)
  | tp (is : List Nat)
def setD (r : List Sl) : List Nat → List D → List Sl
  | i :: is, d :: ds => setD (r.set i (.fr d)) is ds
  | _, _ => r
def setV (σ : L2.St) : List Nat → List V → L2.St
  | i :: is, v :: vs => setV (σ.set i (some v)) is vs
  | _, _ => σ
def Tgt.set : Tgt → D → En → (En → Prop) → Prop
  | .nm i, d, E, Q => Q ⟨E.r.set i (.fr d), E.m⟩
  | .tp is, .tup ds, E, Q => ds.length = is.length ∧ Q ⟨setD E.r is ds, E.m⟩
  | .tp _, _, _, _ => False
def Tgt.ix : Tgt → List Nat
  | .nm i => [i]
  | .tp is => is
/-- by values -/
def Tgt.low (K : PySem.W.Frag) : Tgt → TG
  | .nm i => gName i
  | .tp is => fun v σ H Q => ∃ a xs, v = .ref a ∧ SqT K H a xs ∧ xs.length = is.length ∧ Q (setV σ is xs) H
section
variable {L : Lb} {N : Nh} {F H : Hp} {E : En} {σ : L2.St}
theorem Ok.setFr {i : Nat} {d : D} {v : V} (ok : Ok L N F E σ H) (r : Rep L F d v) : Ok L N F ⟨E.r.set i (.fr d), E.m⟩ (σ.set i (some v)) H := (ok.push r).store fun o e => by cases e
theorem Ok.setAll : ∀ {is : List Nat} {ds : List D} {vs : List V} {E : En} {σ : L2.St}, Ok L N F E σ H → RepA L F ds vs → Ok L N F ⟨setD E.r is ds, E.m⟩ (setV σ is vs) H
  | [], ds, vs, E, σ, ok, r => by
    cases ds <;> cases vs <;> exact ok
  | i :: is, [], vs, E, σ, ok, r => by rw [RepA] at r; subst r; exact ok
  | i :: is, d :: ds, vs, E, σ, ok, r => by
    rw [RepA] at r
    obtain ⟨v, vr, e, h1, h2⟩ := r
    subst e
    exact Ok.setAll (is := is) (ok.setFr (i := i) h1) h2
theorem wipe_set {σ : L2.St} {i : Nat} {x : Option V} : ∀ {vs : List Nat}, i ∈ vs → wipe (σ.set i x) vs = wipe σ vs
  | [], h => by cases h
  | v :: vs, h => by
    by_cases m : i ∈ vs
    · show (wipe (σ.set i x) vs).set v none = (wipe σ vs).set v none
      rw [wipe_set m]
    · have e : i = v := by
        rcases List.mem_cons.mp h with e | h
        · exact e
        · exact absurd h m
      subst e
      show (wipe (σ.set i x) vs).set i none = (wipe σ vs).set i none
      apply List.ext_getElem?
      intro j
      by_cases hj : i = j
      · subst hj
        by_cases hl : i < σ.length
        · rw [List.getElem?_set_self (by rw [wipe_length]; simpa using hl), List.getElem?_set_self (by rw [wipe_length]; exact hl)]
        · rw [List.getElem?_eq_none (by rw [List.length_set, wipe_length]; simpa using hl), List.getElem?_eq_none (by rw [List.length_set, wipe_length]; simpa using hl)]
      · rw [List.getElem?_set_ne hj, List.getElem?_set_ne hj]
        by_cases hjv : j ∈ vs
        · have go : ∀ {vs : List Nat} {τ : L2.St}, j ∈ vs → τ.length = σ.length → (wipe τ vs)[j]? = if j < σ.length then some none else none := by
            intro vs
            induction vs with
            | nil => intro τ h; cases h
            | cons w ws ih =>
              intro τ hm hl
              show ((wipe τ ws).set w none)[j]? = _
              by_cases hw : w = j
              · subst hw
                by_cases q : w < σ.length
                · rw [List.getElem?_set_self (by rw [wipe_length, hl]; exact q), if_pos q]
                · rw [List.getElem?_eq_none (by rw [List.length_set, wipe_length, hl]; omega), if_neg q]
              · rw [List.getElem?_set_ne hw]
                rcases List.mem_cons.mp hm with e | hm
                · exact absurd e.symm hw
                · exact ih hm hl
          rw [go hjv (by simp), go hjv rfl]
        · rw [wipe_out hjv, wipe_out hjv, List.getElem?_set_ne hj]
theorem wipe_setV : ∀ {is : List Nat} {vs : List V} {σ : L2.St} {ws : List Nat}, (∀ i ∈ is, i ∈ ws) → wipe (setV σ is vs) ws = wipe σ ws
  | [], vs, σ, ws, _ => by cases vs <;> rfl
  | i :: is, [], σ, ws, _ => rfl
  | i :: is, v :: vs, σ, ws, h => by
    show wipe (setV (σ.set i (some v)) is vs) ws = wipe σ ws
    rw [wipe_setV fun j hj => h j (List.mem_cons_of_mem _ hj), wipe_set (h i List.mem_cons_self)]
/-- a target is set -/
theorem Ok.tgt {t : Tgt} {d : D} {v : V} {QB : En → Prop} (ok : Ok L N F E σ H) (r : Rep L F d v) (h : t.set d E QB) : ∃ E' σ', Ok L N F E' σ' H ∧ QB E' ∧ (∀ {Q : L2.St → Hp → Prop}, Q σ' H → t.low L.K v σ H Q) ∧
    (∀ ws, (∀ i ∈ t.ix, i ∈ ws) → wipe σ' ws = wipe σ ws) := by
  cases t with
  | nm i => exact ⟨_, _, ok.setFr r, h, fun q => q, fun ws hw => wipe_set (hw i (by simp [Tgt.ix]))⟩
  | tp is =>
    cases d with
    | tup ds =>
      rw [Rep] at r
      obtain ⟨a, vs, e, h1, h2⟩ := r
      exact ⟨_, _, ok.setAll (is := is) h2, h.2, fun q => ⟨a, vs, e, SqTm ok.sub h1, by rw [← repA_len h2]; exact h.1, q⟩, fun ws hw => wipe_setV hw⟩
    | _ => exact False.elim h
end
section
variable {X : Cx} {pos : Pos}
theorem gn_go : ∀ {is : List Nat} {xs : List V} {σ : L2.St} {H : Hp} {Q : L2.St → Hp → Prop}, xs.length = is.length → Q (setV σ is xs) H → (is.foldr (fun i u => gCons (gName i) u) gNil) xs σ H Q
  | [], [], σ, H, Q, _, q => ⟨rfl, q⟩
  | i :: is, x :: xs, σ, H, Q, h, q => ⟨x, xs, rfl, gn_go (is := is) (xs := xs) (by simpa using h) q⟩
  | [], _ :: _, σ, H, Q, h, _ => by cases h
  | _ :: _, [], σ, H, Q, h, _ => by cases h
theorem pg_tp {es : List Expr} {k : Nat} {is : List Nat} (hc : X.calm = true) (h : PGs X es (is.foldr (fun i u => gCons (gName i) u) gNil)) (hn : (assignEach es X.env).length = is.length := by rfl) (hst : (assignEach es X.env).findIdx? (·.1) = none := by rfl) :
    PG X (.Tuple es k pos) ((Tgt.tp is).low X.K) :=
  ⟨fun pins s σ H v u Q I r ⟨a, xs, e, h1, h2, q⟩ => (pg_tup hc h hn hst).run pins s σ H v u Q I r ⟨a, xs, e, h1, h2, gn_go h2 q⟩⟩
end
section
variable {b : Bx} {Nm : List Str} {tb : List (Nat × Str)} {gl : List Str} {k : Nat}
theorem Gd.gn (g : Gd b Nm tb gl k) (j : Nat) {i : Nat} {x : Str} {pos : Pos} (h : tb[j]? = some (i, x) := by rfl) (hl : Loc b.X.env.scope x := by first | exact Or.inl rfl | exact Or.inr rfl)
    (hf : b.X.fn x = true ∨ b.X.env.scope.names.lookup x = some .local := by first | exact .inl rfl | exact .inr rfl | assumption) : PG b.X (.Name x pos) (gName i) :=
  pg_name g.nn (by rw [g.nm]; exact (g.vis _ (List.mem_of_getElem? h)).1) hl hf
end

/-! ### sources -/
def lowI (b : Bx) (t : BA) : TI := fun σ H R => ∃ N F E QB XB, Ok b.lb N F E σ H ∧ t E QB XB ∧ (∀ F' E' ds H' J, Same F F' → Ok b.lb N F' E' σ H' → Feed b.lb J N F' ds → QB ds E' → R J H') ∧ xOk b N F XB
abbrev BIt (b : Bx) (tg e : Expr) (t : BA) : Prop := PI b.X tg e (lowI b t)
theorem pi_weak {X : Cx} {tg e : Expr} {t t' : TI} (h : PI X tg e t) (w : ∀ σ H R, t' σ H R → t σ H R) : PI X tg e t' := ⟨fun pins s σ H R I q => h.run pins s σ H R I (w σ H R q)⟩
section
variable {b : Bx} {tg e : Expr} {pos p : Pos}
def bIt (t : BO) : BA := fun E Q X => t E (fun d E' => ∃ ds, d.items = some ds ∧ Q ds E') X
theorem bi_val {t : BO} (h : BV b e t) : BIt b tg e (bIt t) := ⟨fun pins s σ H R I ⟨N, F, E, QB, XB, ok, ht, hQ, hX⟩ =>
  thn (BV.runB h I ok ht hX) fun uu s1 ⟨v, H1, F', E', d, I1, rv, s', ok', rd, ds, hd, q⟩ => iter_of hd I1 ok' (.inl rd) rv fun J fd => hQ F' E' ds H1 J s' ok' fd q⟩
/-- range(n), range(m, n) -/
def rngD (lo : Int) (n : Nat) : List D := (List.range n).map fun i => .int (lo + (i : Nat))
theorem feed_rng {L : Lb} {N : Nh} {F : Hp} (lo : Int) (n : Nat) : Feed L (Itr lo n) N F (rngD lo n) := by
  refine ⟨?_, ?_, ?_⟩
  · intro i N' F' E' σ'' H' sF sN ok' hi
    have hi : i < n := by simpa [rngD] using hi
    exact hi
  · intro i N' F' E' σ'' H' sF sN ok' hi
    have hi : i = n := by simpa [rngD] using hi
    show n ≤ i
    omega
  · intro i N' F' E' σ'' H' x H'' d sF sN ok' hi hy
    obtain ⟨rfl, rfl⟩ := hy
    unfold rngD at hi
    rw [List.getElem?_map] at hi
    obtain ⟨j, hj, rfl⟩ := Option.map_eq_some_iff.mp hi
    have : j = i := by
      have := List.getElem?_range (n := n) (i := i) (by
        have := (List.getElem?_eq_some_iff.mp hj).1
        simpa using this)
      rw [hj] at this
      exact Option.some.inj this
    subst this
    exact ⟨F', Same.refl F', ok', rep_int⟩
def bRng1 (t : BA) : BA := fun E Q X => t E (fun ds E' => ∃ j : Int, ds = [.int j] ∧ -(2 ^ 62) ≤ j ∧ j < 2 ^ 62 ∧ Q (rngD 0 j.toNat) E') X
def bRng2 (t : BA) : BA := fun E Q X => t E (fun ds E' => ∃ i j : Int, ds = [.int i, .int j] ∧ (-(2 ^ 62) ≤ i ∧ i < 2 ^ 62 ∧ -(2 ^ 62) ≤ j ∧ j < 2 ^ 62) ∧ Q (rngD i (j - i).toNat) E') X
theorem bi_rng1 {a : Expr} {t : BA} (hg : Gl b.X "range") (hm : b.X.mg "range" = none) (ha : BAs b [a] t) (hs : starEach [a] b.X.env = [(false, eval a b.X.env)] := by rfl) : BIt b tg (.Call (.Name "range" p) [a] [] pos) (bRng1 t) :=
  pi_weak (pi_range1 hg hm ha hs) fun σ H R ⟨N, F, E, QB, XB, ok, ht, hQ, hX⟩ => ⟨N, F, E, _, XB, ok, ht, fun F' E' ds vs H' s' ok' r ⟨j, e, h1, h2, q⟩ => by
    subst e
    exact ⟨j, repA_ints (ns := [j]) r, h1, h2, hQ F' E' _ H' _ s' ok' (feed_rng 0 _) q⟩, hX⟩
theorem bi_rng2 {a c : Expr} {t : BA} (hg : Gl b.X "range") (hm : b.X.mg "range" = none) (ha : BAs b [a, c] t) (hs : starEach [a, c] b.X.env = [(false, eval a b.X.env), (false, eval c b.X.env)] := by rfl) (hs2 : starEach [c] b.X.env = [(false, eval c b.X.env)] := by rfl) :
    BIt b tg (.Call (.Name "range" p) [a, c] [] pos) (bRng2 t) :=
  pi_weak (pi_range2 hg hm ha hs hs2) fun σ H R ⟨N, F, E, QB, XB, ok, ht, hQ, hX⟩ => ⟨N, F, E, _, XB, ok, ht, fun F' E' ds vs H' s' ok' r ⟨i, j, e, h1, q⟩ => by
    subst e
    exact ⟨i, j, repA_ints (ns := [i, j]) r, h1, hQ F' E' _ H' _ s' ok' (feed_rng i _) q⟩, hX⟩

/-! ### for -/
def forRun (t : Tgt) (body : BS) (Dn : EndsB) (X : QX) : List D → En → Prop
  | [], E => Dn.nx E
  | d :: ds, E => t.set d E fun E1 => body { Dn with nx := forRun t body Dn X ds, ct := forRun t body Dn X ds, bk := Dn.nx } X E1
def bFor (src : BA) (t : Tgt) (body : BS) : BS := fun Dn X E => src E (fun ds E1 => forRun t body Dn X ds E1) X
theorem bs_for {Nm : List Str} {tbl : List (Nat × Str)} {gl : List Str} {k : Nat} (g : Gd b Nm tbl gl k) {iter : Expr} {bd : List Stmt} {src : BA} {t : Tgt} {body : BS} (hi : BIt b tg iter src) (hg : PG b.X tg (t.low b.X.K)) (hb : BSs b bd body)
    (hs : ∀ x, foldedSetIterable iter b.X.env x = pure x := by intro _; rfl) : BSt b (.For tg iter bd [] pos) (bFor src t body) :=
  ps_weak (ps_for g.pass g.calm hi hg hb hs) fun D σ H ⟨N, F, E, DB, XB, ok, ht, h1, h2, h3, h4, hX⟩ => by
    refine ⟨N, F, E, _, XB, ok, ht, fun F1 E1 ds H1 J s1 ok1 fd q => ?_, hX⟩
    refine ⟨fun i m σ H => m = ds.length - i ∧ i ≤ ds.length ∧ ∃ F2 E2, Same F1 F2 ∧ Ok b.lb N F2 E2 σ H ∧ forRun t body DB XB (ds.drop i) E2, ⟨_, rfl, Nat.zero_le _, F1, E1, Same.refl _, ok1, by rw [List.drop_zero]; exact q⟩, ?_⟩
    rintro i m σ H ⟨rfl, hi, F2, E2, s2, ok2, q2⟩
    by_cases hlt : i < ds.length
    · refine .inr ⟨fd.go i N F2 E2 σ H s2 (Same.refl _) ok2 hlt, fun σ' H' => ∃ F3 E3, Same F1 F3 ∧ Ok b.lb N F3 E3 σ' H' ∧ forRun t body DB XB (ds.drop (i + 1)) E3, fun σ' H' n => ⟨ds.length - (i + 1), by omega, rfl, hlt, n⟩, fun x H' hy => ?_⟩
      obtain ⟨F3, s3, ok3, rx⟩ := fd.yld i N F2 E2 σ H x H' ds[i] s2 (Same.refl _) ok2 (by simp [hlt]) hy
      rw [List.drop_eq_getElem_cons hlt] at q2
      obtain ⟨E4, σ4, ok4, q4, lw, _⟩ := ok3.tgt rx q2
      have s13 := (s1.trans s2).trans s3
      refine lw ⟨N, F3, E4, _, XB, ok4, q4, fun F' E' σ' H' sF ok' q => ⟨F', E', (s2.trans s3).trans sF, ok', q⟩, fun F' E' y v σ' H' sF => h2 F' E' y v σ' H' (s13.trans sF), fun F' E' σ' H' sF => h1 F' E' σ' H' (s13.trans sF),
        fun F' E' σ' H' sF ok' q => ⟨F', E', (s2.trans s3).trans sF, ok', q⟩, hX.go s13⟩
    · have e : i = ds.length := by omega
      rw [e, List.drop_length] at q2
      exact .inl ⟨fd.stop i N F2 E2 σ H s2 (Same.refl _) ok2 e, h1 F2 E2 σ H (s1.trans s2) ok2 q2⟩
end
end B
/-! BComp: list comprehensions. -/
namespace B
open PySem PySem.Spec PyProof.Rows L2
def En.wipe (E : En) (ws : List Nat) : En := ⟨ws.foldr (fun v r => r.set v .un) E.r, E.m⟩
section
variable {L : Lb} {N : Nh} {F F' H : Hp} {E : En} {σ : L2.St}
theorem Ok.wiped (ok : Ok L N F E σ H) : ∀ ws : List Nat, Ok L N F (E.wipe ws) (wipe σ ws) H
  | [] => ok
  | v :: ws => (Ok.wiped ok ws).unset
theorem Ok.unwipe {ws : List Nat} (ok : Ok L N F E (wipe σ ws) H) : Ok L N F E σ H where
  len := by rw [ok.len, wipe_length]
  sub := ok.sub
  fr := fun i d h => by
    obtain ⟨v, h1, h2⟩ := ok.fr i d h
    exact ⟨v, (wipe_some h1).1, h2⟩
  ow := fun i o h => by
    obtain ⟨v, h1, h2⟩ := ok.ow i o h
    exact ⟨v, (wipe_some h1).1, h2⟩
  rd := fun i o h => by
    obtain ⟨v, h1, h2⟩ := ok.rd i o h
    exact ⟨v, (wipe_some h1).1, h2⟩
  inj := fun i j o u p h1 h2 h3 h4 => by
    obtain ⟨v, g1, _⟩ := ok.ow i o h1
    obtain ⟨v', g2, _⟩ := ok.ow j u h2
    have e1 := (wipe_some g1).1
    have e2 := (wipe_some g2).1
    rw [h3] at e1
    rw [h4] at e2
    cases e1; cases e2
    exact ok.inj i j o u p h1 h2 g1 g2
  mem := ok.mem
  mnd := ok.mnd
  nsub := ok.nsub
  lks := ok.lks
  ndis := ok.ndis
/-- a new object that belongs to what stays -/
def Nh.put (N : Nh) (a : Addr) (o : HO) : Nh := ⟨upd N.h a o, N.lk⟩
theorem Ok.lk_ne {D : Addr} (ok : Ok L N F E σ H) (hD : N D = none) : ∀ x ∈ N.lk, x.2 ≠ D := fun x hx e => ok.lks.at_ x hx (by rw [e]; exact hD)
theorem NOk.put {K : PySem.W.Frag} {D : Addr} {o : HO} (h : NOk K N) (hD : N D = none) : NOk K (N.put D o) where
  at_ := fun x hx => by
    show upd N.h D o x.2 ≠ none
    by_cases e : x.2 = D
    · rw [e, upd_same]; simp
    · rw [upd_ne e]; exact h.at_ x hx
  sm := by
    rcases h.sm with ⟨o', es, ep, h1, h2⟩ | h
    case inr => exact .inr h
    refine .inl ⟨o', es, ep, ?_, h2⟩
    show upd N.h D o sysModules = _
    rw [upd_ne (ne_of_none h1 hD)]
    exact h1
theorem Ok.laid {D : Addr} {o : HO} (ok : Ok L N F E σ H) (hD : H D = none) : Ok L (N.put D o) F E σ (upd H D o) := by
  have nN : N D = none := by
    cases q : N D with
    | none => rfl
    | some y => have := ok.nsub D y q; rw [hD] at this; cases this
  have k : ∀ {a : Addr} {x : HO}, H a = some x → a ≠ D := fun {a x} h => ne_of_none h hD
  have ok' := ok.grow (same_upd (o := o) hD)
  refine ⟨ok'.len, ok'.sub, ok'.fr, fun i u hi => ?_, ok'.rd, ok'.inj, fun x hx => ?_, ok'.mnd, fun a x hx => ?_, ok.lks.put nN, fun a ha => ?_⟩
  · obtain ⟨p, h1, h2, h3, h4, h5⟩ := ok.ow i u hi
    obtain ⟨y, hy⟩ := h2.there
    exact ⟨p, h1, h2.mono (Same.refl F) fun z hz => by rw [upd_ne (k hz)]; exact hz, h3, by show upd N.h D o p = none; rw [upd_ne (k hy)]; exact h4, h5⟩
  · obtain ⟨h1, h2, h3⟩ := ok.mem x hx
    obtain ⟨y, hy⟩ := h1.there
    exact ⟨h1.mono (Same.refl F) fun z hz => by rw [upd_ne (k hz)]; exact hz, h2, by show upd N.h D o x.1 = none; rw [upd_ne (k hy)]; exact h3⟩
  · have hx : upd N.h D o a = some x := hx
    by_cases e : a = D
    · rw [e, upd_same] at hx ⊢; exact hx
    · rw [upd_ne e] at hx ⊢; exact ok.nsub a x hx
  · have ha : upd N.h D o a ≠ none := ha
    by_cases e : a = D
    · rw [e]
      cases q : F D with
      | none => rfl
      | some y => have := ok.sub D y q; rw [hD] at this; cases this
    · rw [upd_ne e] at ha; exact ok.ndis a ha
theorem Ok.relaid {D : Addr} {o o' : HO} (ok : Ok L (N.put D o) F E σ H) (nk : NOk L.K N) (hN : N D = none) (hl : ∀ x ∈ N.lk, x.2 ≠ D) : Ok L (N.put D o') F E σ (upd H D o') := by
  have hF : F D = none := ok.ndis D (by show upd N.h D o D ≠ none; rw [upd_same]; simp)
  have nD : ∀ {a : Addr}, (N.put D o) a = none → a ≠ D := fun {a} h e => by
    have h : upd N.h D o a = none := h
    rw [e, upd_same] at h; cases h
  have nn : ∀ {a : Addr}, (N.put D o) a = none → (N.put D o') a = none := fun {a} h => by
    have h' : upd N.h D o a = none := h
    show upd N.h D o' a = none
    rw [upd_ne (nD h)] at h' ⊢; exact h'
  have up : ∀ {a : Addr} {x : HO}, a ≠ D → H a = some x → (upd H D o') a = some x := fun {a x} e h => by rw [upd_ne e]; exact h
  refine ⟨ok.len, fun a x h => up (fun e => by rw [e, hF] at h; cases h) (ok.sub a x h), ok.fr, fun i u hi => ?_, fun i u hi => ?_, ok.inj, fun x hx => ?_, ok.mnd, fun a x hx => ?_, ?_, fun a ha => ?_⟩
  · obtain ⟨p, h1, h2, h3, h4, h5⟩ := ok.ow i u hi
    exact ⟨p, h1, h2.mono (Same.refl F) fun z hz => up (nD h4) hz, h3, nn h4, h5⟩
  · obtain ⟨p, h1, h2, h3⟩ := ok.rd i u hi
    exact ⟨p, h1, h2.mono (Same.refl F) fun z hz => up (hl _ h3) hz, h3⟩
  · obtain ⟨h1, h2, h3⟩ := ok.mem x hx
    exact ⟨h1.mono (Same.refl F) fun z hz => up (nD h3) hz, h2, nn h3⟩
  · have hx : upd N.h D o' a = some x := hx
    by_cases e : a = D
    · rw [e, upd_same] at hx ⊢; exact hx
    · rw [upd_ne e] at hx ⊢
      exact ok.nsub a x (by show upd N.h D o a = some x; rw [upd_ne e]; exact hx)
  · refine ⟨fun x hx => ?_, ?_⟩
    · have := ok.lks.at_ x hx
      have this : upd N.h D o x.2 ≠ none := this
      show upd N.h D o' x.2 ≠ none
      rw [upd_ne (hl x hx)] at this ⊢; exact this
    · exact (nk.put hN).sm
  · have ha : upd N.h D o' a ≠ none := ha
    by_cases e : a = D
    · rw [e]; exact hF
    · rw [upd_ne e] at ha
      exact ok.ndis a (by show upd N.h D o a ≠ none; rw [upd_ne e]; exact ha)
end

section
variable {L : Lb} {N : Nh} {F F' H H' : Hp} {E : En} {σ : L2.St}
/-- the new list is one's own again -/
theorem Ok.took {D : Addr} {vs : List V} {ds : List B.D} (ok : Ok L (N.put D (.lst vs)) F E σ H) (nk : NOk L.K N) (hN : N D = none) (r : RepA L F ds vs) : Ok L N F ⟨E.r ++ [.ow (.lst ds)], E.m⟩ (σ ++ [some (.ref D)]) H := by
  have hD : (N.put D (.lst vs)) D ≠ none := by show upd N.h D _ D ≠ none; rw [upd_same]; simp
  have hF : F D = none := ok.ndis D hD
  have nD : ∀ {a : Addr}, (N.put D (.lst vs)) a = none → a ≠ D := fun {a} h e => by rw [e] at h; exact hD h
  have nn : ∀ {a : Addr}, (N.put D (.lst vs)) a = none → N a = none := fun {a} h => by
    have h' : upd N.h D (.lst vs) a = none := h
    rw [upd_ne (nD h)] at h'; exact h'
  have hH : H D = some (.lst vs) := ok.nsub D _ (by show upd N.h D _ D = _; rw [upd_same])
  have base : Ok L N F E σ H := by
    refine ⟨ok.len, ok.sub, ok.fr, fun i u hi => ?_, ok.rd, ok.inj, fun x hx => ?_, ok.mnd, fun a x hx => ?_, nk, fun a ha => ?_⟩
    · obtain ⟨p, h1, h2, h3, h4, h5⟩ := ok.ow i u hi
      exact ⟨p, h1, h2, h3, nn h4, h5⟩
    · obtain ⟨h1, h2, h3⟩ := ok.mem x hx
      exact ⟨h1, h2, nn h3⟩
    · exact ok.nsub a x (by show upd N.h D _ a = some x; rw [upd_ne (ne_of_none hx hN)]; exact hx)
    · have e : a ≠ D := fun e => by rw [e] at ha; exact ha hN
      exact ok.ndis a (by show upd N.h D _ a ≠ none; rw [upd_ne e]; exact ha)
  refine base.pushOw ⟨vs, hH, r⟩ hF hN (fun hm => ?_) fun i u hi e => ?_
  · obtain ⟨x, hx, e⟩ := List.mem_map.mp hm
    exact nD (ok.mem x hx).2.2 e
  · obtain ⟨p, h1, _, _, h4, _⟩ := ok.ow i u hi
    rw [e] at h1
    cases h1
    exact nD h4 rfl
/-- slot i's object is held still -/
def Nh.lock (N : Nh) (i : Nat) (p : Addr) (o : HO) : Nh := ⟨upd N.h p o, (i, p) :: N.lk⟩
theorem Ok.lock {i : Nat} {o : Ob} (ok : Ok L N F E σ H) (hi : E.r[i]? = some (.ow o)) : ∃ p ho, σ[i]? = some (some (.ref p)) ∧ H p = some ho ∧ N p = none ∧ Ok L (N.lock i p ho) F ⟨E.r.set i (.rd o), E.m⟩ σ H := by
  obtain ⟨p, hp, hO, hF, hN, hm⟩ := ok.ow i o hi
  obtain ⟨x, hx⟩ := hO.there
  have nn : ∀ {a : Addr}, a ≠ p → N a = none → (N.lock i p x) a = none := fun {a} e h => by show upd N.h p x a = none; rw [upd_ne e]; exact h
  have np : (N.lock i p x) p = some x := by show upd N.h p x p = some x; rw [upd_same]
  refine ⟨p, x, hp, hx, hN, ⟨by simp [ok.len], ok.sub, fun j e hj => ?_, fun j u hj => ?_, fun j u hj => ?_, fun j k u u' q h1 h2 h3 h4 => ?_, fun y hy => ?_, ok.mnd, fun a y hy => ?_, ?_, fun a ha => ?_⟩⟩
  · rcases set_low hj with ⟨n, h⟩ | ⟨_, z, _⟩
    · exact ok.fr j e h
    · cases z
  · rcases set_low hj with ⟨n, h⟩ | ⟨_, z, _⟩
    · obtain ⟨q, h1, h2, h3, h4, h5⟩ := ok.ow j u h
      exact ⟨q, h1, h2, h3, nn (fun e => by subst e; exact n (ok.inj j i u o q h hi h1 hp)) h4, h5⟩
    · cases z
  · rcases set_low hj with ⟨n, h⟩ | ⟨rfl, z, _⟩
    · obtain ⟨q, h1, h2, h3⟩ := ok.rd j u h
      exact ⟨q, h1, h2, List.mem_cons_of_mem _ h3⟩
    · cases z
      exact ⟨p, hp, hO, List.mem_cons_self⟩
  · rcases set_low h1 with ⟨n, h1⟩ | ⟨_, z, _⟩
    · rcases set_low h2 with ⟨n', h2⟩ | ⟨_, z, _⟩
      · exact ok.inj j k u u' q h1 h2 h3 h4
      · cases z
    · cases z
  · obtain ⟨h1, h2, h3⟩ := ok.mem y hy
    exact ⟨h1, h2, nn (fun e => hm (List.mem_map.mpr ⟨y, hy, e⟩)) h3⟩
  · have hy : upd N.h p x a = some y := hy
    by_cases e : a = p
    · rw [e, upd_same] at hy; cases hy; rw [e]; exact hx
    · rw [upd_ne e] at hy; exact ok.nsub a y hy
  · refine ⟨fun y hy => ?_, ?_⟩
    · rcases List.mem_cons.mp hy with rfl | hy
      · rw [np]; simp
      · show upd N.h p x y.2 ≠ none
        by_cases e : y.2 = p
        · rw [e, upd_same]; simp
        · rw [upd_ne e]; exact ok.lks.at_ y hy
    · exact (ok.lks.put (o := x) hN).sm
  · have ha : upd N.h p x a ≠ none := ha
    by_cases e : a = p
    · rw [e]; exact hF
    · rw [upd_ne e] at ha; exact ok.ndis a ha
theorem Ok.unlock {i : Nat} {o : Ob} {p : Addr} {x : HO} (ok : Ok L (N.lock i p x) F E σ H) (nk : NOk L.K N) (hN : N p = none) (hp : σ[i]? = some (some (.ref p))) (hi : E.r[i]? = some (.rd o)) : Ok L N F ⟨E.r.set i (.ow o), E.m⟩ σ H := by
  have np : (N.lock i p x) p = some x := by show upd N.h p x p = some x; rw [upd_same]
  have hF : F p = none := ok.ndis p (by rw [np]; simp)
  have nP : ∀ {a : Addr}, (N.lock i p x) a = none → a ≠ p := fun {a} h e => by rw [e, np] at h; cases h
  have nn : ∀ {a : Addr}, (N.lock i p x) a = none → N a = none := fun {a} h => by
    have h' : upd N.h p x a = none := h
    rw [upd_ne (nP h)] at h'; exact h'
  have hl : ∀ y ∈ N.lk, y.2 ≠ p := fun y hy e => nk.at_ y hy (by rw [e]; exact hN)
  obtain ⟨p', g1, g2, _⟩ := ok.rd i o hi
  rw [hp] at g1
  cases g1
  have pm : p ∉ E.m.map (·.1) := fun hm => by
    obtain ⟨y, hy, e⟩ := List.mem_map.mp hm
    exact nP (ok.mem y hy).2.2 e
  refine ⟨by simp [ok.len], ok.sub, fun j e hj => ?_, fun j u hj => ?_, fun j u hj => ?_, fun j k u u' q h1 h2 h3 h4 => ?_, fun y hy => ?_, ok.mnd, fun a y hy => ?_, nk, fun a ha => ?_⟩
  · rcases set_low hj with ⟨n, h⟩ | ⟨_, z, _⟩
    · exact ok.fr j e h
    · cases z
  · rcases set_low hj with ⟨n, h⟩ | ⟨rfl, z, _⟩
    · obtain ⟨q, h1, h2, h3, h4, h5⟩ := ok.ow j u h
      exact ⟨q, h1, h2, h3, nn h4, h5⟩
    · cases z
      exact ⟨p, hp, g2, hF, hN, pm⟩
  · rcases set_low hj with ⟨n, h⟩ | ⟨_, z, _⟩
    · obtain ⟨q, h1, h2, h3⟩ := ok.rd j u h
      refine ⟨q, h1, h2, ?_⟩
      rcases List.mem_cons.mp h3 with e | h3
      · cases e; exact absurd rfl n
      · exact h3
    · cases z
  · have low : ∀ {j : Nat} {u : Ob}, (E.r.set i (.ow o))[j]? = some (.ow u) → σ[j]? = some (some (.ref q)) → (j = i ∧ q = p) ∨ (j ≠ i ∧ E.r[j]? = some (.ow u) ∧ q ≠ p) := fun {j u} h hq => by
      rcases set_low h with ⟨n, h⟩ | ⟨rfl, _, _⟩
      · obtain ⟨q', g1, _, _, g4, _⟩ := ok.ow j u h
        rw [hq] at g1; cases g1
        exact .inr ⟨n, h, nP g4⟩
      · rw [hp] at hq; cases hq; exact .inl ⟨rfl, rfl⟩
    rcases low h1 h3 with ⟨e1, e2⟩ | ⟨n1, g1, m1⟩
    · rcases low h2 h4 with ⟨e3, e4⟩ | ⟨n3, g3, m3⟩
      · rw [e1, e3]
      · exact absurd e2 m3
    · rcases low h2 h4 with ⟨e3, e4⟩ | ⟨n3, g3, m3⟩
      · exact absurd e4 m1
      · exact ok.inj j k u u' q g1 g3 h3 h4
  · obtain ⟨h1, h2, h3⟩ := ok.mem y hy
    exact ⟨h1, h2, nn h3⟩
  · exact ok.nsub a y (by show upd N.h p x a = some y; rw [upd_ne (ne_of_none hy hN)]; exact hy)
  · have e : a ≠ p := fun e => by rw [e] at ha; exact ha hN
    exact ok.ndis a (by show upd N.h p x a ≠ none; rw [upd_ne e]; exact ha)
end

/-! ### the block's context -/
abbrev blkB (b : Bx) (s : Shared) (H : Hp) (scope : Scope) (C : Addr) (cl : List (Str × Addr)) (fp : List Addr) : Bx := ⟨b.X.blk s H scope (compEnvC scope cl C b.X.env) fp, b.cl, fun _ _ _ _ => False⟩
abbrev X0 : QX := fun _ _ => False
theorem Gd.blk {b : Bx} {Nm : List Str} {tb tb' : List (Nat × Str)} {gl gl' : List Str} {k : Nat} (g : Gd b Nm tb gl k) {sc : Scope} (hsc : b.X.env.scope = sc) {s : Shared} {H : Hp} {scope : Scope} {C : Addr} {cl : List (Str × Addr)} {fp : List Addr}
    (hv : visOk Nm (relS scope sc) tb' = true) (hg : glsOk (relS scope sc) gl' = true) : Gd (blkB b s H scope C cl fp) Nm tb' gl' k where
  calm := g.calm
  rm := g.rm
  gd := g.gd
  tk := fun u s' h => by
    obtain ⟨a, B, sI, pins, σ, H, cls, d, e, I, nb, up, sky, na, os, ag, w⟩ := h
    exact w.elim
  pass := PassesOwn.never
  nm := g.nm
  nd := g.nd
  vis := by subst hsc; exact visOk_of hv
  gls := by subst hsc; exact fun x hx => glsOk_of hg x hx

/-! ### sources of comprehensions -/
/-- the items, the slot that is held still -/
abbrev BSrc := En → (List D → Option Nat → En → Prop) → QX → Prop
def LkR (N N' : Nh) (σ : L2.St) : Option Nat → Prop
  | none => N' = N
  | some i => ∃ p ho, N' = N.lock i p ho ∧ N p = none ∧ σ[i]? = some (some (.ref p))
def lowC (b : Bx) (t : BSrc) : TI := fun σ H R => ∃ N F E QB XB, Ok b.lb N F E σ H ∧ t E QB XB ∧
  (∀ F' N' E' ds lk H' J, Same F F' → LkR N N' σ lk → Ok b.lb N' F' E' σ H' → Feed b.lb J N' F' ds → QB ds lk E' → R J H') ∧ xOk b N F XB
abbrev BCs (b : Bx) (tg e : Expr) (t : BSrc) : Prop := PI b.X tg e (lowC b t)
def cVal (t : BA) : BSrc := fun E Q X => t E (fun ds E' => Q ds none E') X
theorem bc_of {b : Bx} {tg e : Expr} {t : BA} (h : BIt b tg e t) : BCs b tg e (cVal t) := pi_weak h fun σ H R ⟨N, F, E, QB, XB, ok, ht, hQ, hX⟩ =>
  ⟨N, F, E, _, XB, ok, ht, fun F' E' ds H' J s' ok' fd q => hQ F' N E' ds none H' J s' rfl ok' fd q, hX⟩
/-- a name -/
def cVar (i : Nat) : BSrc := fun E Q _ => match E.r[i]? with
  | some (.fr d) => ∃ ds, d.items = some ds ∧ Q ds none E
  | some (.rd o) => o.cold = true ∧ ∃ ds, o.d.items = some ds ∧ Q ds none E
  | some (.ow o) => o.cold = true ∧ ∃ ds, o.d.items = some ds ∧ Q ds (some i) ⟨E.r.set i (.rd o), E.m⟩
  | _ => False
theorem bc_var {b : Bx} {tg : Expr} {i : Nat} {e : Expr} (h : PE b.X e (tVar i)) : BCs b tg e (cVar i) := by
  refine ⟨fun pins s σ H R I ⟨N, F, E, QB, XB, ok, ht, hQ, hX⟩ => ?_⟩
  unfold cVar at ht
  cases he : E.r[i]? with
  | none => rw [he] at ht; exact ht.elim
  | some sl =>
    rw [he] at ht
    cases sl with
    | un => exact ht.elim
    | fr d =>
      obtain ⟨ds, hd, q⟩ := ht
      obtain ⟨v, h1, h2⟩ := ok.fr i d he
      exact thn (h.run pins s σ H (fun x H1 => x = v ∧ H1 = H) I ⟨v, h1, rfl, rfl⟩) fun u s1 ⟨x, H1, I1, rx, e1, e2⟩ => by
        subst e1 e2
        exact iter_of hd I1 ok (.inl h2) rx fun J fd => hQ F N E ds none H1 J (Same.refl F) rfl ok fd q
    | rd o =>
      obtain ⟨c, ds, hd, q⟩ := ht
      obtain ⟨p, h1, h2, h3⟩ := ok.rd i o he
      have hp : ∃ x, N p = some x := by
        cases q : N p with
        | none => exact absurd q (ok.lks.at_ _ h3)
        | some x => exact ⟨x, rfl⟩
      obtain ⟨y, hy⟩ := hp
      exact thn (h.run pins s σ H (fun x H1 => x = .ref p ∧ H1 = H) I ⟨_, h1, rfl, rfl⟩) fun u s1 ⟨x, H1, I1, rx, e1, e2⟩ => by
        subst e1 e2
        exact iter_of hd I1 ok (.inr ⟨h2.top c, p, y, rfl, hy, ok.nsub _ _ hy⟩) rx fun J fd => hQ F N E ds none H1 J (Same.refl F) rfl ok fd q
    | ow o =>
      obtain ⟨c, ds, hd, q⟩ := ht
      obtain ⟨p, ho, h1, h2, h3, ok'⟩ := ok.lock he
      obtain ⟨p', g1, g2, _⟩ := ok.ow i o he
      rw [h1] at g1
      cases g1
      exact thn (h.run pins s σ H (fun x H1 => x = .ref p ∧ H1 = H) I ⟨_, h1, rfl, rfl⟩) fun u s1 ⟨x, H1, I1, rx, e1, e2⟩ => by
        subst e1 e2
        exact iter_of hd I1 ok' (.inr ⟨g2.top c, p, ho, rfl, by show upd N.h p ho p = _; rw [upd_same], h2⟩) rx fun J fd => hQ F (N.lock i p ho) _ ds (some i) H1 J (Same.refl F) ⟨p, ho, rfl, h3, h1⟩ ok' fd q
def unlk (lk : Option Nat) (E : En) (Q : En → Prop) : Prop := match lk with
  | none => Q E
  | some i => ∃ o, E.r[i]? = some (.rd o) ∧ Q ⟨E.r.set i (.ow o), E.m⟩
def lcRun (t : Tgt) (tst : BQ) (elt : BO) (ws : List Nat) : List D → List D → En → (List D → En → Prop) → Prop
  | [], acc, E, Q => Q acc E
  | d :: ds, acc, E, Q => t.set d E fun E1 => tst E1 (fun k E2 => if k = true then elt E2 (fun y E3 => acc.length < sizeLine ∧ lcRun t tst elt ws ds (acc ++ [y]) (E3.wipe ws) Q) X0 else lcRun t tst elt ws ds acc (E2.wipe ws) Q) X0
def bLc (src : BSrc) (t : Tgt) (tst : BQ) (elt : BO) (ws : List Nat) : BT := fun E Q X => src E (fun ds lk E1 => lcRun t tst elt ws ds [] (E1.wipe ws) fun acc E2 => unlk lk E2 fun E3 => Q (.ow (.lst acc)) E3) X
/-- the clause's tests -/
abbrev BTs (b : Bx) (ifs : List Expr) (t : BQ) : Prop := PTs b.X ifs (lowQ b t)
def bYes : BQ := fun E Q _ => Q true E
theorem bts_nil {b : Bx} : BTs b [] bYes := ⟨fun pins s σ H Q I ⟨N, F, E, QB, XB, ok, ht, hQ, hX⟩ => pts_nil.run pins s σ H Q I (hQ F E true H (Same.refl F) ok ht)⟩
theorem bts_one {b : Bx} {c : Expr} {t : BQ} (h : BQt b c t) : BTs b [c] t := pts_one h
theorem lc_low {b : Bx} {src : BSrc} {t : Tgt} {tst : BQ} {elt : BO} {ws : List Nat} (hw : ∀ i ∈ t.ix, i ∈ ws) : ∀ σ H Q, lowE b (bLc src t tst elt ws) σ H Q →
    tLc (lowC b src) (t.low b.X.K) (fun σ H Q => lowQ ⟨b.X, b.cl, fun _ _ _ _ => False⟩ tst σ H Q) (lowV ⟨b.X, b.cl, fun _ _ _ _ => False⟩ elt) ws σ H Q := fun σ H Q ⟨N, F, E, QB, XB, ok, ht, hQ, hX⟩ => by
  refine ⟨N, F, E, _, XB, ok, ht, fun F1 N1 E1 ds lk H1 J s1 lr ok1 fd q => ?_, hX⟩
  intro D hD
  have nD : N1 D = none := by
    cases e : N1 D with
    | none => rfl
    | some y => have := ok1.nsub D y e; rw [hD] at this; cases this
  have nk := ok1.lks
  have hl := ok1.lk_ne nD
  have sN : ∀ {o : HO}, Same N1.h (N1.put D o).h := fun {o} => same_upd nD
  refine ⟨fun i m H => m = ds.length - i ∧ i ≤ ds.length ∧ ∃ F2 E2 acc vs, Same F1 F2 ∧ Ok b.lb (N1.put D (.lst vs)) F2 E2 (wipe σ ws) H ∧ RepA b.lb F2 acc vs ∧ lcRun t tst elt ws (ds.drop i) acc E2 fun acc E2 => unlk lk E2 fun E3 => QB (.ow (.lst acc)) E3,
    ⟨_, rfl, Nat.zero_le _, F1, _, [], [], Same.refl _, (ok1.laid hD).wiped ws, repA_nil, by rw [List.drop_zero]; exact q⟩, ?_⟩
  rintro i m H ⟨rfl, hi, F2, E2, acc, vs, s2, ok2, ra, q2⟩
  by_cases hlt : i < ds.length
  · refine .inr ⟨fd.go i _ F2 E2 _ H s2 sN ok2 hlt, fun H' => ∃ F3 E3 acc' vs', Same F1 F3 ∧ Ok b.lb (N1.put D (.lst vs')) F3 E3 (wipe σ ws) H' ∧ RepA b.lb F3 acc' vs' ∧ lcRun t tst elt ws (ds.drop (i + 1)) acc' E3 fun acc E2 => unlk lk E2 fun E3 => QB (.ow (.lst acc)) E3,
      fun H' n => ⟨ds.length - (i + 1), by omega, rfl, hlt, n⟩, fun x H' hy => ?_⟩
    obtain ⟨F3, s3, ok3, rx⟩ := fd.yld i _ F2 E2 _ H x H' ds[i] s2 sN ok2 (by simp [hlt]) hy
    rw [List.drop_eq_getElem_cons hlt] at q2
    obtain ⟨E4, σ4, ok4, q4, lw, hwp⟩ := ok3.tgt rx q2
    have e4 : wipe σ4 ws = wipe σ ws := by
      rw [hwp ws hw]
      apply List.ext_getElem?
      intro j
      by_cases hj : j ∈ ws
      · have go : ∀ {vs : List Nat} {τ : L2.St}, j ∈ vs → (wipe τ vs)[j]? = if j < τ.length then some none else none := by
          intro vs
          induction vs with
          | nil => intro τ h; cases h
          | cons w ws ih =>
            intro τ hm
            show ((wipe τ ws).set w none)[j]? = _
            by_cases hw : w = j
            · subst hw
              by_cases q : w < τ.length
              · rw [List.getElem?_set_self (by rw [wipe_length]; exact q), if_pos q]
              · rw [List.getElem?_eq_none (by rw [List.length_set, wipe_length]; omega), if_neg q]
            · rw [List.getElem?_set_ne hw]
              rcases List.mem_cons.mp hm with e | hm
              · exact absurd e.symm hw
              · exact ih hm
        rw [go hj, go hj, wipe_length]
      · rw [wipe_out hj]
    refine lw ⟨e4, N1.put D (.lst vs), F3, E4, _, X0, ok4, q4, fun F5 E5 k H5 s5 ok5 q5 => ?_, fun _ _ _ _ _ _ _ _ _ _ z => z.elim⟩
    cases k with
    | false =>
      rw [if_neg Bool.false_ne_true]
      have q5 : lcRun t tst elt ws (ds.drop (i + 1)) acc (E5.wipe ws) fun acc E2 => unlk lk E2 fun E3 => QB (.ow (.lst acc)) E3 := by
        have z : (if false = true then _ else _) := q5
        rw [if_neg Bool.false_ne_true] at z; exact z
      have ok6 := ok5.wiped ws
      rw [e4] at ok6
      exact ⟨F5, _, acc, vs, (s2.trans s3).trans s5, ok6, RepA.mono (s3.trans s5) _ _ ra, q5⟩
    | true =>
      rw [if_pos rfl]
      have q5 : elt E5 (fun y E3 => acc.length < sizeLine ∧ lcRun t tst elt ws (ds.drop (i + 1)) (acc ++ [y]) (E3.wipe ws) fun acc E2 => unlk lk E2 fun E3 => QB (.ow (.lst acc)) E3) X0 := by
        have z : (if true = true then _ else _) := q5
        rw [if_pos rfl] at z; exact z
      refine ⟨N1.put D (.lst vs), F5, E5, _, X0, ok5, q5, fun F6 E6 y v H6 s6 ok6 ry q6 => ?_, fun _ _ _ _ _ _ _ _ _ _ z => z.elim⟩
      have hHD : H6 D = some (.lst vs) := ok6.nsub D _ (by show upd N1.h D _ D = _; rw [upd_same])
      have s36 := (s3.trans s5).trans s6
      have ra6 := RepA.mono s36 _ _ ra
      refine ⟨vs, hHD, by rw [← repA_len ra6]; exact q6.1, ?_⟩
      have ok7 := (ok6.relaid (o' := .lst (vs ++ [v])) nk nD hl).wiped ws
      rw [e4] at ok7
      exact ⟨F6, _, acc ++ [y], vs ++ [v], s2.trans s36, ok7, repA_app ra6 (repA_cons ry repA_nil), q6.2⟩
  · have e : i = ds.length := by omega
    rw [e, List.drop_length] at q2
    refine .inl ⟨fd.stop i _ F2 E2 _ H s2 sN ok2 e, ?_⟩
    have q2 : unlk lk E2 fun E3 => QB (.ow (.lst acc)) E3 := q2
    have ok3 := (ok2.unwipe).took nk nD ra
    cases lk with
    | none =>
      cases lr
      exact hQ F2 E2 _ _ H (s1.trans s2) ok3 q2
    | some j =>
      obtain ⟨p, ho, rfl, hp, hσ⟩ := lr
      obtain ⟨o, ho2, q2⟩ := q2
      have hj : j < E2.r.length := (List.getElem?_eq_some_iff.mp ho2).1
      have hj2 : j < σ.length := (List.getElem?_eq_some_iff.mp hσ).1
      have ok4 := ok3.unlock ok.lks hp (by rw [app_lo hj2]; exact hσ) (by show (E2.r ++ [Sl.ow (.lst acc)])[j]? = _; rw [app_lo hj]; exact ho2)
      refine hQ F2 ⟨E2.r.set j (.ow o), E2.m⟩ _ _ H (s1.trans s2) ?_ q2
      have e2 : (E2.r ++ [Sl.ow (.lst acc)]).set j (.ow o) = E2.r.set j (.ow o) ++ [.ow (.lst acc)] := by
        rw [List.set_append_left _ _ hj]
      rw [← e2]
      exact ok4
section
variable {b : Bx} {Nm : List Str} {tbl : List (Nat × Str)} {gl : List Str} {k : Nat} {elt tg iter : Expr} {ifs : List Expr} {scope : Scope} {own : List (Str × Nat)} {pos : Pos} {src : BSrc} {t : Tgt} {tst : BQ} {el : BO}
/-- [elt for tg in iter if ..] -/
theorem be_lc (g : Gd b Nm tbl gl k) {sc : Scope} (hsc : b.X.env.scope = sc) (hi : BCs b tg iter src) (hok : blkC Nm sc scope own = true) (hw : ∀ i ∈ t.ix, i ∈ own.map (·.2))
    (hg : ∀ (s : Shared) (H : Hp) (C : Addr) (cl : List (Str × Addr)) (fp : List Addr), PG (blkB b s H scope C cl fp).X tg (t.low b.X.K)) (ht : ∀ (s : Shared) (H : Hp) (C : Addr) (cl : List (Str × Addr)) (fp : List Addr), BTs (blkB b s H scope C cl fp) ifs tst)
    (he : ∀ (s : Shared) (H : Hp) (C : Addr) (cl : List (Str × Addr)) (fp : List Addr), BV (blkB b s H scope C cl fp) elt el) (hs : ∀ x, foldedSetIterable iter b.X.env x = pure x := by intro _; rfl) :
    BE b (.ListComp elt [⟨tg, iter, ifs, 0⟩] scope pos) (bLc src t tst el (own.map (·.2))) :=
  pe_weak (pe_lc g.calm g.nn hi (by rw [g.nm, hsc]; exact blkOk_by hok) hg ht he hs) (lc_low hw)
end
end B
/-! BDic: dicts. -/
namespace B
open PySem PySem.Spec PyProof.Rows L2
def D.isStr : D → Bool
  | .str _ => true
  | _ => false
def D.isTup : D → Bool
  | .tup _ => true
  | _ => false
abbrev KV2 := List (D × D)
def keyE (k : D) (p : D × D) : Bool := decide (p.1.key = k.key)
def dFind (kvs : KV2) (k : D) : Option D := (kvs.find? (keyE k)).map (·.2)
def dPut (kvs : KV2) (k v : D) : KV2 := if kvs.any (keyE k) then kvs.map (fun p => if keyE k p then (p.1, v) else p) else kvs ++ [(k, v)]
/-- a key that fits the dict's keys -/
def keyFit (k : D) (kvs : KV2) : Bool := match k with
  | .str _ => kvs.all fun p => p.1.isStr
  | .tup _ => (match k.key with
    | some nk => decide (nk.depth ≤ 8)
    | none => false) && kvs.all fun p => p.1.isTup
  | _ => false
theorem str_key (z : Str) : (D.str z).key = some (.text z) := by rw [D.key]
section
variable {L : Lb} {F H : Hp}
theorem repS_strs : ∀ {kvs : KV2} {us : List (Str × Value)}, RepS L F kvs us → kvs.all (fun p => p.1.isStr) = true
  | [], us, h => rfl
  | (k, d) :: r, us, h => by
    rw [RepS] at h
    obtain ⟨x, u, v, us', e, e2, rv, h1, h2⟩ := h
    subst e2
    rw [List.all_cons, repS_strs h2]; rfl
theorem repX_tups : ∀ {kvs : KV2} {us : List (NestedKey × Addr × Value)}, RepX L F kvs us → kvs.all (fun p => p.1.isTup || p.1.isStr) = true → kvs.all (fun p => p.1.isTup) = true
  | [], us, h, _ => rfl
  | (k, d) :: r, us, h, q => by
    rw [RepX] at h
    obtain ⟨nk, ka, u, v, us', e, hk, hr, _, _, h2⟩ := h
    rw [List.all_cons, Bool.and_eq_true] at q ⊢
    refine ⟨?_, repX_tups h2 q.2⟩
    cases k with
    | tup _ => rfl
    | str _ => rw [Rep] at hr; cases hr
    | _ => have := q.1; simp [D.isTup, D.isStr] at this
theorem dicR_str {kvs : KV2} {o : Obj} (r : DicR L F kvs o) (h : kvs.all (fun p => p.1.isStr) = true) : ∃ us, o.IsDictOf (strKind L.P L.w) us ∧ RepS L F kvs us := by
  obtain ⟨l, ⟨us, r1, r2⟩ | ⟨xs, r1, r2⟩⟩ := r
  · exact ⟨us, r1, r2⟩
  · cases kvs with
    | nil =>
      rw [RepX] at r2
      subst r2
      obtain ⟨es, ep, hx, hd, he, _, _⟩ := r1
      have e0 : es = #[] := by
        have : es.toList = [] := he
        exact Array.toList_eq_nil_iff.mp this
      subst e0
      exact ⟨[], ⟨#[], ep, hx, hd, (fun i hi => absurd hi (by simp)), .nil, List.nodup_nil⟩, by rw [RepS]⟩
    | cons kv kvs =>
      obtain ⟨k, d⟩ := kv
      rw [RepX] at r2
      obtain ⟨nk, ka, u, v, us', e, hk, hr, _⟩ := r2
      rw [List.all_cons, Bool.and_eq_true] at h
      cases k with
      | str _ => rw [Rep] at hr; cases hr
      | _ => have := h.1; cases this
theorem dicR_tup {kvs : KV2} {o : Obj} (r : DicR L F kvs o) (h : kvs.all (fun p => p.1.isTup) = true) : ∃ xs, IsDictH L.P L.w o xs ∧ RepX L F kvs xs := by
  obtain ⟨l, ⟨us, r1, r2⟩ | ⟨xs, r1, r2⟩⟩ := r
  · cases kvs with
    | nil =>
      rw [RepS] at r2
      subst r2
      obtain ⟨es, ep, hx, hd, _, hp, _⟩ := r1
      have e0 : es.toList = [] := by cases q : es.toList with
        | nil => rfl
        | cons a l => rw [q] at hp; cases hp
      exact ⟨[], ⟨es, ep, hx, hd, e0, List.nodup_nil, fun x hx => by cases hx⟩, by rw [RepX]⟩
    | cons kv kvs =>
      obtain ⟨k, d⟩ := kv
      rw [RepS] at r2
      obtain ⟨x, u, v, us', e, e2, _⟩ := r2
      subst e2
      rw [List.all_cons, Bool.and_eq_true] at h
      have := h.1; cases this
  · exact ⟨xs, r1, r2⟩
theorem repS_find {z : Str} : ∀ {kvs : KV2} {us : List (Str × Value)}, RepS L F kvs us → match dFind kvs (.str z) with
    | some d => ∃ u v, valueAt us z = some u ∧ RelV v u ∧ Rep L F d v
    | none => valueAt us z = none
  | [], us, h => by rw [RepS] at h; subst h; rfl
  | (k, d) :: r, us, h => by
    rw [RepS] at h
    obtain ⟨x, u, v, us', e, e2, rv, h1, h2⟩ := h
    subst e; subst e2
    have ih := repS_find (z := z) h2
    unfold dFind valueAt at ih ⊢
    rw [List.find?_cons, List.find?_cons]
    by_cases q : x = z
    · subst q
      have e1 : keyE (.str x) (.str x, d) = true := by unfold keyE; simp
      rw [e1]
      simp only [decide_true]
      exact ⟨u, v, rfl, rv, h1⟩
    · have e1 : keyE (.str z) (.str x, d) = false := by unfold keyE; rw [str_key, str_key]; simp [q]
      rw [e1]
      simp only [q, decide_false]
      exact ih
theorem repX_find {k : D} {nk : NestedKey} (hk : k.key = some nk) : ∀ {kvs : KV2} {us : List (NestedKey × Addr × Value)}, RepX L F kvs us → match dFind kvs k with
    | some d => ∃ ka u v, atKey us nk = some (ka, u) ∧ RelV v u ∧ Rep L F d v
    | none => atKey us nk = none
  | [], us, h => by rw [RepX] at h; subst h; rfl
  | (k', d) :: r, us, h => by
    rw [RepX] at h
    obtain ⟨nk', ka, u, v, us', e, hk', hr, rv, h1, h2⟩ := h
    subst e
    have ih := repX_find hk h2
    unfold dFind atKey at ih ⊢
    rw [List.find?_cons, List.find?_cons]
    by_cases q : nk' = nk
    · subst q
      have e1 : keyE k (k', d) = true := by unfold keyE; rw [hk, hk']; simp
      rw [e1]
      simp only [decide_true]
      exact ⟨ka, u, v, rfl, rv, h1⟩
    · have e1 : keyE k (k', d) = false := by unfold keyE; rw [hk, hk']; simp [q]
      rw [e1]
      simp only [q, decide_false]
      exact ih
theorem repS_map {z : Str} {u : Value} {v : V} {d : D} (rv : RelV v u) (rd : Rep L F d v) : ∀ {kvs : KV2} {us : List (Str × Value)}, RepS L F kvs us → RepS L F (kvs.map fun p => if keyE (.str z) p then (p.1, d) else p) (us.map fun kv => if kv.1 = z then (kv.1, u) else kv)
  | [], us, h => by rw [RepS] at h; subst h; exact (by rw [List.map_nil, List.map_nil, RepS])
  | (k', d') :: r, us, h => by
    rw [RepS] at h
    obtain ⟨x, u', v', us', e, e2, rv', h1, h2⟩ := h
    subst e; subst e2
    rw [List.map_cons, List.map_cons]
    by_cases q : x = z
    · subst q
      have e1 : keyE (.str x) (.str x, d') = true := by unfold keyE; simp
      rw [if_pos e1, if_pos rfl, RepS]
      exact ⟨x, u, v, _, rfl, rfl, rv, rd, repS_map rv rd h2⟩
    · have e1 : keyE (.str z) (.str x, d') = false := by unfold keyE; rw [str_key, str_key]; simp [q]
      rw [e1, if_neg Bool.false_ne_true, if_neg q, RepS]
      exact ⟨x, u', v', _, rfl, rfl, rv', h1, repS_map rv rd h2⟩
theorem repS_app {z : Str} {u : Value} {v : V} {d : D} (rv : RelV v u) (rd : Rep L F d v) : ∀ {kvs : KV2} {us : List (Str × Value)}, RepS L F kvs us → RepS L F (kvs ++ [(.str z, d)]) (us ++ [(z, u)])
  | [], us, h => by rw [RepS] at h; subst h; rw [List.nil_append, List.nil_append, RepS]; exact ⟨z, u, v, [], rfl, rfl, rv, rd, by rw [RepS]⟩
  | (k', d') :: r, us, h => by
    rw [RepS] at h
    obtain ⟨x, u', v', us', e, e2, rv', h1, h2⟩ := h
    subst e; subst e2
    rw [List.cons_append, List.cons_append, RepS]
    exact ⟨x, u', v', _, rfl, rfl, rv', h1, repS_app rv rd h2⟩
theorem repS_put {z : Str} {u : Value} {v : V} {d : D} {kvs : KV2} {us : List (Str × Value)} (rv : RelV v u) (rd : Rep L F d v) (h : RepS L F kvs us) : RepS L F (dPut kvs (.str z) d) (stored us z u) := by
  have an : ∀ {kvs : KV2} {us : List (Str × Value)}, RepS L F kvs us → kvs.any (keyE (.str z)) = us.any fun kv => kv.1 = z := by
    intro kvs
    induction kvs with
    | nil => intro us h; rw [RepS] at h; subst h; rfl
    | cons p r ih =>
      intro us h
      obtain ⟨k', d'⟩ := p
      rw [RepS] at h
      obtain ⟨x, u', v', us', e, e2, rv', h1, h2⟩ := h
      subst e; subst e2
      rw [List.any_cons, List.any_cons, ih h2]
      congr 1
      unfold keyE
      rw [str_key, str_key]
      simp
  unfold dPut stored
  rw [an h]
  split
  · exact repS_map rv rd h
  · exact repS_app rv rd h
theorem repX_map {k : D} {nk : NestedKey} (hk : k.key = some nk) {u : Value} {v : V} {d : D} (rv : RelV v u) (rd : Rep L F d v) : ∀ {kvs : KV2} {us : List (NestedKey × Addr × Value)}, RepX L F kvs us → RepX L F (kvs.map fun p => if keyE k p then (p.1, d) else p) (us.map (putAt nk u))
  | [], us, h => by rw [RepX] at h; subst h; exact (by rw [List.map_nil, List.map_nil, RepX])
  | (k', d') :: r, us, h => by
    rw [RepX] at h
    obtain ⟨nk', ka, u', v', us', e, hk', hr, rv', h1, h2⟩ := h
    subst e
    rw [List.map_cons, List.map_cons]
    by_cases q : nk' = nk
    · subst q
      have e1 : keyE k (k', d') = true := by unfold keyE; rw [hk, hk']; simp
      rw [if_pos e1, putAt, if_pos rfl, RepX]
      exact ⟨nk', ka, u, v, _, rfl, hk', hr, rv, rd, repX_map hk rv rd h2⟩
    · have e1 : keyE k (k', d') = false := by unfold keyE; rw [hk, hk']; simp [q]
      rw [e1, if_neg Bool.false_ne_true, putAt, if_neg q, RepX]
      exact ⟨nk', ka, u', v', _, rfl, hk', hr, rv', h1, repX_map hk rv rd h2⟩
theorem repX_app {k : D} {nk : NestedKey} (hk : k.key = some nk) {ka : Addr} (hr : Rep L F k (.ref ka)) {u : Value} {v : V} {d : D} (rv : RelV v u) (rd : Rep L F d v) : ∀ {kvs : KV2} {us : List (NestedKey × Addr × Value)}, RepX L F kvs us → RepX L F (kvs ++ [(k, d)]) (us ++ [(nk, ka, u)])
  | [], us, h => by rw [RepX] at h; subst h; rw [List.nil_append, List.nil_append, RepX]; exact ⟨nk, ka, u, v, [], rfl, hk, hr, rv, rd, by rw [RepX]⟩
  | (k', d') :: r, us, h => by
    rw [RepX] at h
    obtain ⟨nk', ka', u', v', us', e, hk', hr', rv', h1, h2⟩ := h
    subst e
    rw [List.cons_append, List.cons_append, RepX]
    exact ⟨nk', ka', u', v', _, rfl, hk', hr', rv', h1, repX_app hk hr rv rd h2⟩
theorem repX_any {k : D} {nk : NestedKey} (hk : k.key = some nk) : ∀ {kvs : KV2} {us : List (NestedKey × Addr × Value)}, RepX L F kvs us → kvs.any (keyE k) = (atKey us nk).isSome
  | [], us, h => by rw [RepX] at h; subst h; rfl
  | (k', d') :: r, us, h => by
    rw [RepX] at h
    obtain ⟨nk', ka', u', v', us', e, hk', hr', rv', h1, h2⟩ := h
    subst e
    have ih := repX_any hk h2
    unfold atKey at ih ⊢
    rw [List.any_cons, List.find?_cons, ih]
    by_cases q : nk' = nk
    · have e1 : keyE k (k', d') = true := by unfold keyE; rw [hk, hk']; simp [q]
      rw [e1]
      simp [q]
    · have e1 : keyE k (k', d') = false := by unfold keyE; rw [hk, hk']; simp [q]
      rw [e1]
      simp [q]
theorem repX_put {k : D} {nk : NestedKey} (hk : k.key = some nk) {ka : Addr} (hr : Rep L F k (.ref ka)) {u : Value} {v : V} {d : D} (rv : RelV v u) (rd : Rep L F d v) {kvs : KV2} {us : List (NestedKey × Addr × Value)} (h : RepX L F kvs us) : RepX L F (dPut kvs k d) (storedH us nk ka u) := by
  unfold dPut storedH
  rw [repX_any hk h]
  split
  · exact repX_map hk rv rd h
  · exact repX_app hk hr rv rd h
theorem dPut_len (kvs : KV2) (k v : D) : (dPut kvs k v).length ≤ kvs.length + 1 := by
  unfold dPut
  split
  · simp
  · simp
theorem keyFit_cases {k : D} {kvs : KV2} (h : keyFit k kvs = true) : (∃ z, k = .str z ∧ kvs.all (fun p => p.1.isStr) = true) ∨ ∃ ds nk, k = .tup ds ∧ k.key = some nk ∧ nk.depth ≤ 8 ∧ kvs.all (fun p => p.1.isTup) = true := by
  cases k with
  | str z => exact .inl ⟨z, rfl, h⟩
  | tup ds =>
    have h : ((match (D.tup ds).key with
      | some nk => decide (nk.depth ≤ 8)
      | none => false) && kvs.all fun p => p.1.isTup) = true := h
    rw [Bool.and_eq_true] at h
    cases q : (D.tup ds).key with
    | none => rw [q] at h; cases h.1
    | some nk => rw [q] at h; exact .inr ⟨ds, nk, rfl, by first | rfl | exact q, of_decide_eq_true h.1, h.2⟩
  | _ => cases h
end
section
variable {b : Bx} {pins : List (Addr × Obj)} {σ σ' : L2.St} {N : Nh} {F H : Hp} {E : En} {s : Shared} {kvs : KV2} {k d : D} {x y : V} {u v : Value}
theorem isX (I : Inv b.X pins σ H s) (sF : Same F H) : ∀ {kvs : KV2} {us : List (NestedKey × Addr × Value)}, RepX b.lb F kvs us → ∀ x ∈ us, NestedIs s.heap x.1 (.ref x.2.1)
  | [], us, h => by rw [RepX] at h; subst h; intro x hx; cases hx
  | (k, d) :: r, us, h => by
    rw [RepX] at h
    obtain ⟨nk, ka, u, w, us', e1, hk, hr, _, _, h2⟩ := h
    subst e1
    intro x hx
    rcases List.mem_cons.mp hx with rfl | hx
    · exact Rep.nested I sF k nk (.ref ka) (.ref ka) hk hr rfl
    · exact isX I sF h2 x hx
/-- the dict at a, in the library's words, for a key -/
theorem key_at {a : Addr} {o : Obj} (I : Inv b.X pins σ H s) (sF : Same F H) (ho : s.heap.get? a = some o) (r : DicR b.lb F kvs o) (hf : keyFit k kvs = true) (rk : Rep b.lb F k y) (ru : RelV y u) :
    (∃ z t us, k = .str z ∧ u = .str z t ∧ s.heap.DictOf (strKind b.X.prog b.X.w) a us ∧ RepS b.lb F kvs us) ∨
    ∃ nk ka xs, k.key = some nk ∧ y = .ref ka ∧ u = .ref ka ∧ (nestedKind b.X.prog b.X.w).is s.heap nk ka ∧ s.heap.DictOfH (nestedKind b.X.prog b.X.w) a xs ∧ RepX b.lb F kvs xs := by
  rcases keyFit_cases hf with ⟨z, rfl, hs⟩ | ⟨ds, nk, rfl, hk, hd, hs⟩
  · obtain ⟨us, h1, h2⟩ := dicR_str r hs
    rw [Rep] at rk
    subst rk
    obtain ⟨t, rfl⟩ := ru
    exact .inl ⟨z, t, us, rfl, rfl, Heap.dictOf_iff.mpr ⟨o, ho, h1⟩, h2⟩
  · obtain ⟨xs, ⟨es, ep, hx, hdd, he, hn, hdp⟩, h2⟩ := dicR_tup r hs
    have ni := Rep.nested I sF _ nk y u hk rk ru
    have rk' := rk
    rw [Rep] at rk'
    obtain ⟨ka, vs, e, _⟩ := rk'
    subst e
    cases ru
    exact .inr ⟨nk, ka, xs, hk, rfl, rfl, ⟨ni, hd⟩, ⟨o, es, ep, ho, hx, hdd, he, fun x hx => ⟨isX I sF h2 x hx, hdp x hx⟩, hn⟩, h2⟩
end
end B
/-! BDic2: in, subscripts, stores, sorted. -/
namespace B
open PySem PySem.Spec PyProof.Rows L2
section
variable {b : Bx} {a c e : Expr} {pos p : Pos} {t tb : BO} {ta : BL} {Nm : List Str} {tbl : List (Nat × Str)} {gl : List Str} {k : Nat}
/-- two operands by data: all that is known -/
def rD2 (b : Bx) (f : F2) : R2 := fun x y H Q => ∃ N F E σ d e QB, Ok b.lb N F E σ H ∧ RepT b.lb F H d x ∧ RepT b.lb F H e y ∧ f d e QB ∧
  ∀ F' s v' H', Same F F' → Ok b.lb N F' ⟨E.r ++ [s], E.m⟩ (σ ++ [some v']) H' → QB s → Q v' H'
theorem op2_D {f : F2} : Op2 b (rD2 b f) f := fun N F E σ H x y v u QB Q ok rx ry hf k => ⟨N, F, E, σ, x, y, QB, ok, rx, ry, hf, k⟩

/-! ### in, not in -/
def canA (ds : List D) : Bool := D.pureA ds && PyData.canLayAll0 (D.pyA ds)
def inS (i j : Str) : Bool := !(Builtin.Str.occurrences j i 0 j.length 1).isEmpty
def dIn (neg : Bool) : F2 := fun x y Q => match y with
  | .lst ds => canA ds = true ∧ x.eqs = true ∧ Q (.fr (.bl (neg ^^ (D.pyA ds).any fun y => PyData.eqv y x.py)))
  | .tup ds => canA ds = true ∧ x.eqs = true ∧ Q (.fr (.bl (neg ^^ (D.pyA ds).any fun y => PyData.eqv y x.py)))
  | .str j => (match x with
    | .str i => Q (.fr (.bl (neg ^^ inS i j)))
    | _ => False)
  | .dic kvs => keyFit x kvs = true ∧ Q (.fr (.bl (neg ^^ (dFind kvs x).isSome)))
  | _ => False
theorem eqs_lay {x : D} (h : x.eqs = true) : x.pure = true ∧ x.py.canLay0 = true ∧ x.py.depth ≤ 64 := by
  unfold D.eqs SeqAt.shaped at h
  simp only [Bool.and_eq_true, decide_eq_true_eq] at h
  exact ⟨h.1, h.2.1, h.2.2⟩
theorem op_inB (hu : b.X.A.units + 70 < cLine) (neg : Bool) : OpR b.X (compareOp (if neg then .NotIn else .In)) (rD2 b (dIn neg)) := by
  intro pins s σ H x y v u Q I rx ry h
  obtain ⟨N, F, E, σ', d, e, QB, ok, r1, r2, hf, k⟩ := h
  have fin : ∀ {w : Bool} {t : Nat}, QB (.fr (.bl w)) → EP b.X pins σ Q (.bool w) { s with toks := t } := fun {w t} q => ⟨.bl w, H, I.tok _, rfl, k F _ _ H (Same.refl F) (ok.push rep_bl) q⟩
  cases e with
  | lst ds =>
    obtain ⟨h1, h2, q⟩ := hf
    obtain ⟨l1, l2, l3⟩ := eqs_lay h2
    unfold canA at h1
    rw [Bool.and_eq_true] at h1
    obtain ⟨as, q1, _⟩ := RepT.reads I (ok.smAt I) ok.sub d x v l1 r1 rx
    obtain ⟨bs, q2, _⟩ := RepT.reads I (ok.smAt I) ok.sub (.lst ds) y u (by rw [D.pure]; exact h1.1) r2 ry
    have q2 : Reads s.heap u (.list (D.pyA ds)) bs := by rw [D.py] at q2; exact q2
    have hd : b.X.A.units + 1 + min (PyData.depthAll (D.pyA ds)) d.py.depth < cLine := by
      have := Nat.min_le_right (PyData.depthAll (D.pyA ds)) d.py.depth
      omega
    cases neg with
    | false => exact SeqAt.in_list_reads q2 q1 h1.2 l2 hd (fin (t := s.toks) (by simpa using q))
    | true => exact SeqAt.notIn_list_reads q2 q1 h1.2 l2 hd (fin (t := s.toks) (by simpa using q))
  | tup ds =>
    obtain ⟨h1, h2, q⟩ := hf
    obtain ⟨l1, l2, l3⟩ := eqs_lay h2
    unfold canA at h1
    rw [Bool.and_eq_true] at h1
    obtain ⟨as, q1, _⟩ := RepT.reads I (ok.smAt I) ok.sub d x v l1 r1 rx
    obtain ⟨bs, q2, _⟩ := RepT.reads I (ok.smAt I) ok.sub (.tup ds) y u (by rw [D.pure]; exact h1.1) r2 ry
    have q2 : Reads s.heap u (.tuple (D.pyA ds)) bs := by rw [D.py] at q2; exact q2
    have hd : b.X.A.units + 1 + min (PyData.depthAll (D.pyA ds)) d.py.depth < cLine := by
      have := Nat.min_le_right (PyData.depthAll (D.pyA ds)) d.py.depth
      omega
    cases neg with
    | false => exact SeqAt.in_tuple_reads q2 q1 h1.2 l2 hd (fin (t := s.toks) (by simpa using q))
    | true => exact SeqAt.notIn_tuple_reads q2 q1 h1.2 l2 hd (fin (t := s.toks) (by simpa using q))
  | str j =>
    cases d with
    | str i =>
      have hf : QB (.fr (.bl (neg ^^ inS i j))) := hf
      have r1 := t_str r1
      have r2 := t_str r2
      subst r1 r2
      cases neg with
      | false => exact op_in_str pins s σ H _ _ v u Q I rx ry ⟨i, j, rfl, rfl, k F _ _ H (Same.refl F) (ok.push rep_bl) (by simpa [inS] using hf)⟩
      | true => exact op_notIn_str pins s σ H _ _ v u Q I rx ry ⟨i, j, rfl, rfl, k F _ _ H (Same.refl F) (ok.push rep_bl) (by simpa [inS] using hf)⟩
    | _ => exact False.elim hf
  | dic kvs =>
    obtain ⟨h1, q⟩ := hf
    obtain ⟨q', o, rfl, ho, z, hr⟩ := r2
    cases ry
    have rd : Rep b.lb F d x := by
      rcases keyFit_cases h1 with ⟨z, rfl, _⟩ | ⟨ds, nk, rfl, _⟩
      · exact r1
      · exact r1
    rcases key_at I ok.sub (ext_at I ho) hr h1 rd rx with ⟨z', t', us, e1, e2, e3, e4⟩ | ⟨nk, ka, xs, e1, e2, e3, e4, e5, e6⟩
    · subst e1 e2
      have hv : (valueAt us z').isSome = (dFind kvs (.str z')).isSome := by
        have := repS_find (z := z') e4
        cases q : dFind kvs (.str z') with
        | none => rw [q] at this; rw [this] <;> rfl
        | some d => rw [q] at this; obtain ⟨u, v, h, _⟩ := this; rw [h] <;> rfl
      cases neg with
      | false => exact wpAny_in_of (strKind_is _ _ _ _) z e3.mapOf (by rw [hv]; exact fin (by simpa using q))
      | true => exact wpAny_notIn_of (strKind_is _ _ _ _) z e3.mapOf (by rw [hv]; exact fin (by simpa using q))
    · subst e2 e3
      have hv : (atKey xs nk).isSome = (dFind kvs d).isSome := by
        have := repX_find e1 e6
        cases q : dFind kvs d with
        | none => rw [q] at this; rw [this] <;> rfl
        | some d => rw [q] at this; obtain ⟨ka, u, v, h, _⟩ := this; rw [h] <;> rfl
      have hrm : (nestedKind b.X.prog b.X.w).room b.X.A.in1 := by show b.X.A.units + 1 + 8 < cLine; omega
      cases neg with
      | false => exact wpAny_in_heap hrm e4 z e5 (by rw [hv]; exact fin (by simpa using q))
      | true => exact wpAny_notIn_heap hrm e4 z e5 (by rw [hv]; exact fin (by simpa using q))
  | _ => exact False.elim hf

theorem Gd.u70 (g : Gd b Nm tbl gl k) : b.X.A.units + 70 < cLine := by have := g.rm.un; omega
theorem be_in (g : Gd b Nm tbl gl k) (ha : BLe b a ta) (hc : BOp b c tb) (hm : behindInMarks .In c = false := by rfl) : BE b (.Compare a [.In] [c] pos) (bBin (dIn false) ta tb) := be_cmp (op_inB g.u70 false) op2_D ha hc hm
theorem be_notIn (g : Gd b Nm tbl gl k) (ha : BLe b a ta) (hc : BOp b c tb) (hm : behindInMarks .NotIn c = false := by rfl) : BE b (.Compare a [.NotIn] [c] pos) (bBin (dIn true) ta tb) := be_cmp (op_inB g.u70 true) op2_D ha hc hm

/-! ### subscripts, dicts too -/
def dIxA : F2 := fun x y Q => match x with
  | .dic kvs => keyFit y kvs = true ∧ ∃ d, dFind kvs y = some d ∧ Q (.fr d)
  | _ => dIx x y Q
theorem ix_dic (hu : b.X.A.units + 70 < cLine) : IxR b.X (rD2 b dIxA) := by
  intro value slice pins s σ H x y v u Q I rx ry h hs
  obtain ⟨N, F, E, σ', d, e, QB, ok, r1, r2, hf, k⟩ := h
  cases d with
  | dic kvs =>
    obtain ⟨h1, d, hd, q⟩ := hf
    obtain ⟨q', o, rfl, ho, z, hr⟩ := r1
    cases rx
    have rd : Rep b.lb F e y := by
      rcases keyFit_cases h1 with ⟨z, rfl, _⟩ | ⟨ds, nk, rfl, _⟩
      · exact r2
      · exact r2
    have hT : s.TypeIs (.ref q') "dict" := by
      have he : o.cls = .type "dict" := by
        obtain ⟨_, ⟨us, ⟨_, _, hx, _⟩, _⟩ | ⟨xs, ⟨_, _, hx, _⟩, _⟩⟩ := hr
        · exact hx.1
        · exact hx.1
      exact ⟨o, ext_at I ho, he⟩
    refine tail_any hT PySem.F.slot_dict_getitem.lookup ?_ hs
    rcases key_at I ok.sub (ext_at I ho) hr h1 rd ry with ⟨z', t', us, e1, e2, e3, e4⟩ | ⟨nk, ka, xs, e1, e2, e3, e4, e5, e6⟩
    · subst e1 e2
      have := repS_find (z := z') e4
      rw [hd] at this
      obtain ⟨w, v, hw, rv, rd⟩ := this
      exact wpAny_getItem_of (strKind_is _ _ _ _) e3.mapOf hw ⟨v, H, I.tok _, rv, k F _ _ H (Same.refl F) (ok.push rd) q⟩
    · subst e2 e3
      have := repX_find e1 e6
      rw [hd] at this
      obtain ⟨kb, w, v, hw, rv, rd⟩ := this
      have hrm : (nestedKind b.X.prog b.X.w).room b.X.A.in1 := by show b.X.A.units + 1 + 8 < cLine; omega
      exact wpAny_getItem_heap hrm e4 e5 hw ⟨v, H, I.tok _, rv, k F _ _ H (Same.refl F) (ok.push rd) q⟩
  | _ => exact ix_seq value slice pins s σ H x y v u Q I rx ry (op2_ix N F E σ' H _ _ x y QB Q ok r1 r2 hf k) hs
theorem be_ix (g : Gd b Nm tbl gl k) (ha : BLe b a ta) (hc : BOp b c tb) (hs : PlainIx c := by intro _ _; rfl) : BE b (.Subscript a c pos) (bBin dIxA ta tb) := pe_weak (pe_ix (ix_dic g.u70) ha hc hs) (bin_low op2_D)

/-! ### d[k] = v, d the dict of slot i -/
def rPutB (b : Bx) : TSet := fun o y v H Q => ∃ N F E σ i p kvs k d, o = .ref p ∧ Ok b.lb N F E σ H ∧ E.r[i]? = some (.ow (.dic kvs)) ∧ σ[i]? = some (some (.ref p)) ∧ Rep b.lb F k y ∧ Rep b.lb F d v ∧ keyFit k kvs = true ∧ kvs.length < sizeLine ∧
  ∀ H', Ok b.lb N F ⟨E.r.set i (.ow (.dic (dPut kvs k d))), E.m⟩ σ H' → Q H'
def rPut0 (b : Bx) : TSet := fun o y v H Q => ∃ F p ob kvs k d, o = .ref p ∧ Same F H ∧ H p = some (dO p ob) ∧ (p == sysModules) = false ∧ DicR b.lb F kvs ob ∧ Rep b.lb F k y ∧ Rep b.lb F d v ∧ keyFit k kvs = true ∧ kvs.length < sizeLine ∧
  ∀ ob', DicR b.lb F (dPut kvs k d) ob' → Q (upd H p (dO p ob'))
theorem set_dic0 (hu : b.X.A.units + 70 < cLine) : PSet b.X (rPut0 b) := by
  intro pins s σ H o y v ov iv u Q I ro ry rv h
  obtain ⟨F, p, o, kvs, k, d, rfl, sF, ho, z, hr, rk, rd, hf, hz, q⟩ := h
  cases ro
  have hl := hr.1
  rcases key_at I sF (ext_at I ho) hr hf rk ry with ⟨z', t', us, e1, e2, e3, e4⟩ | ⟨nk, ka, xs, e1, e2, e3, e4, e5, e6⟩
  · subst e1 e2
    have lus : us.length = kvs.length := by
      have : ∀ (kvs : KV2) (us : List (Str × Value)), RepS b.lb F kvs us → us.length = kvs.length := by
        intro kvs
        induction kvs with
        | nil => intro us h; rw [RepS] at h; subst h; rfl
        | cons kv kvs ih =>
          intro us h
          obtain ⟨k, d⟩ := kv
          rw [RepS] at h
          obtain ⟨x, u, v, us', e1, _, _, _, h2⟩ := h
          subst e1
          simp [ih us' h2]
      exact this kvs us e4
    refine wpAny_setItem_pairs (hsz := by omega) (strKind_is _ _ _ _) e3 fun h' dd' hs => ?_
    obtain ⟨o', ho', hd'⟩ := Heap.dictOf_iff.mp dd'
    have I2 : Inv b.X pins σ (upd H p (dO p o')) { s with heap := h', toks := s.toks + 1 } := d_write I (by rw [ho]; exact True.intro) hs ⟨o', ho'⟩ ⟨ho', ⟨_, ho'⟩, fun h1 h2 z k => k _ z⟩
    refine ⟨_, I2, q o' ⟨?_, .inl ⟨_, hd', repS_put rv rd e4⟩⟩⟩
    have := dPut_len kvs (.str z') d
    omega
  · subst e2 e3
    have hrm : (nestedKind b.X.prog b.X.w).room b.X.A.in1 := by show b.X.A.units + 1 + 8 < cLine; omega
    have lus : xs.length = kvs.length := by
      have : ∀ (kvs : KV2) (us : List (NestedKey × Addr × Value)), RepX b.lb F kvs us → us.length = kvs.length := by
        intro kvs
        induction kvs with
        | nil => intro us h; rw [RepX] at h; subst h; rfl
        | cons kv kvs ih =>
          intro us h
          obtain ⟨k, d⟩ := kv
          rw [RepX] at h
          obtain ⟨x, u, v, w, us', e1, _, _, _, _, h2⟩ := h
          subst e1
          simp [ih us' h2]
      exact this kvs xs e6
    refine wpAny_setItem_heap (hsz := by omega) hrm e4 e5 fun h' dd' hs => ?_
    obtain ⟨o', es, ep, ho', h2, h3, h4, h5, h6⟩ := dd'
    have I2 : Inv b.X pins σ (upd H p (dO p o')) { s with heap := h', toks := s.toks + (nestedKind b.X.prog b.X.w).draws nk } := d_write I (by rw [ho]; exact True.intro) hs ⟨o', ho'⟩ ⟨ho', ⟨_, ho'⟩, fun h1 h2 z k => k _ z⟩
    refine ⟨_, I2, q o' ⟨?_, .inr ⟨_, ⟨es, ep, h2, h3, h4, h6, fun x hx => (h5 x hx).2⟩, repX_put e1 rk rv rd e6⟩⟩⟩
    have := dPut_len kvs k d
    omega
theorem pset_weak {X : Cx} {t t' : TSet} (h : PSet X t) (w : ∀ o i v H Q, t' o i v H Q → t o i v H Q) : PSet X t' := fun pins s σ H o i v ov iv u Q I r1 r2 r3 q => h pins s σ H o i v ov iv u Q I r1 r2 r3 (w o i v H Q q)
theorem set_dic (hu : b.X.A.units + 70 < cLine) : PSet b.X (rPutB b) := pset_weak (set_dic0 hu) fun o y v H Q ⟨N, F, E, σ', i, p, kvs, k, d, e, ok, hi, hp, rk, rd, hf, hz, q⟩ => by
  obtain ⟨p', hp', ⟨o, ho, z, hr⟩, hF, hN, hm⟩ := ok.ow i _ hi
  rw [hp] at hp'
  cases hp'
  exact ⟨F, p, o, kvs, k, d, e, ok.sub, ho, z, hr, rk, rd, hf, hz, fun ob' h' => q _ (ok.write hi hp ⟨ob', upd_same, z, h'⟩)⟩
def bPutD (i : Nat) (tk tv : BO) : BS := fun Dn X E => tv E (fun v E1 => (∃ o, E1.r[i]? = some (.ow o)) ∧ tk E1 (fun k E2 => ∃ kvs, E2.r[i]? = some (.ow (.dic kvs)) ∧ keyFit k kvs = true ∧ kvs.length < sizeLine ∧ Dn.nx ⟨E2.r.set i (.ow (.dic (dPut kvs k v))), E2.m⟩) X) X
theorem bs_putD (g : Gd b Nm tbl gl k) {o i : Expr} {n : Nat} {tk tv : BO} {pos' : Pos} (ho : PE b.X o (tVar n)) (hi : BV b i tk) (hv : BV b e tv) (hs : swapsWithSole [.Subscript o i pos'] e pos.line b.X.env = pure false := by rfl) (hw : swappedStores [.Subscript o i pos'] e b.X.env = pure none := by rfl)
    (ha : ∀ v, assign (.Subscript o i pos') b.X.env v = (do
      let ov ← holding [v] (eval o b.X.env)
      let iv ← holding [v, ov] (eval i b.X.env)
      standAt pos'
      holding [v, ov, iv] (setItem ov iv v)
      release [v, ov, iv] []) := by intro _; rfl) (h1 : (assignEach [.Subscript o i pos'] b.X.env).map (·.2) = [assign (.Subscript o i pos') b.X.env] := by rfl) : BSt b (.Assign [.Subscript o i pos'] e pos) (bPutD n tk tv) :=
  ps_weak (ps_asg hv (pg_sub ho hi (set_dic g.u70) ha) hs hw h1) fun D σ H ⟨N, F, E, DB, XB, ok, ht, h1, h2, h3, h4, hX⟩ =>
    ⟨N, F, E, _, XB, ok, ht, fun F1 E1 v x H1 s1 ok1 r1 q1 => by
      -- the name's value first, then the key
      obtain ⟨⟨o, ho⟩, q1⟩ := q1
      obtain ⟨p, hp, _⟩ := ok1.ow n o ho
      exact ⟨.ref p, hp, N, F1, E1, _, XB, ok1, q1, fun F2 E2 kk y H2 s2 ok2 r2 ⟨kvs, e1, e2, e3, q2⟩ =>
        ⟨N, F2, E2, σ, n, p, kvs, kk, v, rfl, ok2, e1, hp, r2, Rep.mono s2 _ _ r1, e2, e3, fun H' ok3 => h1 F2 _ σ H' (s1.trans s2) ok3 q2⟩, hX.go s1⟩, hX⟩
end
end B
/-! BDic3: sorted, list of a dict, new dicts. -/
namespace B
open PySem PySem.Spec PyProof.Rows L2
section
variable {b : Bx} {a c e : Expr} {pos p : Pos} {t tb : BO} {ta : BL} {Nm : List Str} {tbl : List (Nat × Str)} {gl : List Str} {k : Nat} {pins : List (Addr × Obj)} {σ σ' : L2.St} {N : Nh} {F H : Hp} {E : En} {s : Shared}

/-! ### sorted -/
def VD (b : Bx) (F : Hp) (v : Value) (d : D) : Prop := ∃ x : V, RelV x v ∧ Rep b.lb F d x
theorem vd_of : ∀ {ds : List D} {vs : List V} {us : List Value}, RepA b.lb F ds vs → Vals vs us → PySem.W.EachIs (VD b F) us ds
  | [], vs, us, h, r => by rw [RepA] at h; subst h; cases r; exact .nil
  | d :: ds, vs, us, h, r => by
    rw [RepA] at h
    obtain ⟨v, vr, e, h1, h2⟩ := h
    subst e
    cases r with
    | cons r1 r2 => exact .cons ⟨v, r1, h1⟩ (vd_of h2 r2)
theorem vd_to : ∀ {ds : List D} {us : List Value}, PySem.W.EachIs (VD b F) us ds → ∃ vs, RepA b.lb F ds vs ∧ Vals vs us
  | [], _, .nil => ⟨[], repA_nil, .nil⟩
  | d :: ds, _, .cons ⟨x, r1, h1⟩ t => by
    obtain ⟨vs, h2, r2⟩ := vd_to t
    exact ⟨x :: vs, repA_cons h1 h2, .cons r1 r2⟩
theorem vd_reads (I : Inv b.X pins σ H s) (hS : SmAt s) (sF : Same F H) : ∀ {ds : List D} {us : List Value}, D.pureA ds = true → PySem.W.EachIs (VD b F) us ds → PySem.W.EachIs (fun v d => ∃ as, Reads s.heap v (D.py d) as) us ds
  | [], _, _, .nil => .nil
  | d :: ds, _, p, .cons ⟨x, r1, h1⟩ t => by
    have p : (D.pure d && D.pureA ds) = true := p
    rw [Bool.and_eq_true] at p
    obtain ⟨as, h, _⟩ := Rep.reads I hS sF d x _ p.1 h1 r1
    exact .cons ⟨as, h⟩ (vd_reads I hS sF p.2 t)
/-- what sorted asks -/
structure SortOk (ds : List D) : Prop where
  pure : D.pureA ds = true
  alike : PySem.W.AllAlike (ds.map D.py)
  able : PySem.W.Sortable (ds.map D.py)
  len : ds.length ≤ sizeLine
  depth : ∀ d ∈ ds, d.py.depth ≤ 60
abbrev srt (ds : List D) : List D := ds.mergeSort (PySem.W.dataLe false D.py)
def dSorted : F1 := fun d Q => match d with
  | .lst ds => SortOk ds ∧ Q (.ow (.lst (srt ds)))
  | .dic kvs => SortOk (kvs.map (·.1)) ∧ Q (.ow (.lst (srt (kvs.map (·.1)))))
  | _ => False
theorem srt_len (ds : List D) : (srt ds).length = ds.length := (List.mergeSort_perm ds _).length_eq
theorem cb_sorted (hc : b.X.calm = true) (hu : b.X.A.units + 70 < cLine) : CallR b.X (.builtin "sorted") (rD1 b dSorted) := by
  intro pins s σ H xs us Q I r h
  obtain ⟨N, F, E, σ', d, x, QB, rfl, ok, rx, hf, k⟩ := h
  obtain ⟨u, rfl, ru⟩ := vals1 r
  cases d with
  | lst ds =>
    obtain ⟨so, q⟩ := hf
    obtain ⟨a, vs, rfl, h1, h2⟩ := rx
    cases ru
    obtain ⟨its, rv, pl, hz⟩ := I.list (.inl (.inl h1))
    have ve := vd_of h2 rv
    refine PySem.W.sorted_data (bs := ds) (R := VD b F) (enc := D.py) pl.isList ve (vd_reads I (ok.smAt I) ok.sub so.pure ve) so.alike so.able so.len (fun d hd => by have := so.depth d hd; omega) fun out ho eo => ?_
    obtain ⟨vs', h3, r3⟩ := vd_to eo
    obtain ⟨ep, he'⟩ := PyProof.Rows.sortedAll_at s.heap its out.toArray
    have hl : vs'.length ≤ sizeLine := by rw [← repA_len h3, srt_len]; exact so.len
    exact ⟨.ref _, upd H (s.heap.objs.size + 1) (.lst vs'), I.laid (t' := s.toks) (fun _ _ => PyProof.Rows.sortedAll_old) (Nat.le_succ _) ⟨hl, out, ep, r3, he'⟩, rfl,
      k F _ _ _ (Same.refl F) (res_lst ok h3 (I.hok.fresh (Nat.le_succ _))) q⟩
  | dic kvs =>
    obtain ⟨so, q⟩ := hf
    obtain ⟨a, o, rfl, ho, z, hr⟩ := rx
    cases ru
    obtain ⟨es, ep, hx, hd, hsz, hkey⟩ := keys_of (q := a) hr
    have hlen : es.size ≤ sizeLine := by rw [hsz]; exact hr.1
    refine Calls.call_function_entry PyProof.Rows.kind_sorted PyProof.Rows.plain_sorted PyProof.Rows.entry_sorted (PyProof.Rows.args_sorted1 _) ?_
    unfold Builtin.«sorted»
    refine wpAny_bind (m := checkCount "sorted" 1 1 _) (wpAny_pure ?_)
    refine wpAny_bind (PySem.W.kdu_collect (A := b.X.A.in1) (PySem.KdlSrc.rawDict (d := a) (es := es) (ep := ep) z) (I.ok.hd hc) ⟨o, ext_at I ho, hx, hd⟩ hlen fun h' tk acc hk hacc => ?_)
    have hal : acc.toList.length = kvs.length := by rw [Array.length_toList, hacc.1, hsz]
    have hv : PySem.W.EachIs (VD b F) acc.toList (kvs.map (·.1)) := by
      have go : ∀ (us : List Value) (ds : List D), us.length = ds.length → (∀ (j : Nat) (v : Value), us[j]? = some v → ∃ d, ds[j]? = some d ∧ VD b F v d) → PySem.W.EachIs (VD b F) us ds := by
        intro us
        induction us with
        | nil => intro ds hl _; cases ds with
          | nil => exact .nil
          | cons _ _ => cases hl
        | cons u us ih =>
          intro ds hl hj
          cases ds with
          | nil => cases hl
          | cons d ds =>
            obtain ⟨d', e, hd⟩ := hj 0 u rfl
            cases e
            exact .cons hd (ih ds (by simpa using hl) fun j v e => hj (j + 1) v e)
      refine go _ _ (by rw [hal, List.length_map]) fun j v hj => ?_
      obtain ⟨hi, ev⟩ := hacc.2 j v (by rw [← Array.getElem?_toList]; exact hj)
      obtain ⟨kk, d, x, e1, e2, e3, _⟩ := hkey j es[j] (by simp [hi])
      exact ⟨kk, by rw [List.getElem?_map, e1]; rfl, x, by rw [ev]; exact e2, e3⟩
    have I1 : Inv b.X pins σ H { s with heap := h', toks := tk } := I.kept hk
    refine wpAny_bind (wpAny_newList ?_ (by rw [hal]; exact hr.1))
    have hoL : (h'.push (seqObj "list" acc.toList.toArray 0)).get? h'.objs.size = some (seqObj "list" acc.toList.toArray 0) := Heap.get?_push_size _ rfl
    show wpAny _ _ _ _ _ { s with heap := h'.push (seqObj "list" acc.toList.toArray 0), toks := tk }
    have ok1 := ok
    have hS1 : SmAt { s with heap := h', toks := tk } := ok1.smAt I1
    have rds := vd_reads I1 hS1 ok.sub so.pure hv
    have rds2 : PySem.W.EachIs (fun v d => ∃ as, Reads (h'.push (seqObj "list" acc.toList.toArray 0)) v (D.py d) as ∧ h'.objs.size ∉ as) acc.toList (kvs.map (·.1)) := rds.mono fun v d ⟨as, q⟩ => ⟨as, PyProof.Rows.Reads.keeps (fun _ _ => Heap.get?_push_of_some _) q, fun hm => by
      obtain ⟨o2, ho2⟩ := PyProof.On.reads_mem_get q _ hm
      exact absurd (Heap.lt_size ho2) (Nat.lt_irrefl _)⟩
    refine wpAny_bind (wpAny_holding (PySem.W.list_sort_data (s := { s with heap := h'.push (seqObj "list" acc.toList.toArray 0), toks := tk }) (bs := kvs.map (·.1)) (R := VD b F) (enc := D.py) hoL hv rds2 so.alike so.able so.len (fun d hd => by have := so.depth d hd; show b.X.A.units + 1 + 1 + _ < cLine; omega) fun out hlo eo => ?_))
    obtain ⟨vs', h3, r3⟩ := vd_to eo
    obtain ⟨e', he'⟩ := PyProof.Rows.sortedHeap_at (vs := acc.toList) (out := out.toArray) hoL
    have hl : vs'.length ≤ sizeLine := by rw [← repA_len h3, srt_len, List.length_map]; exact hr.1
    refine wpAny_pure ⟨_, rfl, .ref h'.objs.size, upd H h'.objs.size (.lst vs'), I1.laid (t' := tk) (fun b u e => ?_) (Nat.le_refl _) ⟨hl, out, e', r3, he'⟩, rfl,
      k F _ _ _ (Same.refl F) (res_lst ok h3 (I1.hok.fresh (Nat.le_refl _))) q⟩
    have hb : b < h'.objs.size := Heap.lt_size e
    rw [PyProof.Rows.sortedHeap_old (Nat.ne_of_lt hb) (by rw [Heap.size_push]; exact Nat.lt_succ_of_lt hb)]
    exact Heap.get?_push_of_some _ e
  | _ => exact False.elim hf
theorem be_sorted (g : Gd b Nm tbl gl k) (hg : Gl b.X "sorted") (hm : b.X.mg "sorted" = none) (ha : BOp b e t) (he : starEach [e] b.X.env = [(false, eval e b.X.env)] := by rfl) : BE b (.Call (.Name "sorted" p) [e] [] pos) (bUn dSorted t) :=
  be_b1 (cb_sorted g.calm g.u70) op1_D hg hm boot_sorted ha (he := he)
end
end B
/-! BDc: dict comprehensions over data. -/
namespace B
open PySem PySem.Spec PyProof.Rows L2
abbrev emptyO : Obj := { cls := .type "dict", data := .dict #[] }
/-- what a comprehension's store is to do, by values -/
abbrev TDs := V → V → Addr → Hp → (Hp → Prop) → Prop
def PDs (X : Cx) (t : TDs) : Prop := ∀ (pins : List (Addr × Obj)) (s : Shared) (σ : L2.St) (H : Hp) (y z : V) (u r : Value) (D : Addr) (Q : Hp → Prop) (E : Value → Shared → Prop), Inv X pins σ H s → RelV y u → RelV z r → t y z D H Q →
  wpAny (model X.prog X.w) X.A (dictSet D u r) (fun _ s' => ∃ H', Inv X pins σ H' s' ∧ Q H') E s
/-- {k: v for tg in iter if ..} -/
def tDx (wi : TI) (g : TG) (tt : TT) (tk tv : TE) (st : TDs) (ws : List Nat) : TE := fun σ H Q => wi σ H fun J H1 => ∀ D, H1 D = none → (D == sysModules) = false → ∃ W : Nat → Nat → Hp → Prop, (∃ m, W 0 m (upd H1 D (dO D emptyO))) ∧ ∀ i m H, W i m H →
  (J.stop i H ∧ Q (.ref D) H) ∨ (J.go i H ∧ ∃ Nx : Hp → Prop, (∀ H', Nx H' → ∃ m', m' < m ∧ W (i + 1) m' H') ∧ ∀ x H', J.yld i H x H' → g x (wipe σ ws) H' fun σ2 H2 => wipe σ2 ws = wipe σ ws ∧ tt σ2 H2 fun k H3 =>
    if k = true then tk σ2 H3 fun y H4 => tv σ2 H4 fun z H5 => st y z D H5 Nx else Nx H3)
section
variable {X : Cx} {kx vx tg iter : Expr} {ifs : List Expr} {scope : Scope} {own : List (Str × Nat)} {pos : Pos} {wi : TI} {g : TG} {tt : TT} {tk tv : TE} {st : TDs}
abbrev Blks (X : Cx) (scope : Scope) (P : Cx → Prop) : Prop := ∀ (s : Shared) (H : Hp) (C : Addr) (cl : List (Str × Addr)) (fp : List Addr), P (X.blk s H scope (compEnvC scope cl C X.env) fp)
theorem pe_dx (hc : X.calm = true) (hN : X.N.Nodup) (hi : PI X tg iter wi) (ok : BlkOk X.N X.env.scope scope own) (hg : Blks X scope fun Y => PG Y tg g) (ht : Blks X scope fun Y => PTs Y ifs tt) (hk : Blks X scope fun Y => PE Y kx tk)
    (he : Blks X scope fun Y => PE Y vx tv) (hd : Blks X scope fun Y => PDs Y st) (hs : ∀ x, foldedSetIterable iter X.env x = pure x := by intro _; rfl) : PE X (.DictComp kx vx [⟨tg, iter, ifs, 0⟩] scope pos) (tDx wi g tt tk tv st (own.map (·.2))) := by
  refine ⟨fun pins s σ H Q I h => ?_⟩
  rw [arm_eval_DictComp]
  have hfree : ∀ y ∈ scope.names, y.2 = .free → ∃ c, X.env.cells.lookup y.1 = some c := fun y hy e => (ok.free y hy e).elim (fun k => I.ok.has _ (.inl k)) fun k => I.ok.has _ (.inr k)
  refine wpAny_comprehension_free rfl hs (closure_ok hfree) ok.kind (fun y hy e => by rw [ok.uniq y hy, e]) (thn (hi.run pins s σ H _ I h) fun xv sa hx => thn hx fun itv sb hb => ?_)
  obtain ⟨it, fp, tn, J, Hb, e, Ib, T, stb, fb, q⟩ := hb
  subst e
  refine wpAny_newObj_type (newEnv_comp ?_)
  generalize hD : sb.heap.objs.size = D
  have nD : Hb D = none := Ib.hok.fresh (Nat.le_of_eq hD)
  obtain ⟨W, ⟨m₀, w₀⟩, turn⟩ := q D nD (by rw [← hD]; exact beq_eq_false_iff_ne.mpr (Nat.ne_of_gt Ib.big))
  generalize hsc : ({ sb with heap := sb.heap.push emptyO } : Shared) = sc
  have eD : (sb.heap.push emptyO).get? D = some emptyO := by rw [← hD]; exact Heap.get?_push_size _ rfl
  have Ic : Inv X pins σ (upd Hb D (dO D emptyO)) sc := by
    rw [← hsc]
    exact Ib.laid (t' := sb.toks) (fun b o e => Heap.get?_push_of_some _ e) (Nat.le_of_eq hD) ⟨eD, ⟨_, eD⟩, fun _ _ z k => k _ z⟩
  have hc3 : sc.heap = sb.heap.push emptyO := by rw [← hsc]
  have fsz : ∀ b ∈ fp, b < sb.heap.objs.size := fun b hb => let ⟨o, e, _⟩ := T.obj _ _ stb b hb; Heap.lt_size e
  have fc : ∀ b ∈ fp, FpOk X pins (upd Hb D (dO D emptyO)) b ∧ b < sc.heap.objs.size := fun b hb =>
    ⟨⟨by rw [upd_ne (by rw [← hD]; exact Nat.ne_of_lt (fsz b hb))]; exact (fb b hb).1, (fb b hb).2⟩, by rw [hc3, Heap.size_push]; exact Nat.lt_succ_of_lt (fsz b hb)⟩
  have stc : tn 0 sc.heap := T.keep _ _ _ stb fun b _ o e => by rw [hc3]; exact Heap.get?_push_of_some _ e
  have Id := block_start Ic ok hN fc
  have pg := hg sc (upd Hb D (dO D emptyO)) sc.heap.objs.size (cellsFrom (sc.heap.objs.size + 1) scope.names (cloFrom X.env.cells scope.names [])) fp
  have pt := ht sc (upd Hb D (dO D emptyO)) sc.heap.objs.size (cellsFrom (sc.heap.objs.size + 1) scope.names (cloFrom X.env.cells scope.names [])) fp
  have pk := hk sc (upd Hb D (dO D emptyO)) sc.heap.objs.size (cellsFrom (sc.heap.objs.size + 1) scope.names (cloFrom X.env.cells scope.names [])) fp
  have pe := he sc (upd Hb D (dO D emptyO)) sc.heap.objs.size (cellsFrom (sc.heap.objs.size + 1) scope.names (cloFrom X.env.cells scope.names [])) fp
  have pd := hd sc (upd Hb D (dO D emptyO)) sc.heap.objs.size (cellsFrom (sc.heap.objs.size + 1) scope.names (cloFrom X.env.cells scope.names [])) fp
  show codeAny _ _ (.compStart (.DictComp kx vx [⟨tg, iter, ifs, 0⟩] scope pos) 0 (.ref it) (.ref D) (compEnvC scope (cellsFrom (sc.heap.objs.size + 1) scope.names (cloFrom X.env.cells scope.names [])) sc.heap.objs.size X.env)) _ { sc with heap := pushCells (sc.heap.push { cls := .type "dict", data := .dict #[] }) scope.names }
  have nfp : ∀ b ∈ fp, (upd Hb D (dO D emptyO)) b = none := fun b hb => (fc b hb).1.1
  generalize hce : compEnvC scope (cellsFrom (sc.heap.objs.size + 1) scope.names (cloFrom X.env.cells scope.names [])) sc.heap.objs.size X.env = ce at Id pg pt pk pe pd ⊢
  have cL : ce.locals = sc.heap.objs.size := by subst hce; rfl
  generalize hHc : upd Hb D (dO D emptyO) = Hc at Ic Id pg pt pk pe pd w₀ nfp fc
  generalize hsd : ({ sc with heap := pushCells (sc.heap.push { cls := .type "dict", data := .dict #[] }) scope.names } : Shared) = sd at Id ⊢
  have std : tn 0 sd.heap := T.keep _ _ _ stc fun b _ o e => by rw [← hsd]; exact pushCells_keeps _ _ _ _ (Heap.get?_push_of_some _ e)
  have stat : ∀ {σ' : L2.St} {H' : Hp} {s' : Shared}, Inv (X.blk sc Hc scope ce fp) [] σ' H' s' → (∀ b ∈ fp, H' b = none) → ∀ b ∈ fp, FpOk (X.blk sc Hc scope ce fp) [] H' b := fun {σ' H' s'} J hn b hb =>
    ⟨hn b hb, (J.ok.exf b hb).1, J.ok.exfs b hb, .inl hb, fun x c e => (J.ok.exf b hb).2 x c e, fun p hp => absurd (show p ∈ ([] : List (Addr × Obj)) ++ [] from hp) (by simp)⟩
  refine codeAny_compStart_dict ?_ (T.self X.A 0 _ _ _ std ?_)
  all_goals
    refine compLoop_anyD (fun n s' => ∃ i H', Inv (X.blk sc Hc scope ce fp) [] (wipe σ (own.map (·.2))) H' s' ∧ tn i s'.heap ∧ (∀ b ∈ fp, H' b = none) ∧ W i n H') ?_ m₀ ⟨0, Hc, Id, std, nfp, w₀⟩
    rintro n se ⟨i, He, Ie, ste, ne, we⟩
    rcases turn i n He we with ⟨stop, qq⟩ | ⟨go, Nx, hNx, step⟩
    · refine thnF (T.done (X.blk sc Hc scope ce fp) rfl rfl rfl hc i [] se _ He (fun _ _ => False) Ie (stat Ie ne) ste stop) fun r sf ⟨hr, If⟩ => ?_
      subst hr
      have Ig : Inv X pins σ He sf := Ic.call' (ch := fp) If.os If.base If.hok If.bare fun b hb => ⟨(fc b hb).1.2.2.2.1, (fc b hb).1.2.1, (fc b hb).1.2.2.2.2.1, (fc b hb).1.2.2.2.2.2⟩
      have nC : He sc.heap.objs.size = none := by
        have z : He ce.locals = none := If.free
        rw [cL] at z; exact z
      obtain ⟨m, hn, _⟩ := If.loc
      have hn : sf.heap.Ns ce.locals m := hn
      rw [cL] at hn
      obtain ⟨f0, f1, f2, f3, f4, f5⟩ := Ic.fpOk (H' := He) (Nat.le_refl _) nC
      exact ⟨m, hn, fun h'' sb' => ⟨.ref D, He, Ig.turned (t' := sf.toks) (fun b o hb e => (sb'.2 b hb).trans e) f0 f1 f3 f4 f5, rfl, qq⟩⟩
    · refine thnF (T.item (X.blk sc Hc scope ce fp) rfl rfl rfl hc i [] se _ He (fun _ _ => False) Ie (stat Ie ne) ste go) fun r sf ⟨u, hr, hf⟩ => ?_
      subst hr
      refine thnF hf fun _ sg ⟨x, Hg, Ig, rg, yg, stg, ng⟩ => ?_
      have Ig' := Ig.pinned (stat Ig ng) (T.obj _ _ stg)
      refine thnF (pg.run _ sg _ Hg x u _ Ig' rg (step x Hg yg)) fun _ sh ⟨σh, Hh, Ih, hw, qh⟩ => thnF (pt.run _ sh σh Hh _ Ih qh) fun k si ⟨Hi, Ii, qi⟩ => ?_
      have fin : ∀ {s' : Shared} {H' : Hp}, Inv (X.blk sc Hc scope ce fp) ([] ++ pinsAt fp sg.heap) σh H' s' → Nx H' → ∃ m, m < n ∧ ∃ i H', Inv (X.blk sc Hc scope ce fp) [] (wipe σ (own.map (·.2))) H' s' ∧ tn i s'.heap ∧ (∀ b ∈ fp, H' b = none) ∧ W i m H' := fun {s' H'} I' nx => by
        obtain ⟨m', hm, w'⟩ := hNx H' nx
        have pin' : ∀ b ∈ fp, ∀ o, sg.heap.get? b = some o → s'.heap.get? b = some o ∧ H' b = none := fun b hb o e => by
          have z := I'.pin (b, o) (List.mem_append_right _ (List.mem_append_right _ (mem_pinsAt hb e)))
          exact ⟨z.1, z.2.1⟩
        refine ⟨m', hm, i + 1, H', (I'.unpinned (pins := [])).weak (by rw [← hw, wipe_length]) (fun j v e => ?_), T.keep _ _ _ stg fun b hb o e => (pin' b hb o e).1, fun b hb => ?_, w'⟩
        · rw [← hw] at e
          exact (wipe_some e).1
        · obtain ⟨o, e, _⟩ := T.obj _ _ stg b hb
          exact (pin' b hb o e).2
      cases k with
      | false =>
        simp only [Bool.false_eq_true, if_false] at qi ⊢
        exact fin Ii qi
      | true =>
        simp only [if_true] at qi ⊢
        exact thnF (pk.run _ si σh Hi _ Ii qi) fun z sj ⟨yk, Hj, Ij, rj, qj⟩ => thnF (pe.run _ sj σh Hj _ Ij qj) fun z2 sk ⟨yv, Hk, Ik, rk, qk⟩ =>
          wpAny_mono (pd _ sk σh Hk yk yv z z2 D Nx _ Ik rj rk qk) (fun _ sl ⟨Hl, Il, nx⟩ => fin Il nx) fun _ _ z => z
end
end B
/-! BDc2: dict comprehensions over data; results held back. -/
namespace B
open PySem PySem.Spec PyProof.Rows L2
section
variable {L : Lb} {N : Nh} {F F' H H' : Hp} {E : En} {σ : L2.St}
theorem Ok.unput {D : Addr} {ho : HO} (ok : Ok L (N.put D ho) F E σ H) (nk : NOk L.K N) (hN : N D = none) : Ok L N F E σ H := by
  have hD : (N.put D ho) D ≠ none := by show upd N.h D _ D ≠ none; rw [upd_same]; simp
  have nD : ∀ {a : Addr}, (N.put D ho) a = none → a ≠ D := fun {a} h e => by rw [e] at h; exact hD h
  have nn : ∀ {a : Addr}, (N.put D ho) a = none → N a = none := fun {a} h => by
    have h' : upd N.h D ho a = none := h
    rw [upd_ne (nD h)] at h'; exact h'
  refine ⟨ok.len, ok.sub, ok.fr, fun i u hi => ?_, ok.rd, ok.inj, fun x hx => ?_, ok.mnd, fun a x hx => ?_, nk, fun a ha => ?_⟩
  · obtain ⟨p, h1, h2, h3, h4, h5⟩ := ok.ow i u hi
    exact ⟨p, h1, h2, h3, nn h4, h5⟩
  · obtain ⟨h1, h2, h3⟩ := ok.mem x hx
    exact ⟨h1, h2, nn h3⟩
  · exact ok.nsub a x (by show upd N.h D _ a = some x; rw [upd_ne (ne_of_none hx hN)]; exact hx)
  · have e : a ≠ D := fun e => by rw [e] at ha; exact ha hN
    exact ok.ndis a (by show upd N.h D _ a ≠ none; rw [upd_ne e]; exact ha)
/-- the object that was held back is one's own again -/
theorem Ok.takeP {D : Addr} {ho : HO} {o : Ob} (ok : Ok L (N.put D ho) F E σ H) (nk : NOk L.K N) (hN : N D = none) (r : ObR L F H o D) : Ok L N F ⟨E.r ++ [.ow o], E.m⟩ (σ ++ [some (.ref D)]) H := by
  have hD : (N.put D ho) D ≠ none := by show upd N.h D _ D ≠ none; rw [upd_same]; simp
  refine (ok.unput nk hN).pushOw r (ok.ndis D hD) hN (fun hm => ?_) fun i u hi e => ?_
  · obtain ⟨x, hx, e⟩ := List.mem_map.mp hm
    have z := (ok.mem x hx).2.2
    rw [e] at z; exact hD z
  · obtain ⟨p, h1, _, _, h4, _⟩ := ok.ow i u hi
    rw [e] at h1
    cases h1
    exact hD h4
/-- a pending object of one's own is held back -/
theorem Ok.hold {o : Ob} {r : List Sl} {m : Mst} {v : V} (ok : Ok L N F ⟨r ++ [.ow o], m⟩ (σ ++ [some v]) H) : ∃ p ho, v = .ref p ∧ H p = some ho ∧ N p = none ∧ ObR L F H o p ∧ Ok L (N.put p ho) F ⟨r, m⟩ σ H := by
  have hl : r.length = σ.length := by have := ok.len; simpa using this
  obtain ⟨p, hp, hO, hF, hN, hm⟩ := ok.ow r.length o app_at
  rw [hl, app_at] at hp
  cases hp
  obtain ⟨x, hx⟩ := hO.there
  have ok0 : Ok L N F ⟨r, m⟩ σ H := ok.pop
  have nn : ∀ {a : Addr}, a ≠ p → N a = none → (N.put p x) a = none := fun {a} e h => by show upd N.h p x a = none; rw [upd_ne e]; exact h
  refine ⟨p, x, rfl, hx, hN, hO, ⟨ok0.len, ok0.sub, ok0.fr, fun i u hi => ?_, ok0.rd, ok0.inj, fun y hy => ?_, ok0.mnd, fun a y hy => ?_, ok0.lks.put hN, fun a ha => ?_⟩⟩
  · obtain ⟨q, h1, h2, h3, h4, h5⟩ := ok0.ow i u hi
    refine ⟨q, h1, h2, h3, nn (fun e => ?_) h4, h5⟩
    subst e
    have il : i < r.length := (List.getElem?_eq_some_iff.mp hi).1
    have := ok.inj i r.length u o q (by show (r ++ _)[i]? = _; rw [app_lo il]; exact hi) app_at (by rw [app_lo (by omega)]; exact h1) (by rw [hl, app_at])
    omega
  · obtain ⟨h1, h2, h3⟩ := ok0.mem y hy
    exact ⟨h1, h2, nn (fun e => hm (List.mem_map.mpr ⟨y, hy, e⟩)) h3⟩
  · have hy : upd N.h p x a = some y := hy
    by_cases e : a = p
    · rw [e, upd_same] at hy; cases hy; rw [e]; exact hx
    · rw [upd_ne e] at hy; exact ok0.nsub a y hy
  · have ha : upd N.h p x a ≠ none := ha
    by_cases e : a = p
    · rw [e]; exact hF
    · rw [upd_ne e] at ha; exact ok0.ndis a ha
end
/-! ### dict comprehensions -/
def dcRun (t : Tgt) (tst : BQ) (ky vl : BO) (ws : List Nat) : List D → KV2 → En → (KV2 → En → Prop) → Prop
  | [], acc, E, Q => Q acc E
  | d :: ds, acc, E, Q => t.set d E fun E1 => tst E1 (fun k E2 => if k = true then ky E2 (fun y E3 => vl E3 (fun z E4 => keyFit y acc = true ∧ acc.length < sizeLine ∧ dcRun t tst ky vl ws ds (dPut acc y z) (E4.wipe ws) Q) X0) X0 else dcRun t tst ky vl ws ds acc (E2.wipe ws) Q) X0
def bDc (src : BSrc) (t : Tgt) (tst : BQ) (ky vl : BO) (ws : List Nat) : BT := fun E Q X => src E (fun ds lk E1 => dcRun t tst ky vl ws ds [] (E1.wipe ws) fun acc E2 => unlk lk E2 fun E3 => Q (.ow (.dic acc)) E3) X
def rDs (L : Lb) : TDs := fun y z D H Nx => ∃ N F E σ acc o k d, Ok L (N.put D (dO D o)) F E σ H ∧ NOk L.K N ∧ N D = none ∧ DicR L F acc o ∧ Rep L F k y ∧ Rep L F d z ∧ keyFit k acc = true ∧ acc.length < sizeLine ∧
  ∀ o', DicR L F (dPut acc k d) o' → Ok L (N.put D (dO D o')) F E σ (upd H D (dO D o')) → Nx (upd H D (dO D o'))
theorem rS_len {L : Lb} {F : Hp} : ∀ {kvs : KV2} {us : List (Str × Value)}, RepS L F kvs us → us.length = kvs.length
  | [], us, h => by rw [RepS] at h; subst h; rfl
  | (k, d) :: r, us, h => by
    rw [RepS] at h
    obtain ⟨x, u, v, us', e1, _, _, _, h2⟩ := h
    subst e1
    simp [rS_len h2]
theorem rX_len {L : Lb} {F : Hp} : ∀ {kvs : KV2} {us : List (NestedKey × Addr × Value)}, RepX L F kvs us → us.length = kvs.length
  | [], us, h => by rw [RepX] at h; subst h; rfl
  | (k, d) :: r, us, h => by
    rw [RepX] at h
    obtain ⟨x, u, v, w, us', e1, _, _, _, _, h2⟩ := h
    subst e1
    simp [rX_len h2]
theorem ds_low {b : Bx} (hu : b.X.A.units + 70 < cLine) : PDs b.X (rDs b.lb) := by
  intro pins s σ H y z u r D Q Ex I ry rz ⟨N, F, E, σ', acc, o, k, d, ok, nk, hN, hr, rk, rd, hf, hz, q⟩
  have hl := ok.nsub D (dO D o) (by show upd N.h D _ D = _; rw [upd_same])
  have lks : ∀ x ∈ N.lk, x.2 ≠ D := fun x hx e => nk.at_ x hx (by rw [e]; exact hN)
  rcases key_at I ok.sub (ext_at I hl) hr hf rk ry with ⟨z', t', us, e1, e2, e3, e4⟩ | ⟨nk', ka, xs, e1, e2, e3, e4, e5, e6⟩
  · subst e1 e2
    refine wpAny_dictSet_pairs (hsz := by have := rS_len e4; omega) (strKind_is _ _ _ _) e3 fun h' dd' hs => ?_
    obtain ⟨o', ho', hd'⟩ := Heap.dictOf_iff.mp dd'
    have I2 : Inv b.X pins σ (upd H D (dO D o')) { s with heap := h', toks := s.toks + 1 } := d_write I (by rw [hl]; exact True.intro) hs ⟨o', ho'⟩ ⟨ho', ⟨_, ho'⟩, fun h1 h2 z k => k _ z⟩
    refine ⟨_, I2, q o' ⟨?_, .inl ⟨_, hd', repS_put rz rd e4⟩⟩ (ok.relaid nk hN lks)⟩
    have := dPut_len acc (.str z') d
    omega
  · subst e2 e3
    have hrm : (nestedKind b.X.prog b.X.w).room b.X.A := by show b.X.A.units + 8 < cLine; omega
    refine wpAny_dictSet_heap (hsz := by have := rX_len e6; omega) hrm e4 e5 fun h' dd' hs => ?_
    obtain ⟨o', es, ep, ho', h2, h3, h4, h5, h6⟩ := dd'
    have I2 : Inv b.X pins σ (upd H D (dO D o')) { s with heap := h', toks := s.toks + (nestedKind b.X.prog b.X.w).draws nk' } := d_write I (by rw [hl]; exact True.intro) hs ⟨o', ho'⟩ ⟨ho', ⟨_, ho'⟩, fun h1 h2 z k => k _ z⟩
    refine ⟨_, I2, q o' ⟨?_, .inr ⟨_, ⟨es, ep, h2, h3, h4, h6, fun x hx => (h5 x hx).2⟩, repX_put e1 rk rz rd e6⟩⟩ (ok.relaid nk hN lks)⟩
    have := dPut_len acc k d
    omega
theorem wipe_wipe {σ τ : L2.St} {ws : List Nat} (h : wipe σ ws = wipe (wipe τ ws) ws) : wipe σ ws = wipe τ ws := by
  rw [h]
  have go : ∀ {j : Nat} {vs : List Nat} {τ : L2.St}, j ∈ vs → (wipe τ vs)[j]? = if j < τ.length then some none else none := by
    intro j vs
    induction vs with
    | nil => intro τ h; cases h
    | cons w ws ih =>
      intro τ hm
      show ((wipe τ ws).set w none)[j]? = _
      by_cases hw : w = j
      · subst hw
        by_cases q : w < τ.length
        · rw [List.getElem?_set_self (by rw [wipe_length]; exact q), if_pos q]
        · rw [List.getElem?_eq_none (by rw [List.length_set, wipe_length]; omega), if_neg q]
      · rw [List.getElem?_set_ne hw]
        rcases List.mem_cons.mp hm with e | hm
        · exact absurd e.symm hw
        · exact ih hm
  apply List.ext_getElem?
  intro j
  by_cases hj : j ∈ ws
  · rw [go hj, go hj, wipe_length]
  · rw [wipe_out hj]
abbrev bx0 (b : Bx) : Bx := ⟨b.X, b.cl, fun _ _ _ _ => False⟩
theorem dc_low {b : Bx} {src : BSrc} {t : Tgt} {tst : BQ} {ky vl : BO} {ws : List Nat} (hw : ∀ i ∈ t.ix, i ∈ ws) : ∀ σ H Q, lowE b (bDc src t tst ky vl ws) σ H Q →
    tDx (lowC b src) (t.low b.X.K) (lowQ (bx0 b) tst) (lowV (bx0 b) ky) (lowV (bx0 b) vl) (rDs b.lb) ws σ H Q := fun σ H Q ⟨N, F, E, QB, XB, ok, ht, hQ, hX⟩ => by
  refine ⟨N, F, E, _, XB, ok, ht, fun F1 N1 E1 ds lk H1 J s1 lr ok1 fd q => ?_, hX⟩
  intro D hD hsm
  have nD : N1 D = none := by
    cases e : N1 D with
    | none => rfl
    | some y => have := ok1.nsub D y e; rw [hD] at this; cases this
  have nk := ok1.lks
  have sN : ∀ {o : HO}, Same N1.h (N1.put D o).h := fun {o} => same_upd nD
  have dr0 : ∀ {F : Hp}, DicR b.lb F [] emptyO := fun {F} => ⟨Nat.zero_le _, .inl ⟨[], ⟨#[], 0, ⟨rfl, rfl, rfl⟩, rfl, (fun i hi => absurd hi (by simp)), .nil, List.nodup_nil⟩, by rw [RepS]⟩⟩
  let fin : KV2 → En → Prop := fun acc E2 => unlk lk E2 fun E3 => QB (.ow (.dic acc)) E3
  refine ⟨fun i m H => m = ds.length - i ∧ i ≤ ds.length ∧ ∃ F2 E2 acc o, Same F1 F2 ∧ Ok b.lb (N1.put D (dO D o)) F2 E2 (wipe σ ws) H ∧ DicR b.lb F2 acc o ∧ dcRun t tst ky vl ws (ds.drop i) acc E2 fin,
    ⟨_, rfl, Nat.zero_le _, F1, _, [], _, Same.refl _, (ok1.laid hD).wiped ws, dr0, by rw [List.drop_zero]; exact q⟩, ?_⟩
  rintro i m H ⟨rfl, hi, F2, E2, acc, o, s2, ok2, ra, q2⟩
  by_cases hlt : i < ds.length
  · refine .inr ⟨fd.go i _ F2 E2 _ H s2 sN ok2 hlt, fun H' => ∃ F3 E3 acc' o', Same F1 F3 ∧ Ok b.lb (N1.put D (dO D o')) F3 E3 (wipe σ ws) H' ∧ DicR b.lb F3 acc' o' ∧ dcRun t tst ky vl ws (ds.drop (i + 1)) acc' E3 fin,
      fun H' n => ⟨ds.length - (i + 1), by omega, rfl, hlt, n⟩, fun x H' hy => ?_⟩
    obtain ⟨F3, s3, ok3, rx⟩ := fd.yld i _ F2 E2 _ H x H' ds[i] s2 sN ok2 (by simp [hlt]) hy
    rw [List.drop_eq_getElem_cons hlt] at q2
    obtain ⟨E4, σ4, ok4, q4, lw, hwp⟩ := ok3.tgt rx q2
    have e4 : wipe σ4 ws = wipe σ ws := wipe_wipe (hwp ws hw)
    refine lw ⟨e4, N1.put D (dO D o), F3, E4, _, X0, ok4, q4, fun F5 E5 k H5 s5 ok5 q5 => ?_, fun _ _ _ _ _ _ _ _ _ _ z => z.elim⟩
    cases k with
    | false =>
      rw [if_neg Bool.false_ne_true]
      have q5 : dcRun t tst ky vl ws (ds.drop (i + 1)) acc (E5.wipe ws) fin := by
        have z : (if false = true then _ else _) := q5
        rw [if_neg Bool.false_ne_true] at z; exact z
      have ok6 := ok5.wiped ws
      rw [e4] at ok6
      exact ⟨F5, _, acc, o, (s2.trans s3).trans s5, ok6, ra.mono (s3.trans s5), q5⟩
    | true =>
      rw [if_pos rfl]
      have q5 : ky E5 (fun y E3 => vl E3 (fun z E4 => keyFit y acc = true ∧ acc.length < sizeLine ∧ dcRun t tst ky vl ws (ds.drop (i + 1)) (dPut acc y z) (E4.wipe ws) fin) X0) X0 := by
        have z : (if true = true then _ else _) := q5
        rw [if_pos rfl] at z; exact z
      refine ⟨N1.put D (dO D o), F5, E5, _, X0, ok5, q5, fun F6 E6 y v H6 s6 ok6 ry q6 => ?_, fun _ _ _ _ _ _ _ _ _ _ z => z.elim⟩
      refine ⟨N1.put D (dO D o), F6, E6, _, X0, ok6, q6, fun F7 E7 z v2 H7 s7 ok7 rz q7 => ?_, fun _ _ _ _ _ _ _ _ _ _ z => z.elim⟩
      obtain ⟨h1, h2, q7⟩ := q7
      have s37 := ((s3.trans s5).trans s6).trans s7
      refine ⟨N1, F7, E7, σ4, acc, o, y, z, ok7, nk, nD, ra.mono s37, Rep.mono s7 _ _ ry, rz, h1, h2, fun o' ho' ok8 => ?_⟩
      have ok9 := ok8.wiped ws
      rw [e4] at ok9
      exact ⟨F7, _, _, o', s2.trans s37, ok9, ho', q7⟩
  · have e : i = ds.length := by omega
    rw [e, List.drop_length] at q2
    refine .inl ⟨fd.stop i _ F2 E2 _ H s2 sN ok2 e, ?_⟩
    have q2 : unlk lk E2 fun E3 => QB (.ow (.dic acc)) E3 := q2
    have hH := ok2.nsub D (dO D o) (by show upd N1.h D _ D = _; rw [upd_same])
    have ok3 := (ok2.unwipe).takeP nk nD (o := .dic acc) ⟨o, hH, hsm, ra⟩
    cases lk with
    | none =>
      cases lr
      exact hQ F2 E2 _ _ H (s1.trans s2) ok3 q2
    | some j =>
      obtain ⟨p, ho, rfl, hp, hσ⟩ := lr
      obtain ⟨o, ho2, q2⟩ := q2
      have hj : j < E2.r.length := (List.getElem?_eq_some_iff.mp ho2).1
      have hj2 : j < σ.length := (List.getElem?_eq_some_iff.mp hσ).1
      have ok4 := ok3.unlock ok.lks hp (by rw [app_lo hj2]; exact hσ) (by show (E2.r ++ [Sl.ow (.dic acc)])[j]? = _; rw [app_lo hj]; exact ho2)
      refine hQ F2 ⟨E2.r.set j (.ow o), E2.m⟩ _ _ H (s1.trans s2) ?_ q2
      have e2 : (E2.r ++ [Sl.ow (.dic acc)]).set j (.ow o) = E2.r.set j (.ow o) ++ [.ow (.dic acc)] := by
        rw [List.set_append_left _ _ hj]
      rw [← e2]
      exact ok4
section
variable {b : Bx} {Nm : List Str} {tbl : List (Nat × Str)} {gl : List Str} {k : Nat} {kx vx tg iter : Expr} {ifs : List Expr} {scope : Scope} {own : List (Str × Nat)} {pos : Pos} {src : BSrc} {t : Tgt} {tst : BQ} {ky vl : BO}
theorem be_dc (g : Gd b Nm tbl gl k) {sc : Scope} (hsc : b.X.env.scope = sc) (hi : BCs b tg iter src) (hok : blkC Nm sc scope own = true) (hw : ∀ i ∈ t.ix, i ∈ own.map (·.2))
    (hg : ∀ (s : Shared) (H : Hp) (C : Addr) (cl : List (Str × Addr)) (fp : List Addr), PG (blkB b s H scope C cl fp).X tg (t.low b.X.K)) (ht : ∀ (s : Shared) (H : Hp) (C : Addr) (cl : List (Str × Addr)) (fp : List Addr), BTs (blkB b s H scope C cl fp) ifs tst)
    (hk : ∀ (s : Shared) (H : Hp) (C : Addr) (cl : List (Str × Addr)) (fp : List Addr), BV (blkB b s H scope C cl fp) kx ky) (he : ∀ (s : Shared) (H : Hp) (C : Addr) (cl : List (Str × Addr)) (fp : List Addr), BV (blkB b s H scope C cl fp) vx vl)
    (hs : ∀ x, foldedSetIterable iter b.X.env x = pure x := by intro _; rfl) : BE b (.DictComp kx vx [⟨tg, iter, ifs, 0⟩] scope pos) (bDc src t tst ky vl (own.map (·.2))) :=
  pe_weak (pe_dx g.calm g.nn hi (by rw [g.nm, hsc]; exact blkOk_by hok) hg ht hk he (fun s H C cl fp => ds_low (b := blkB b s H scope C cl fp) (by have := g.rm.un; show b.X.A.units + 70 < cLine; omega)) hs) (dc_low hw)
end
end B
/-! BPar: several stores at once; other statements. -/
namespace B
open PySem PySem.Spec PyProof.Rows L2
def parRun : List BT → En → (List Sl → En → Prop) → QX → Prop
  | [], E, Q, _ => Q [] E
  | t :: ts, E, Q, X => t E (fun s E1 => s.res = true ∧ parRun ts E1 (fun ss E2 => Q (s :: ss) E2) X) X
def setS : List Sl → List Nat → List Sl → List Sl
  | r, i :: is, s :: ss => setS (r.set i s) is ss
  | r, _, _ => r
def parA (b : Bx) (ts : List BT) : TA := ts.foldr (fun t u => tCons (lowE b t) u) tNil
theorem par_low {b : Bx} : ∀ (ts : List BT) {N : Nh} {F : Hp} {E : En} {σ : L2.St} {H : Hp} {QB : List Sl → En → Prop} {XB : QX} {Q : List V → Hp → Prop}, Ok b.lb N F E σ H → parRun ts E QB XB → xOk b N F XB →
    (∀ F' E' ss vs H', Same F F' → ss.length = vs.length → Ok b.lb N F' ⟨E'.r ++ ss.reverse, E'.m⟩ (σ ++ vs.reverse.map some) H' → (∀ s ∈ ss, s.res = true) → QB ss E' → Q vs H') → parA b ts σ H Q
  | [], N, F, E, σ, H, QB, XB, Q, ok, ht, hX, k => k F E [] [] H (Same.refl F) rfl (by simpa using ok) (by simp) ht
  | t :: ts, N, F, E, σ, H, QB, XB, Q, ok, ht, hX, k => by
    refine ⟨N, F, E, _, XB, ok, ht, fun F1 E1 s v H1 s1 ok1 q1 => ?_, hX⟩
    obtain ⟨hs, q1⟩ := q1
    cases s with
    | un => cases hs
    | rd o => cases hs
    | fr d =>
      have rd := ok1.last
      refine par_low ts ok1.pop q1 (hX.go s1) fun F2 E2 ss vs H2 s2 hl ok2 hr q2 => k F2 E2 (.fr d :: ss) (v :: vs) H2 (s1.trans s2) (by simp [hl]) ?_ (by simpa using ⟨rfl, hr⟩) q2
      have := ok2.push (Rep.mono s2 _ _ rd)
      simpa using this
    | ow o =>
      obtain ⟨p, ho, rfl, hH, hN, hO, ok2⟩ := ok1.hold
      have nk := ok1.lks
      refine par_low ts ok2 q1 (fun F' E' x cls od σ' H' s' ok' xr q => hX F' E' x cls od σ' H' (s1.trans s') (ok'.unput nk hN) xr q) fun F2 E2 ss vs H2 s2 hl ok3 hr q2 => k F2 E2 (.ow o :: ss) (.ref p :: vs) H2 (s1.trans s2) (by simp [hl]) ?_ (by simpa using ⟨rfl, hr⟩) q2
      have hp : H2 p = some ho := ok3.nsub p ho (by show upd N.h p ho p = _; rw [upd_same])
      have := ok3.takeP nk hN (hO.mono s2 fun x hx => by rw [hH] at hx; cases hx; exact hp)
      simpa using this
theorem storeAll {L : Lb} {N : Nh} {F H : Hp} {m : Mst} : ∀ {is : List Nat} {ss : List Sl} {vs : List V} {r : List Sl} {σ : L2.St}, is.length = ss.length → ss.length = vs.length → (∀ i ∈ is, i < r.length) → (∀ s ∈ ss, s.res = true) →
    Ok L N F ⟨r ++ ss.reverse, m⟩ (σ ++ vs.reverse.map some) H → Ok L N F ⟨setS r is ss, m⟩ (setV σ is vs) H
  | [], [], [], r, σ, _, _, _, _, ok => by simpa [setS, setV] using ok
  | i :: is, s :: ss, v :: vs, r, σ, h1, h2, h3, h4, ok => by
    have h2' : ss.length = vs.length := by simpa using h2
    have hr : r.length = σ.length := by have := ok.len; simp at this; omega
    have hi : i < r.length := h3 i List.mem_cons_self
    have ok' : Ok L N F ⟨(r ++ ss.reverse) ++ [s], m⟩ ((σ ++ vs.reverse.map some) ++ [some v]) H := by simpa using ok
    have ok2 := ok'.store (i := i) (Sl.nrd (h4 s List.mem_cons_self))
    rw [List.set_append_left _ _ hi, List.set_append_left _ _ (by omega)] at ok2
    exact storeAll (is := is) (by simpa using h1) h2' (fun j hj => by rw [List.length_set]; exact h3 j (List.mem_cons_of_mem _ hj)) (fun s' hs => h4 s' (List.mem_cons_of_mem _ hs)) ok2
/-- a, b, .. = x, y, .. -/
def bPar (is : List Nat) (ts : List BT) : BS := fun Dn X E => parRun ts E (fun ss E1 => ss.length = is.length ∧ (∀ i ∈ is, i < E1.r.length) ∧ Dn.nx ⟨setS E1.r is ss, E1.m⟩) X
section
variable {b : Bx} {Nm : List Str} {tb : List (Nat × Str)} {gl : List Str} {k : Nat} {pos : Pos}
theorem bs_par2 (g : Gd b Nm tb gl k) (m n : Nat) {i j : Nat} {x y : Str} {e1 e2 : Expr} {t1 t2 : BT} {px py pt : Pos} {kt k2 pt2} (hi : tb[m]? = some (i, x)) (hj : tb[n]? = some (j, y)) (hij : i ≠ j)
    (hx : b.X.env.scope.names.lookup x = some .local) (hy : b.X.env.scope.names.lookup y = some .local) (h1 : BE b e1 t1) (h2 : BE b e2 t2) (st1 : starEach [e1, e2] b.X.env = (false, eval e1 b.X.env) :: starEach [e2] b.X.env := by rfl) (st2 : starEach [e2] b.X.env = (false, eval e2 b.X.env) :: starEach [] b.X.env := by rfl)
    (hw : swappedStores [.Tuple [.Name x px, .Name y py] kt pt] (.Tuple [e1, e2] k2 pt2) b.X.env = pure (some [x, y])) (hs : swapsWithSole [.Tuple [.Name x px, .Name y py] kt pt] (.Tuple [e1, e2] k2 pt2) pos.line b.X.env = pure false := by rfl) :
    BSt b (.Assign [.Tuple [.Name x px, .Name y py] kt pt] (.Tuple [e1, e2] k2 pt2) pos) (bPar [i, j] [t1, t2]) :=
  ps_weak (ps_par (i := i) (j := j) g.calm g.nn (by rw [g.nm]; exact (g.vis _ (List.mem_of_getElem? hi)).1) (by rw [g.nm]; exact (g.vis _ (List.mem_of_getElem? hj)).1) hij hx hy (pa_cons h1 (pa_cons h2 pa_nil st2) st1) hw hs)
    fun D σ H ⟨N, F, E, DB, XB, ok, ht, hn, _, _, _, hX⟩ => show parA b [t1, t2] σ H (fun vs H1 => ∃ v w, vs = [v, w] ∧ D.nx ((σ.set i (some v)).set j (some w)) H1) from par_low [t1, t2] ok ht hX fun F' E' ss vs H' sF hl ok' hr ⟨q1, q2, q3⟩ => by
      have hv : vs.length = 2 := by rw [← hl, q1]; rfl
      match vs, hv with
      | [v, w], _ => exact ⟨v, w, rfl, hn F' _ _ H' sF (storeAll (is := [i, j]) (by rw [q1]) hl q2 hr ok') q3⟩
theorem bs_par3 (g : Gd b Nm tb gl k) (m n o : Nat) {i j l : Nat} {x y z : Str} {e1 e2 e3 : Expr} {t1 t2 t3 : BT} {px py pz pt : Pos} {kt k2 pt2} (hi : tb[m]? = some (i, x)) (hj : tb[n]? = some (j, y)) (hl : tb[o]? = some (l, z)) (hij : i ≠ j) (hil : i ≠ l) (hjl : j ≠ l)
    (hx : b.X.env.scope.names.lookup x = some .local) (hy : b.X.env.scope.names.lookup y = some .local) (hz : b.X.env.scope.names.lookup z = some .local) (h1 : BE b e1 t1) (h2 : BE b e2 t2) (h3 : BE b e3 t3)
    (st1 : starEach [e1, e2, e3] b.X.env = (false, eval e1 b.X.env) :: starEach [e2, e3] b.X.env := by rfl) (st2 : starEach [e2, e3] b.X.env = (false, eval e2 b.X.env) :: starEach [e3] b.X.env := by rfl) (st3 : starEach [e3] b.X.env = (false, eval e3 b.X.env) :: starEach [] b.X.env := by rfl)
    (hw : swappedStores [.Tuple [.Name x px, .Name y py, .Name z pz] kt pt] (.Tuple [e1, e2, e3] k2 pt2) b.X.env = pure (some [x, y, z])) (hs : swapsWithSole [.Tuple [.Name x px, .Name y py, .Name z pz] kt pt] (.Tuple [e1, e2, e3] k2 pt2) pos.line b.X.env = pure false := by rfl) :
    BSt b (.Assign [.Tuple [.Name x px, .Name y py, .Name z pz] kt pt] (.Tuple [e1, e2, e3] k2 pt2) pos) (bPar [i, j, l] [t1, t2, t3]) :=
  ps_weak (ps_par3 (i := i) (j := j) (l := l) g.calm g.nn (by rw [g.nm]; exact (g.vis _ (List.mem_of_getElem? hi)).1) (by rw [g.nm]; exact (g.vis _ (List.mem_of_getElem? hj)).1) (by rw [g.nm]; exact (g.vis _ (List.mem_of_getElem? hl)).1) hij hil hjl hx hy hz
    (pa_cons h1 (pa_cons h2 (pa_cons h3 pa_nil st3) st2) st1) hw hs)
    fun D σ H ⟨N, F, E, DB, XB, ok, ht, hn, _, _, _, hX⟩ => show parA b [t1, t2, t3] σ H (fun vs H1 => ∃ u v w, vs = [u, v, w] ∧ D.nx (((σ.set i (some u)).set j (some v)).set l (some w)) H1) from par_low [t1, t2, t3] ok ht hX fun F' E' ss vs H' sF hl ok' hr ⟨q1, q2, q3⟩ => by
      have hv : vs.length = 3 := by rw [← hl, q1]; rfl
      match vs, hv with
      | [u, v, w], _ => exact ⟨u, v, w, rfl, hn F' _ _ H' sF (storeAll (is := [i, j, l]) (by rw [q1]) hl q2 hr ok') q3⟩
/-- the tuple is made, then taken apart -/
theorem bs_parG (g : Gd b Nm tb gl k) {tes es : List Expr} {is : List Nat} {ts : List BT} {kt k2 : Nat} {pt pt2 : Pos} (ht : PGs b.X tes (is.foldr (fun i u => gCons (gName i) u) gNil)) (he : PA b.X es (parA b ts)) (hl : ts.length = is.length) (hz : is.length ≤ 100)
    (hn : (assignEach tes b.X.env).length = is.length := by rfl) (hst : (assignEach tes b.X.env).findIdx? (·.1) = none := by rfl) (hs : swapsWithSole [.Tuple tes kt pt] (.Tuple es k2 pt2) pos.line b.X.env = pure false := by rfl) (hw : swappedStores [.Tuple tes kt pt] (.Tuple es k2 pt2) b.X.env = pure none := by rfl)
    (h1 : (assignEach [.Tuple tes kt pt] b.X.env).map (·.2) = [assign (.Tuple tes kt pt) b.X.env] := by rfl) : BSt b (.Assign [.Tuple tes kt pt] (.Tuple es k2 pt2) pos) (bPar is ts) :=
  ps_weak (ps_asg (pe_tup he) (pg_tp g.calm ht hn hst) hs hw h1) fun D σ H ⟨N, F, E, DB, XB, ok, htt, hn, _, _, _, hX⟩ => par_low ts ok htt hX fun F' E' ss vs H' sF hl ok' hr ⟨q1, q2, q3⟩ => by
    refine ⟨by rw [sizeLine_eq]; omega, fun p hp => ⟨p, vs, rfl, SqT.of upd_same, by omega, hn F' _ _ _ sF (storeAll q1.symm hl q2 hr (ok'.grow (same_upd hp))) q3⟩⟩
/-- a, b, .. = e, e a tuple -/
def bUnp (is : List Nat) (t : BO) : BS := fun Dn X E => t E (fun d E1 => (Tgt.tp is).set d E1 Dn.nx) X
theorem bs_unp (g : Gd b Nm tb gl k) {tes : List Expr} {e : Expr} {is : List Nat} {t : BO} {kt : Nat} {pt : Pos} (ht : PGs b.X tes (is.foldr (fun i u => gCons (gName i) u) gNil)) (he : BV b e t)
    (hn : (assignEach tes b.X.env).length = is.length := by rfl) (hst : (assignEach tes b.X.env).findIdx? (·.1) = none := by rfl) (hs : swapsWithSole [.Tuple tes kt pt] e pos.line b.X.env = pure false := by rfl) (hw : swappedStores [.Tuple tes kt pt] e b.X.env = pure none := by rfl)
    (h1 : (assignEach [.Tuple tes kt pt] b.X.env).map (·.2) = [assign (.Tuple tes kt pt) b.X.env] := by rfl) : BSt b (.Assign [.Tuple tes kt pt] e pos) (bUnp is t) :=
  ps_weak (ps_asg he (pg_tp g.calm ht hn hst) hs hw h1) fun D σ H ⟨N, F, E, DB, XB, ok, htt, hn, _, _, _, hX⟩ => ⟨N, F, E, _, XB, ok, htt, fun F' E' d v H' sF ok' r q => by
    obtain ⟨E2, σ2, ok2, q2, lw, _⟩ := ok'.tgt r q
    exact lw (hn F' E2 σ2 H' sF ok2 q2), hX⟩
/-- name = [..] on one line -/
theorem bs_setLc (g : Gd b Nm tb gl k) (j : Nat) {i : Nat} {y : Str} {py spos : Pos} {sc : Scope} {elt tg iter : Expr} {ifs : List Expr} {scope : Scope} {own : List (Str × Nat)} {src : BSrc} {t : Tgt} {tst : BQ} {el : BO} (h : tb[j]? = some (i, y)) (hyl : b.X.env.scope.names.lookup y = some .local)
    (hsw : swapsWith (.ListComp elt [⟨tg, iter, ifs, 0⟩] scope pos) (some (.Name y py)) spos.line b.X.env = pure true) (hsc : b.X.env.scope = sc) (hi : BCs b tg iter src) (hok : blkC Nm sc scope own = true) (hw : ∀ i ∈ t.ix, i ∈ own.map (·.2))
    (hg : ∀ (s : Shared) (H : Hp) (C : Addr) (cl : List (Str × Addr)) (fp : List Addr), PG (blkB b s H scope C cl fp).X tg (t.low b.X.K)) (ht : ∀ (s : Shared) (H : Hp) (C : Addr) (cl : List (Str × Addr)) (fp : List Addr), BTs (blkB b s H scope C cl fp) ifs tst)
    (he : ∀ (s : Shared) (H : Hp) (C : Addr) (cl : List (Str × Addr)) (fp : List Addr), BV (blkB b s H scope C cl fp) elt el) (hs : ∀ x, foldedSetIterable iter b.X.env x = pure x := by intro _; rfl) :
    BSt b (.Assign [.Name y py] (.ListComp elt [⟨tg, iter, ifs, 0⟩] scope pos) spos) (bSet i (bLc src t tst el (own.map (·.2)))) :=
  ps_weak (ps_setLc (i := i) g.calm g.nn (by rw [g.nm]; exact (g.vis _ (List.mem_of_getElem? h)).1) hyl hsw hi (by rw [g.nm, hsc]; exact blkOk_by hok) hg ht he hs) (set_low2 (lc_low hw))

/-! ### is, is not True, False -/
def dIsB (neg : Bool) : F2 := fun x y Q => match x, y with
  | .bl i, .bl j => Q (.fr (.bl (neg ^^ decide (i = j))))
  | _, _ => False
variable {a c : Expr} {ta : BL} {tc : BO}
theorem be_isB (ha : BLe b a ta) (hc : BOp b c tc) : BE b (.Compare a [.Is] [c] pos) (bBin (dIsB false) ta tc) := be_cmp op_isBl (fun N F E σ H x y v u QB Q ok rx ry hf k => by
  cases x with
  | bl i =>
    cases y with
    | bl j => exact ⟨i, j, t_bl rx, t_bl ry, k F _ _ H (Same.refl F) (ok.push rep_bl) (by have z : QB (.fr (.bl (false ^^ decide (i = j)))) := hf; simpa using z)⟩
    | _ => exact False.elim hf
  | _ => exact False.elim hf) ha hc (nomark _)
theorem be_notB (ha : BLe b a ta) (hc : BOp b c tc) : BE b (.Compare a [.IsNot] [c] pos) (bBin (dIsB true) ta tc) := be_cmp op_notBl (fun N F E σ H x y v u QB Q ok rx ry hf k => by
  cases x with
  | bl i =>
    cases y with
    | bl j => exact ⟨i, j, t_bl rx, t_bl ry, k F _ _ H (Same.refl F) (ok.push rep_bl) (by have z : QB (.fr (.bl (true ^^ decide (i = j)))) := hf; simpa using z)⟩
    | _ => exact False.elim hf
  | _ => exact False.elim hf) ha hc (nomark _)

/-! ### a <= b <= c of ints -/
def bChn (f : Int → Int → Bool) (f' : Int → Int → Bool) (ta tb tc : BO) : BT := fun E Q X => ta E (fun x E1 => tb E1 (fun y E2 => match x, y with
  | .int i, .int j => if f i j = true then tc E2 (fun z E3 => match z with
    | .int l => Q (.fr (.bl (f' j l))) E3
    | _ => False) X else Q (.fr (.bl false)) E2
  | _, _ => False) X) X
theorem chn_low {f f' : Int → Int → Bool} {ta tb tc : BO} : ∀ σ H Q, lowE b (bChn f f' ta tb tc) σ H Q → tChain (rI0 fun i j => .bl (f i j)) (rI0 fun i j => .bl (f' i j)) (lowV b ta) (lowV b tb) (lowV b tc) σ H Q := fun σ H Q ⟨N, F, E, QB, XB, ok, ht, hQ, hX⟩ => ⟨N, F, E, _, XB, ok, ht, fun F1 E1 x v H1 s1 ok1 r1 q1 => ⟨N, F1, E1, _, XB, ok1, q1, fun F2 E2 y u H2 s2 ok2 r2 q2 => by
    cases x with
    | int i =>
      cases y with
      | int j =>
        rw [Rep] at r1 r2
        refine ⟨i, j, r1, r2, f i j, rfl, ?_⟩
        have q2 : (if f i j = true then tc E2 (fun z E3 => match z with
          | .int l => QB (.fr (.bl (f' j l))) E3
          | _ => False) XB else QB (.fr (.bl false)) E2) := q2
        cases hf : f i j with
        | true =>
          rw [hf, if_pos rfl] at q2
          rw [if_pos rfl]
          exact ⟨N, F2, E2, _, XB, ok2, q2, fun F3 E3 z w H3 s3 ok3 r3 q3 => by
            cases z with
            | int l =>
              rw [Rep] at r3
              exact ⟨j, l, r2, r3, hQ F3 E3 _ _ H3 ((s1.trans s2).trans s3) (ok3.push rep_bl) q3⟩
            | _ => exact False.elim q3, (hX.go s1).go s2⟩
        | false =>
          rw [hf, if_neg Bool.false_ne_true] at q2
          rw [if_neg Bool.false_ne_true]
          exact hQ F2 E2 _ _ H2 (s1.trans s2) (ok2.push rep_bl) q2
      | _ => exact False.elim q2
    | _ => exact False.elim q2, hX.go s1⟩, hX⟩
theorem be_chain {a c d : Expr} {op op' : CmpOp} {f f' : Int → Int → Bool} {ta tb tc : BO} (ho : OpR b.X (compareOp op) (rI0 fun i j => .bl (f i j))) (ho' : OpR b.X (compareOp op') (rI0 fun i j => .bl (f' i j))) (ha : BV b a ta) (hb : BV b c tb) (hc : BV b d tc)
    (hm : lastMarks [op, op'] [c, d] = false := by with_unfolding_all rfl) : BE b (.Compare a [op, op'] [c, d] pos) (bChn f f' ta tb tc) :=
  pe_weak (pe_chain ho ho' ha hb hc hm) chn_low

/-! ### {} -/
def bDic0 : BT := fun E Q _ => Q (.ow (.dic [])) E
theorem be_dic0 : BE b (.Dict [] [] pos) bDic0 := ⟨fun pins s σ H Q I ⟨N, F, E, QB, XB, ok, ht, hQ, hX⟩ => wpAny_Dict_empty (by
  have e : (s.heap.push emptyO).get? s.heap.objs.size = some emptyO := Heap.get?_push_size _ rfl
  have n := I.hok.fresh (Nat.le_refl s.heap.objs.size)
  exact ⟨.ref s.heap.objs.size, _, I.laid (a := s.heap.objs.size) (o := dO s.heap.objs.size emptyO) (t' := s.toks) (fun _ _ q => Heap.get?_push_of_some _ q) (Nat.le_refl _) ⟨e, ⟨_, e⟩, fun _ _ z k => k _ z⟩, rfl,
    hQ F E _ _ _ (Same.refl F) (ok.newOw (o := .dic []) (same_upd n) n ⟨_, upd_same, beq_eq_false_iff_ne.mpr (Nat.ne_of_gt I.big), Nat.zero_le _, .inl ⟨[], ⟨#[], 0, ⟨rfl, rfl, rfl⟩, rfl, (fun i hi => absurd hi (by simp)), .nil, List.nodup_nil⟩, by rw [RepS]⟩⟩) ht⟩)⟩
end
end B
/-! BMth: methods, isinstance, dict(pairs), values and items. -/
namespace B
open PySem PySem.Spec PyProof.Rows L2
section
variable {b : Bx} {Nm : List Str} {tbl : List (Nat × Str)} {gl : List Str} {k : Nat} {pos apos p : Pos} {o e c : Expr} {t : BO}

/-! ### methods of the list, the dict of slot i -/
def slLst (i : Nat) (E : En) (Q : List D → Prop) : Prop := ∃ ds, E.r[i]? = some (.ow (.lst ds)) ∧ Q ds
def En.put (E : En) (i : Nat) (o : Ob) : En := ⟨E.r.set i (.ow o), E.m⟩
def bApp (i : Nat) (t : BO) : BT := fun E Q X => (∃ ds, E.r[i]? = some (.ow (.lst ds))) ∧ t E (fun d E1 => ∃ ds, E1.r[i]? = some (.ow (.lst ds)) ∧ ds.length < sizeLine ∧ Q (.fr .non) (E1.put i (.lst (ds ++ [d])))) X
theorem ow_lst {N : Nh} {F H : Hp} {E : En} {σ : L2.St} {i : Nat} {ds : List D} {q : Addr} (ok : Ok b.lb N F E σ H) (h : E.r[i]? = some (.ow (.lst ds))) (hp : σ[i]? = some (some (.ref q))) : ∃ vs, H q = some (.lst vs) ∧ RepA b.lb F ds vs := by
  obtain ⟨q', h1, h2, _⟩ := ok.ow i _ h
  rw [hp] at h1
  cases h1
  exact h2
theorem be_app (ho : PE b.X o (tVar i)) (ht : BV b e t) (hbase : attributeBase o "append" b.X.env (eval o b.X.env) = eval o b.X.env := by rfl)
    (hfew : ((backTo pos (starEach [e] b.X.env)).all (fun x => !x.1) && (backToKw pos (keywordEach [] b.X.env)).all (fun x => x.1.isSome) && decide ([e].length + ([] : List Keyword).length + (if ([] : List Keyword).isEmpty then 0 else 1) < 30)) = true := by rfl)
    (hline : (apos.endLine == pos.line) = true := by rfl) (hs : starEach [e] b.X.env = (false, eval e b.X.env) :: starEach [] b.X.env := by rfl) (hplain : (backTo pos (starEach [] b.X.env)).any (·.1) = false := by rfl) :
    BE b (.Call (.Attribute o "append" apos) [e] [] pos) (bApp i t) :=
  pe_weak (pe_bm PySem.F.plainAttrs_list PySem.F.slot_list_append PySem.F.type_list_append mt_append ho (pa_cons ht pa_nil hs) hbase hfew hline hs hplain) fun σ H Q ⟨N, F, E, QB, XB, ok, ⟨⟨ds0, h0⟩, ht⟩, hQ, hX⟩ => by
    obtain ⟨q, hq, ⟨vs0, hv0, _⟩, _⟩ := ok.ow i _ h0
    refine ⟨.ref q, hq, .inl ⟨rfl, vs0, .inl (.inl hv0)⟩, N, F, E, _, XB, ok, ht, fun F1 E1 d v H1 s1 ok1 r1 ⟨ds, h1, hz, q1⟩ => ?_, hX⟩
    obtain ⟨vs, hv, ra⟩ := ow_lst ok1 h1 hq
    exact ⟨q, vs, v, rfl, rfl, hv, by rw [← repA_len ra]; exact hz, hQ F1 (E1.put i (.lst (ds ++ [d]))) _ _ _ s1 ((ok1.write (u := .lst (ds ++ [d])) (x := .lst (vs ++ [v])) h1 hq ⟨_, upd_same, repA_app ra (repA_cons r1 repA_nil)⟩).push rep_non) q1⟩
/-- x.pop(n) -/
def bPopA (i : Nat) (t : BO) : BT := fun E Q X => (∃ ds, E.r[i]? = some (.ow (.lst ds))) ∧ t E (fun n E1 => ∃ ds j m d, n = .int j ∧ -(2 ^ 63) ≤ j ∧ j < 2 ^ 63 ∧ E1.r[i]? = some (.ow (.lst ds)) ∧ seqIndex? j ds.length = some m ∧ ds[m]? = some d ∧ Q (.fr d) (E1.put i (.lst (ds.eraseIdx m)))) X
theorem repA_erase {L : Lb} {F : Hp} : ∀ {ds : List D} {vs : List V}, RepA L F ds vs → ∀ n, RepA L F (ds.eraseIdx n) (vs.eraseIdx n)
  | [], vs, h, n => by rw [RepA] at h; subst h; simpa using repA_nil
  | d :: ds, vs, h, n => by
    rw [RepA] at h
    obtain ⟨v, r, e, h1, h2⟩ := h
    subst e
    cases n with
    | zero => exact h2
    | succ n => exact repA_cons h1 (repA_erase h2 n)
theorem be_popA (ho : PE b.X o (tVar i)) (ht : BV b e t) (hbase : attributeBase o "pop" b.X.env (eval o b.X.env) = eval o b.X.env := by rfl)
    (hfew : ((backTo pos (starEach [e] b.X.env)).all (fun x => !x.1) && (backToKw pos (keywordEach [] b.X.env)).all (fun x => x.1.isSome) && decide ([e].length + ([] : List Keyword).length + (if ([] : List Keyword).isEmpty then 0 else 1) < 30)) = true := by rfl)
    (hline : (apos.endLine == pos.line) = true := by rfl) (hs : starEach [e] b.X.env = (false, eval e b.X.env) :: starEach [] b.X.env := by rfl) (hplain : (backTo pos (starEach [] b.X.env)).any (·.1) = false := by rfl) :
    BE b (.Call (.Attribute o "pop" apos) [e] [] pos) (bPopA i t) :=
  pe_weak (pe_bm PySem.F.plainAttrs_list PySem.F.slot_list_pop PySem.F.type_list_pop mt_popAt ho (pa_cons ht pa_nil hs) hbase hfew hline hs hplain) fun σ H Q ⟨N, F, E, QB, XB, ok, ⟨⟨ds0, h0⟩, ht⟩, hQ, hX⟩ => by
    obtain ⟨q, hq, ⟨vs0, hv0, _⟩, _⟩ := ok.ow i _ h0
    refine ⟨.ref q, hq, .inl ⟨rfl, vs0, .inl (.inl hv0)⟩, N, F, E, _, XB, ok, ht, fun F1 E1 n v H1 s1 ok1 r1 ⟨ds, j, m, d, e1, b1, b2, h1, hm, hd, q1⟩ => ?_, hX⟩
    subst e1
    rw [Rep] at r1
    subst r1
    obtain ⟨vs, hv, ra⟩ := ow_lst ok1 h1 hq
    obtain ⟨y, hy, ry⟩ := repA_get ra hd
    exact ⟨q, vs, j, m, y, rfl, rfl, hv, b1, b2, by rw [← repA_len ra]; exact hm, hy, hQ F1 (E1.put i (.lst (ds.eraseIdx m))) _ _ _ s1 ((ok1.write (u := .lst (ds.eraseIdx m)) (x := .lst (vs.eraseIdx m)) h1 hq ⟨_, upd_same, repA_erase ra m⟩).push ry) q1⟩
/-- x.clear(), a list or a dict -/
def bClr (i : Nat) : BT := fun E Q _ => (∃ ds, E.r[i]? = some (.ow (.lst ds)) ∧ Q (.fr .non) (E.put i (.lst []))) ∨ ∃ kvs, E.r[i]? = some (.ow (.dic kvs)) ∧ Q (.fr .non) (E.put i (.dic []))
theorem be_clr (ho : PE b.X o (tVar i)) (hbase : attributeBase o "clear" b.X.env (eval o b.X.env) = eval o b.X.env := by rfl) (hline : (apos.endLine == pos.line) = true := by rfl) : BE b (.Call (.Attribute o "clear" apos) [] [] pos) (bClr i) := by
  refine ⟨fun pins s σ H Q I ⟨N, F, E, QB, XB, ok, ht, hQ, hX⟩ => ?_⟩
  rcases ht with ⟨ds, h0, q⟩ | ⟨kvs, h0, q⟩
  · obtain ⟨a, hq, ⟨vs0, hv0, _⟩, _⟩ := ok.ow i _ h0
    exact (pe_bm0 PySem.F.plainAttrs_list PySem.F.slot_list_clear PySem.F.type_list_clear mt_clear ho hbase hline).run pins s σ H Q I
      ⟨.ref a, hq, .inl ⟨rfl, vs0, .inl (.inl hv0)⟩, a, vs0, rfl, rfl, hv0, hQ F (E.put i (.lst [])) _ _ _ (Same.refl F) ((ok.write (u := .lst []) (x := .lst []) h0 hq ⟨_, upd_same, repA_nil⟩).push rep_non) q⟩
  · obtain ⟨a, hq, ⟨od, hd, z, hr⟩, _⟩ := ok.ow i _ h0
    refine wpAny_Call_method0_late hbase hline (thn (ho.run pins s σ H (fun x H1 => x = .ref a ∧ H1 = H) I ⟨_, hq, rfl, rfl⟩) fun v s1 ⟨x, H1, I1, r1, e1, e2⟩ => ?_)
    subst e1 e2
    cases r1
    have hg := ext_at I1 hd
    obtain ⟨es, ep, hx, hdd, hsz, _⟩ := keys_of (q := a) hr
    refine ⟨"dict", _, PySem.F.plainAttrs_dict, PySem.F.slot_dict_clear, PySem.F.type_dict_clear, ⟨od, hg, hx.1⟩, fun a' e => by cases e; exact ⟨od, hg, hx.2.1⟩, Calls.callWith_builtin rfl (PySem.evalArgs_none ?_)⟩
    refine call_meetsIn PySem.F.slot_dict_clear ⟨od, hg, hx.1⟩ PySem.F.entry_dict_clear (PySem.F.args_dict_clear_1 _) (meets_dict_clear_raw a) ⟨es, ep, ⟨od, hg, hx, hdd⟩, by rw [hsz]; exact hr.1, fun h' hr' hs' => ?_⟩
    obtain ⟨o', ho', hx', hd'⟩ := hr'
    have I2 : Inv b.X pins σ (upd H1 a (dO a o')) { s1 with heap := h' } := d_write (t' := s1.toks) I1 (by rw [hd]; exact True.intro) hs' ⟨o', ho'⟩ ⟨ho', ⟨_, ho'⟩, fun h1 h2 z k => k _ z⟩
    exact ⟨.non, _, I2, rfl, hQ F (E.put i (.dic [])) _ _ _ (Same.refl F) ((ok.write (u := .dic []) h0 hq ⟨o', upd_same, z, Nat.zero_le _, .inr ⟨[], ⟨#[], _, hx', hd', rfl, List.nodup_nil, fun x hx => by cases hx⟩, by rw [RepX]⟩⟩).push rep_non) q⟩

/-! ### sep.join(a list of texts) -/
def dJoin : F2 := fun x y Q => ∃ a ys, x = .str a ∧ (y = .lst (ys.map .str) ∨ y = .tup (ys.map .str)) ∧ (ys.map (·.length)).sum + ys.length * a.length ≤ 16777216 ∧ Q (.fr (.str (Txt.join a ys)))
def bJoin (to : BL) (t : BO) : BT := fun E Q X => to E (fun h E1 => (∃ a, h.get E1 = some (.str a)) ∧ t E1 (fun y E2 => match h.get E2 with
  | some x => dJoin x y fun s => Q s E2
  | none => False) X) X
theorem be_join {to : BL} (ho : BLe b o to) (ht : BOp b e t) (hs : starEach [e] b.X.env = [(false, eval e b.X.env)] := by rfl) (hbase : attributeBase o "join" b.X.env (eval o b.X.env) = eval o b.X.env := by rfl) (hline : (apos.endLine == pos.line) = true := by rfl) :
    BE b (.Call (.Attribute o "join" apos) [e] [] pos) (bJoin to t) :=
  pe_weak (pe_m1 PySem.F.slot_str_join PySem.F.type_str_join mt_join ho ht hs hbase hline) fun σ H Q ⟨N, F, E, QB, XB, ok, ht, hQ, hX⟩ => ⟨N, F, E, _, XB, ok, ht, fun F1 E1 h v H1 s1 ok1 r1 q1 => by
    obtain ⟨⟨a, ha⟩, q1⟩ := q1
    have rv := HdR.top ok1 (Same.refl F1) r1 ha
    refine ⟨⟨a, t_str rv⟩, N, F1, E1, _, XB, ok1, q1, fun F2 E2 y u H2 s2 ok2 r2 q2 => ?_, hX.go s1⟩
    cases g : h.get E2 with
    | none =>
      have q2 : (match h.get E2 with
        | some x => dJoin x y fun s => QB s E2
        | none => False) := q2
      rw [g] at q2; exact q2.elim
    | some x =>
      have q2 : (match h.get E2 with
        | some x => dJoin x y fun s => QB s E2
        | none => False) := q2
      rw [g] at q2
      obtain ⟨a', ys, rfl, hy, hz, q2⟩ := q2
      have rx := t_str (HdR.top ok2 s2 r1 g)
      have fin := hQ F2 E2 _ _ H2 (s1.trans s2) (ok2.push (v := .str (Txt.join a' ys)) rep_str) q2
      rcases hy with rfl | rfl
      · obtain ⟨q, vs, rfl, h1, h2⟩ := r2
        exact ⟨a', q, ys, rx, rfl, .inl (.inl (.inl (by rw [← repA_strs h2]; exact h1))), hz, fin⟩
      · obtain ⟨q, vs, e, _, h1, h2⟩ := t_tup ok2.sub r2
        exact ⟨a', q, ys, rx, by rw [e], .inr (by rw [← repA_strs h2]; exact h1), hz, fin⟩, hX⟩

/-! ### isinstance of plain data and built-in types -/
def D.tyN : D → Option String
  | .non => some "NoneType"
  | .bl _ => some "bool"
  | .int _ => some "int"
  | .str _ => some "str"
  | .tup _ => some "tuple"
  | .lst _ => some "list"
  | .scr _ => some "list"
  | .dic _ => some "dict"
  | _ => none
theorem kit_D {pins : List (Addr × Obj)} {σ σ' : L2.St} {N : Nh} {F H : Hp} {E : En} {s : Shared} {d : D} {x : V} {u : Value} {n : String} (I : Inv b.X pins σ H s) (ok : Ok b.lb N F E σ' H) (r : RepT b.lb F H d x) (rx : RelV x u) (h : d.tyN = some n) :
    ∃ P : Heap → Prop, PySem.W.KitX b.X.K u (.type n) P ∧ P s.heap ∧ u ≠ .builtin "__main__.__loader__#opaque" := by
  cases d with
  | non => rw [t_non r] at rx; cases h; cases rx; exact ⟨_, PySem.W.kitx_none, True.intro, fun z => nomatch z⟩
  | bl k => rw [t_bl r] at rx; cases h; cases rx; exact ⟨_, PySem.W.kitx_bool, True.intro, fun z => nomatch z⟩
  | int k => rw [t_int r] at rx; cases h; obtain ⟨t, rfl⟩ := rx; exact ⟨_, PySem.W.kitx_int, True.intro, fun z => nomatch z⟩
  | str k => rw [t_str r] at rx; cases h; obtain ⟨t, rfl⟩ := rx; exact ⟨_, PySem.W.kitx_str, True.intro, fun z => nomatch z⟩
  | tup ds =>
    obtain ⟨a, vs, rfl, h0, h1, h2⟩ := t_tup ok.sub r
    cases h; cases rx
    obtain ⟨its, rv, o, ho, hc, _⟩ := tup_at I ok.sub h0
    exact ⟨_, PySem.W.kitx_tuple, ⟨o, ho, hc⟩, fun z => nomatch z⟩
  | lst ds =>
    obtain ⟨a, vs, rfl, h1, h2⟩ := r
    cases h; cases rx
    obtain ⟨its, rv, o, n, ho, hc, _⟩ := lst_at I h1
    exact ⟨_, PySem.W.kitx_list, ⟨o, ho, hc⟩, fun z => nomatch z⟩
  | scr ns =>
    obtain ⟨a, rfl, h1⟩ := t_scr ok.sub r
    cases h; cases rx
    obtain ⟨its, rv, pl, hz⟩ := I.list h1
    obtain ⟨o, n, e, c, _⟩ := pl
    exact ⟨_, PySem.W.kitx_list, ⟨o, e, c⟩, fun z => nomatch z⟩
  | dic kvs =>
    obtain ⟨a, o, rfl, ho, z, hr⟩ := r
    cases h; cases rx
    obtain ⟨es, ep, hx, _⟩ := keys_of (q := a) hr
    exact ⟨_, PySem.W.kitx_dict, ⟨o, ext_at I ho, hx.1⟩, fun z => nomatch z⟩
  | _ => cases h
def tyTags : List String := ["NoneType", "bool", "int", "str", "tuple", "list", "dict"]
def tyIs (n m : String) : Bool := n == m || (n == "bool" && m == "int")
theorem ty_tab : tyTags.all (fun n => tyTags.all fun m => decide (kitB n m = some (tyIs n m))) = true := by decide +kernel
theorem tyN_tag {d : D} {n : String} (h : d.tyN = some n) : n ∈ tyTags := by
  cases d <;> simp [D.tyN] at h <;> subst h <;> simp [tyTags]
theorem ty_one {K : PySem.W.Frag} {n m : String} (hn : n ∈ tyTags) (hm : m ∈ tyTags) : PySem.W.kitOne K (.type n) (.type m) = some (tyIs n m) :=
  kit_ty (of_decide_eq_true (List.all_eq_true.mp (List.all_eq_true.mp ty_tab n hn) m hm))
theorem ty_any {K : PySem.W.Frag} {n : String} (hn : n ∈ tyTags) : ∀ {ms : List String}, (∀ m ∈ ms, m ∈ tyTags) → PySem.W.kitAny K (.type n) (ms.map .type) = some (ms.any (tyIs n))
  | [], _ => rfl
  | m :: ms, h => by
    rw [List.map_cons, List.any_cons]
    refine kitAny_cons (ty_one hn (h m List.mem_cons_self)) (fun e => ?_) fun e => ?_
    · rw [e, Bool.false_or]; exact ty_any hn fun x hx => h x (List.mem_cons_of_mem _ hx)
    · rw [e, Bool.true_or]
def D.isTy (d : D) (ms : List String) : Option Bool := d.tyN.map fun n => ms.any (tyIs n)
def dIsi (ms : List String) : F1 := fun d Q => match d.isTy ms with
  | some r => Q (.fr (.bl r))
  | none => False
def rIsD (b : Bx) (m : String) : List V → Hp → VK → Prop := fun xs H Q => ∃ N F E σ d x QB, xs = [x, .ty m] ∧ Ok b.lb N F E σ H ∧ RepT b.lb F H d x ∧ m ∈ tyTags ∧ dIsi [m] d QB ∧
  ∀ F' s v' H', Same F F' → Ok b.lb N F' ⟨E.r ++ [s], E.m⟩ (σ ++ [some v']) H' → QB s → Q v' H'
theorem isi_out {ms : List String} {d : D} {QB : Sl → Prop} (h : dIsi ms d QB) : ∃ n, d.tyN = some n ∧ QB (.fr (.bl (ms.any (tyIs n)))) := by
  unfold dIsi D.isTy at h
  cases e : d.tyN with
  | none => rw [e] at h; exact h.elim
  | some n => rw [e] at h; exact ⟨n, rfl, h⟩
theorem cb_isi (m : String) : CallR b.X (.builtin "isinstance") (rIsD b m) := by
  intro pins s σ H xs us Q I r ⟨N, F, E, σ', d, x, QB, e, ok, rx, hm, hf, k⟩
  subst e
  obtain ⟨u1, u2, rfl, r1, r2⟩ := vals2 r
  cases r2
  obtain ⟨n, hn, q⟩ := isi_out hf
  obtain ⟨P, Z, pz, hx⟩ := kit_D I ok rx r1 hn
  refine PySem.W.kia_one Z I.kIn pz (ty_one (tyN_tag hn) hm) hx fun tk => ⟨.bl (tyIs n m), H, I.tok tk, rfl, k F _ _ H (Same.refl F) (ok.push rep_bl) ?_⟩
  simpa using q
theorem be_isi {x m : Str} {M : String} {pm : Pos} (hg : Gl b.X "isinstance") (hm : b.X.mg "isinstance" = none) (hgT : Gl b.X m) (hmT : b.X.mg m = none) (hv : bootBuiltins m = some (.type M)) (hM : M ∈ tyTags) (ha : BOp b e t)
    (hn : m ≠ "__name__" := by decide) (hd : (m == ("__debug__" : Str)) = false := by decide) (h1 : starEach [e, .Name m pm] b.X.env = (false, eval e b.X.env) :: starEach [.Name m pm] b.X.env := by rfl)
    (h2 : starEach [.Name m pm] b.X.env = (false, eval (.Name m pm) b.X.env) :: starEach [] b.X.env := by rfl) (hpl : (backTo pos (starEach [.Name m pm] b.X.env)).any (·.1) = false := by rfl) : BE b (.Call (.Name "isinstance" p) [e, .Name m pm] [] pos) (bUn (dIsi [M]) t) :=
  pe_weak (pe_callB (cb_isi M) hg hm PyProof.Rows.boot_isinstance (pa_cons ha (pa_cons (pe_bltn hgT hmT hv (v := .ty M) rfl hn hd) pa_nil h2) h1) (by decide) (by decide) h1 hpl) fun σ H Q ⟨N, F, E, QB, XB, ok, ht, hQ, hX⟩ =>
    ⟨N, F, E, _, XB, ok, ht, fun F1 E1 d v H1 s1 ok1 r1 q1 => ⟨N, F1, E1, σ, d, v, _, rfl, ok1, r1, hM, q1, fun F' s v' H' sF => hQ F' E1 s v' H' (s1.trans sF)⟩, hX⟩
/-- isinstance(x, (A, B)) -/
def rIsDT (b : Bx) (ms : List String) : List V → Hp → VK → Prop := fun xs H Q => ∃ N F E σ d x tp QB, xs = [x, .ref tp] ∧ H tp = some (.tup (ms.map .ty)) ∧ Ok b.lb N F E σ H ∧ RepT b.lb F H d x ∧ (∀ m ∈ ms, m ∈ tyTags) ∧ dIsi ms d QB ∧
  ∀ F' s v' H', Same F F' → Ok b.lb N F' ⟨E.r ++ [s], E.m⟩ (σ ++ [some v']) H' → QB s → Q v' H'
theorem tys_of : ∀ {ms : List String} {us : List Value}, Vals (ms.map V.ty) us → us = ms.map Value.type
  | [], _, .nil => rfl
  | m :: ms, _, .cons r t => by cases r; rw [tys_of t]; rfl
theorem cb_isiT (ms : List String) : CallR b.X (.builtin "isinstance") (rIsDT b ms) := by
  intro pins s σ H xs us Q I r ⟨N, F, E, σ', d, x, tp, QB, e, hT, ok, rx, hm, hf, k⟩
  subst e
  obtain ⟨u1, u2, rfl, r1, r2⟩ := vals2 r
  cases r2
  obtain ⟨n, hn, q⟩ := isi_out hf
  obtain ⟨P, Z, pz, hx⟩ := kit_D I ok rx r1 hn
  obtain ⟨_, its, rv, o, h1, h2, nn, h3⟩ := (show ObjOk b.X.prog b.X.w H s.heap tp (.tup (ms.map .ty)) from I.hok tp _ hT)
  have e3 := tys_of rv
  subst e3
  obtain ⟨oc, od, dt, sl⟩ := o
  simp only at h2 h3
  subst h2 h3
  exact PySem.W.kia_tup Z I.kIn pz h1 (ty_any (tyN_tag hn) hm) hx fun tk => ⟨.bl (ms.any (tyIs n)), H, I.tok tk, rfl, k F _ _ H (Same.refl F) (ok.push rep_bl) q⟩
theorem be_isiT {ms : List String} {es : List Expr} {kk : Nat} {pt : Pos} (hg : Gl b.X "isinstance") (hm : b.X.mg "isinstance" = none) (hes : PA b.X es (ms.foldr (fun m u => tCons (tC (.ty m)) u) tNil)) (hM : ∀ m ∈ ms, m ∈ tyTags) (hz : ms.length ≤ 100) (ha : BOp b e t)
    (h1 : starEach [e, .Tuple es kk pt] b.X.env = (false, eval e b.X.env) :: starEach [.Tuple es kk pt] b.X.env := by rfl) (h2 : starEach [.Tuple es kk pt] b.X.env = (false, eval (.Tuple es kk pt) b.X.env) :: starEach [] b.X.env := by rfl)
    (hpl : (backTo pos (starEach [.Tuple es kk pt] b.X.env)).any (·.1) = false := by rfl) : BE b (.Call (.Name "isinstance" p) [e, .Tuple es kk pt] [] pos) (bUn (dIsi ms) t) :=
  pe_weak (pe_callB (cb_isiT ms) hg hm PyProof.Rows.boot_isinstance (pa_cons ha (pa_cons (pe_tup hes) pa_nil h2) h1) (by decide) (by decide) h1 hpl) fun σ H Q ⟨N, F, E, QB, XB, ok, ht, hQ, hX⟩ =>
    ⟨N, F, E, _, XB, ok, ht, fun F1 E1 d v H1 s1 ok1 r1 q1 => by
      have go : ∀ (ms : List String) (Q' : List V → Hp → Prop), Q' (ms.map V.ty) H1 → (ms.foldr (fun m u => tCons (tC (.ty m)) u) tNil) σ H1 Q' := by
        intro ms
        induction ms with
        | nil => intro Q' h; exact h
        | cons m ms ih => intro Q' h; exact ih (fun xs H => Q' (.ty m :: xs) H) h
      refine go ms _ ⟨by rw [List.length_map, sizeLine_eq]; omega, fun q hq => ?_⟩
      have ok2 := ok1.grow (same_upd (o := .tup (ms.map V.ty)) hq)
      have r2 : RepT b.lb F1 (upd H1 q (.tup (ms.map V.ty))) d v := by
        have up : ∀ {a : Addr} {o : HO}, H1 a = some o → (upd H1 q (.tup (ms.map V.ty))) a = some o := fun {a o} h => by rw [upd_ne (ne_of_none h hq)]; exact h
        cases d with
        | lst _ => obtain ⟨a, vs, e, h, r⟩ := r1; exact ⟨a, vs, e, up h, r⟩
        | dic _ => obtain ⟨a, o, e, h, r⟩ := r1; exact ⟨a, o, e, up h, r⟩
        | obj _ _ => obtain ⟨a, dx, ws, e, h, r⟩ := r1; exact ⟨a, dx, ws, e, up h, r⟩
        | _ => exact r1
      exact ⟨N, F1, E1, σ, d, v, q, _, rfl, upd_same, ok2, r2, hM, q1, fun F' s v' H' sF => hQ F' E1 s v' H' (s1.trans sF)⟩, hX⟩
end
end B
/-! BVw: d.values(), d.items() walked; dict(pairs); list(d). -/
namespace B
open PySem PySem.Spec PyProof.Rows L2
theorem relV_inj {x y : V} {u : Value} (h : RelV x u) (g : RelV y u) : x = y := by
  cases x <;> cases y <;> (try (first | cases h | obtain ⟨_, h⟩ := h)) <;> (try (first | cases g | obtain ⟨_, g⟩ := g)) <;> simp_all
section
variable {b : Bx} {F : Hp}
theorem vals_of {kvs : KV2} {o : Obj} (r : DicR b.lb F kvs o) : ∃ es ep, o.ExactDict ∧ o.data = .dict es ep ∧ es.size = kvs.length ∧
    ∀ (i : Nat) (en : DictEntry), es[i]? = some en → ∃ k d kx x, kvs[i]? = some (k, d) ∧ RelV kx en.key ∧ Rep b.lb F k kx ∧ RelV x en.val ∧ Rep b.lb F d x := by
  obtain ⟨l, rr⟩ := r
  rcases rr with ⟨us, ⟨es, ep, hx, hd, _, hp, _⟩, r2⟩ | ⟨xs, ⟨es, ep, hx, hd, he, _, _⟩, r2⟩
  · refine ⟨es, ep, hx, hd, ?_⟩
    have key : ∀ (kvs : KV2) (us : List (Str × Value)) (el : List DictEntry), RepS b.lb F kvs us → Pairs (strKind b.X.prog b.X.w) el us → el.length = kvs.length ∧
        ∀ (i : Nat) (en : DictEntry), el[i]? = some en → ∃ k d kx x, kvs[i]? = some (k, d) ∧ RelV kx en.key ∧ Rep b.lb F k kx ∧ RelV x en.val ∧ Rep b.lb F d x := by
      intro kvs
      induction kvs with
      | nil => intro us el h p; rw [RepS] at h; subst h; cases p; exact ⟨rfl, fun i en z => by simp at z⟩
      | cons kv kvs ih =>
        intro us el h p
        obtain ⟨k, d⟩ := kv
        rw [RepS] at h
        obtain ⟨x, u, v, us', e, e2, rv, h1, h2⟩ := h
        subst e; subst e2
        cases p with
        | @cons en kv es' kvs' hk hv hp =>
          obtain ⟨t, ht⟩ := Value.isStrOf_shape (x := x) (v := en.key) hk
          have hv : en.val = u := hv
          obtain ⟨l1, l2⟩ := ih us' es' h2 hp
          refine ⟨by simp [l1], fun i en' z => ?_⟩
          cases i with
          | zero => cases z; exact ⟨.str x, d, .str x, v, rfl, ⟨t, ht⟩, rep_str, by rw [hv]; exact rv, h1⟩
          | succ i => exact l2 i en' z
    obtain ⟨l1, l2⟩ := key kvs us es.toList r2 hp
    exact ⟨by simpa using l1, fun i en z => l2 i en (by simpa using z)⟩
  · refine ⟨es, ep, hx, hd, ?_⟩
    have key : ∀ (kvs : KV2) (xs : List (NestedKey × Addr × Value)), RepX b.lb F kvs xs → xs.length = kvs.length ∧
        ∀ (i : Nat) (en : DictEntry), (xs.map (entryOfKey (nestedKind b.X.prog b.X.w)))[i]? = some en → ∃ k d kx x, kvs[i]? = some (k, d) ∧ RelV kx en.key ∧ Rep b.lb F k kx ∧ RelV x en.val ∧ Rep b.lb F d x := by
      intro kvs
      induction kvs with
      | nil => intro us h; rw [RepX] at h; subst h; exact ⟨rfl, fun i en z => by simp at z⟩
      | cons kv kvs ih =>
        intro us h
        obtain ⟨k, d⟩ := kv
        rw [RepX] at h
        obtain ⟨nk, ka, u, v, us', e, _, hk, rv, h1, h2⟩ := h
        subst e
        obtain ⟨l1, l2⟩ := ih us' h2
        refine ⟨by simp [l1], fun i en' z => ?_⟩
        cases i with
        | zero => cases z; exact ⟨k, d, .ref ka, v, rfl, rfl, hk, rv, h1⟩
        | succ i => exact l2 i en' z
    obtain ⟨l1, l2⟩ := key kvs xs r2
    refine ⟨by have := congrArg List.length he; simpa [l1] using this, fun i en z => l2 i en ?_⟩
    rw [← he]
    simpa using z
end
section
variable {P : Program} {w : World} {K : PySem.W.Frag} {tg : Expr}
/-- the values of the dict object o at a -/
def Itw (a : Addr) (o : Obj) (es : Array DictEntry) : It :=
  ⟨fun i H => H a = some (dO a o) ∧ i < es.size, fun i H x H' => H' = H ∧ ∃ en, es[i]? = some en ∧ RelV x en.val, fun i H => H a = some (dO a o) ∧ i = es.size⟩
theorem turn_w {a it : Addr} {o : Obj} {es : Array DictEntry} {ep : Nat} (hx : o.ExactDict) (hd : o.data = .dict es ep) (hv : ∀ (i : Nat) (en : DictEntry), es[i]? = some en → ∃ x : V, RelV x en.val) :
    Turn P w K tg (Itw a o es) [it] it (fun i h => h.IsValIter it a i es.size ep) where
  mem := by simp
  obj := fun i h st b hb => by
    obtain rfl : b = it := by simpa using hb
    obtain ⟨oi, e, c, dd⟩ := st
    exact ⟨oi, e, fun v z => by rw [dd] at z; cases z⟩
  keep := fun i h h' st k => st.at fun oi e => k it (by simp) oi e
  item := by
    intro X hP hw hK hc i pins s σ H E I hf st hg
    subst hP hw hK
    obtain ⟨h1, hi⟩ := hg
    obtain ⟨f0, f1, f2, f3, f4, f5⟩ := hf it (by simp)
    refine wpAny_pyNext_values_item_raw st ⟨o, dO_at I h1, hx, hd⟩ hi fun h' st' sb => ?_
    have I1 : Inv X pins σ H { s with heap := h' } := I.turned (t' := s.toks) (fun b ob hb e => (sb.2 b hb).trans e) f0 f1 f3 f4 f5
    obtain ⟨oi, e, c, dd⟩ := id st'
    have he : es[i]? = some es[i] := by simp [hi]
    obtain ⟨x, rx⟩ := hv i _ he
    exact ⟨es[i].val, rfl, go_of (s := { s with heap := h' }) e c dd (by decide) ⟨x, H, I1, rx, ⟨rfl, _, he, rx⟩, st', fun b hb => (hf b hb).1⟩⟩
  done := by
    intro X hP hw hK hc i pins s σ H E I hf st hg
    subst hP hw hK
    obtain ⟨h1, hi⟩ := hg
    obtain ⟨f0, f1, f2, f3, f4, f5⟩ := hf it (by simp)
    exact wpAny_pyNext_values_end_raw (I.ok.hd hc) st ⟨o, dO_at I h1, hx, hd⟩ (by omega) fun h' eb => ⟨rfl, I.turned (t' := s.toks) (fun b ob hb e => eb b ob hb e) f0 f1 f3 f4 f5⟩
  self := fun A i s Q E st h => wpAny_pyIter_valiter st h
/-- the items, in new pairs -/
def Itp (a : Addr) (o : Obj) (es : Array DictEntry) : It :=
  ⟨fun i H => H a = some (dO a o) ∧ i < es.size, fun i H x H' => ∃ T en kx vx, es[i]? = some en ∧ RelV kx en.key ∧ RelV vx en.val ∧ x = .ref T ∧ H T = none ∧ H' = upd H T (.tup [kx, vx]), fun i H => H a = some (dO a o) ∧ i = es.size⟩
theorem turn_p {elts : List Expr} {kk : Nat} {tpos : Pos} {a it : Addr} {o : Obj} {es : Array DictEntry} {ep : Nat} (hx : o.ExactDict) (hd : o.data = .dict es ep) (hv : ∀ (i : Nat) (en : DictEntry), es[i]? = some en → (∃ x : V, RelV x en.key) ∧ ∃ x : V, RelV x en.val) :
    Turn P w K (.Tuple elts kk tpos) (Itp a o es) [it] it (fun i h => ∃ ok ov, IsItemIter h it a i es.size ep ok ov) where
  mem := by simp
  obj := fun i h st b hb => by
    obtain rfl : b = it := by simpa using hb
    obtain ⟨ok, ov, e⟩ := st
    exact ⟨_, e, fun v z => nomatch z⟩
  keep := fun i h h' st k => let ⟨ok, ov, e⟩ := st; ⟨ok, ov, k it (by simp) _ e⟩
  item := by
    intro X hP hw hK hc i pins s σ H E I hf st hg
    subst hP hw hK
    obtain ⟨h1, hi⟩ := hg
    obtain ⟨ok, ov, he⟩ := st
    have hlt : it < s.heap.objs.size := Heap.lt_size he
    have hen : es[i]? = some es[i] := by simp [hi]
    obtain ⟨⟨kx, rk⟩, vx, rv⟩ := hv i _ hen
    refine wpAny_pyNext_items_item_raw he ⟨o, dO_at I h1, hx, hd⟩ hi fun h' ho hT hz hk => ⟨_, rfl, wpAny_letOwnedTupleGo_items (s := { s with heap := h' }) ho fun h'' he' sb => ?_⟩
    have hT2 : h''.get? s.heap.objs.size = some { cls := .type "tuple", data := .seq #[es[i].key, es[i].val] } := (sb.2 _ (Nat.ne_of_gt hlt)).trans hT
    have I1 : Inv X pins σ (upd H s.heap.objs.size (.tup [kx, vx])) { s with heap := h'' } :=
      I.turnedNew (t' := s.toks) (ch := [it]) (fun b ob hb e => (sb.2 b (by simpa using hb)).trans (hk b ob (by simpa using hb) e)) hf (Nat.le_refl _)
        ⟨by show 2 ≤ sizeLine; decide, [es[i].key, es[i].val], .cons rk (.cons rv .nil), ⟨_, hT2, rfl, _, rfl⟩⟩
    refine ⟨.ref s.heap.objs.size, _, I1, rfl, ⟨_, _, kx, vx, hen, rk, rv, rfl, I.hok.fresh (Nat.le_refl _), rfl⟩, ⟨_, _, he'⟩, fun b hb => ?_⟩
    obtain rfl : b = it := by simpa using hb
    rw [upd_ne (Nat.ne_of_lt hlt)]
    exact (hf _ (by simp)).1
  done := by
    intro X hP hw hK hc i pins s σ H E I hf st hg
    subst hP hw hK
    obtain ⟨h1, hi⟩ := hg
    obtain ⟨f0, f1, f2, f3, f4, f5⟩ := hf it (by simp)
    obtain ⟨ok, ov, he⟩ := st
    exact wpAny_pyNext_items_end_raw (I.ok.hd hc) he ⟨o, dO_at I h1, hx, hd⟩ (by omega) fun h' eb => ⟨rfl, I.turned (t' := s.toks) (fun b ob hb e => eb b ob hb e) f0 f1 f3 f4 f5⟩
  self := fun A i s Q E st h => let ⟨_, _, e⟩ := st; wpAny_pyIter_itemiter e h
end
section
variable {b : Bx} {pins : List (Addr × Obj)} {σ σ' : L2.St} {N : Nh} {F H : Hp} {En' : En} {s : Shared} {tg : Expr} {pos apos : Pos} {e : Expr}
/-- a dict that is held -/
theorem held_dic {kvs : KV2} {x : V} (ok : Ok b.lb N F En' σ' H) (hh : Held b.lb N F H (.dic kvs) x) : ∃ a o, x = .ref a ∧ H a = some (dO a o) ∧ (a == sysModules) = false ∧ DicR b.lb F kvs o ∧
    ∀ {N' F' E' σ'' H'}, Same F F' → Same N.h N'.h → Ok b.lb N' F' E' σ'' H' → H' a = some (dO a o) := by
  rcases hh with r | ⟨rt, a', o', e', hN, hH⟩
  · rw [Rep] at r
    obtain ⟨a, o, e, q, z, r⟩ := r
    exact ⟨a, o, e, ok.sub _ _ q, z, r, fun {N' F' E' σ'' H'} sF sN ok' => ok'.sub _ _ (sF _ _ q)⟩
  · obtain ⟨a, o, e, q, z, r⟩ := rt
    have ea : a' = a := by rw [e] at e'; exact (V.ref.inj e').symm
    rw [ea, q] at hH
    rw [ea] at hN
    have eo : o' = dO a o := (Option.some.inj hH).symm
    rw [eo] at hN
    exact ⟨a, o, e, q, z, r, fun {N' F' E' σ'' H'} sF sN ok' => ok'.nsub _ _ (sN _ _ hN)⟩
theorem iter_vals {kvs : KV2} {x : V} {u : Value} {R : It → Hp → Prop} (I : Inv b.X pins σ H s) (ok : Ok b.lb N F En' σ' H) (hh : Held b.lb N F H (.dic kvs) x) (ru : RelV x u) {cpos : Pos}
    (q : ∀ J, Feed b.lb J N F (kvs.map (·.2)) → R J H) : ∃ a, u = .ref a ∧ s.TypeIs (.ref a) "dict" ∧ (∀ a', Value.ref a = .ref a' → ∃ ob, s.heap.get? a' = some ob ∧ ob.dict = none) ∧
      wpAny (model b.X.prog b.X.w) b.X.A (callWith cpos (.builtin "dict.values") [.ref a] [] []) (fun v s1 => wpAny (model b.X.prog b.X.w) b.X.A (pyIter v) (PIE b.X pins σ tg R) b.X.xe s1) b.X.xe s := by
  obtain ⟨a, o, rfl, h1, hz, hr, st⟩ := held_dic ok hh
  cases ru
  obtain ⟨es, ep, hx, hdd, hsz, hk⟩ := vals_of hr
  have hg := dO_at I h1
  refine ⟨a, rfl, ⟨o, hg, hx.1⟩, fun a' e => by cases e; exact ⟨o, hg, hx.2.1⟩, ?_⟩
  have I2 : Inv b.X pins σ H { s with heap := s.heap.push { cls := .type "dict_values", data := .fields #[.ref a] } } := I.kept (t' := s.toks) fun b ob q => Heap.get?_push_of_some _ q
  have fin : wpAny (model b.X.prog b.X.w) b.X.A (pyIter (.ref s.heap.objs.size)) (PIE b.X pins σ tg R) b.X.xe { s with heap := s.heap.push { cls := .type "dict_values", data := .fields #[.ref a] } } := by
    refine wpAny_pyIter_values_raw (d := a) ⟨_, Heap.get?_push_size _ rfl, rfl, rfl⟩ ⟨o, dO_at I2 h1, hx, hdd⟩ (pi_one (tk := s.toks) I2 _ (turn_w (o := o) hx hdd fun i en he => ?_) ⟨_, Heap.get?_push_size _ rfl, rfl, rfl⟩ (q _ ⟨?_, ?_, ?_⟩))
    · obtain ⟨k, d, kx, x, _, _, _, rx, _⟩ := hk i en he
      exact ⟨x, rx⟩
    · intro i N' F' E' σ'' H' sF sN ok' hi
      exact ⟨st sF sN ok', by rw [hsz]; simpa using hi⟩
    · intro i N' F' E' σ'' H' sF sN ok' hi
      exact ⟨st sF sN ok', by rw [hsz]; simpa using hi⟩
    · intro i N' F' E' σ'' H' x H'' d sF sN ok' hi hy
      obtain ⟨rfl, en, he, rx⟩ := hy
      obtain ⟨k, d', kx, x', h2, _, _, h4, h5⟩ := hk i en he
      rw [List.getElem?_map, h2] at hi
      cases hi
      rw [relV_inj rx h4]
      exact ⟨F', Same.refl F', ok', Rep.mono sF _ _ h5⟩
  exact method_meetsIn PySem.F.slot_dict_values PySem.F.entry_dict_values rfl (PySem.evalArgs_none ⟨rfl, ⟨o, hg, hx.1⟩, PySem.F.args_dict_values_1 _, _, meets_dict_values_raw a hz, ⟨es, ep, o, hg, hx, hdd⟩, fin⟩)
theorem iter_items {elts : List Expr} {kk : Nat} {tpos : Pos} {kvs : KV2} {x : V} {u : Value} {R : It → Hp → Prop} (I : Inv b.X pins σ H s) (ok : Ok b.lb N F En' σ' H) (hh : Held b.lb N F H (.dic kvs) x) (ru : RelV x u) {cpos : Pos}
    (q : ∀ J, Feed b.lb J N F (kvs.map fun p => .tup [p.1, p.2]) → R J H) : ∃ a, u = .ref a ∧ s.TypeIs (.ref a) "dict" ∧ (∀ a', Value.ref a = .ref a' → ∃ ob, s.heap.get? a' = some ob ∧ ob.dict = none) ∧
      wpAny (model b.X.prog b.X.w) b.X.A (callWith cpos (.builtin "dict.items") [.ref a] [] []) (fun v s1 => wpAny (model b.X.prog b.X.w) b.X.A (pyIter v) (PIE b.X pins σ (.Tuple elts kk tpos) R) b.X.xe s1) b.X.xe s := by
  obtain ⟨a, o, rfl, h1, hz, hr, st⟩ := held_dic ok hh
  cases ru
  obtain ⟨es, ep, hx, hdd, hsz, hk⟩ := vals_of hr
  have hg := dO_at I h1
  refine ⟨a, rfl, ⟨o, hg, hx.1⟩, fun a' e => by cases e; exact ⟨o, hg, hx.2.1⟩, ?_⟩
  have I2 : Inv b.X pins σ H { s with heap := s.heap.push { cls := .type "dict_items", data := .fields #[.ref a] } } := I.kept (t' := s.toks) fun b ob q => Heap.get?_push_of_some _ q
  have fin : wpAny (model b.X.prog b.X.w) b.X.A (pyIter (.ref s.heap.objs.size)) (PIE b.X pins σ (.Tuple elts kk tpos) R) b.X.xe { s with heap := s.heap.push { cls := .type "dict_items", data := .fields #[.ref a] } } := by
    refine wpAny_pyIter_items_raw (d := a) ⟨_, Heap.get?_push_size _ rfl, rfl, rfl⟩ ⟨o, dO_at I2 h1, hx, hdd⟩ (pi_one (tk := s.toks) I2 _ (turn_p (o := o) hx hdd fun i en he => ?_) ⟨.none, .none, Heap.get?_push_size _ rfl⟩ (q _ ⟨?_, ?_, ?_⟩))
    · obtain ⟨k, d, kx, x, _, rk, _, rx, _⟩ := hk i en he
      exact ⟨⟨kx, rk⟩, x, rx⟩
    · intro i N' F' E' σ'' H' sF sN ok' hi
      exact ⟨st sF sN ok', by rw [hsz]; simpa using hi⟩
    · intro i N' F' E' σ'' H' sF sN ok' hi
      exact ⟨st sF sN ok', by rw [hsz]; simpa using hi⟩
    · intro i N' F' E' σ'' H' x H'' d sF sN ok' hi hy
      obtain ⟨T, en, kx, vx, he, rk, rv, rfl, hT, rfl⟩ := hy
      obtain ⟨k, d', kx', x', h2, h3, h4, h5, h6⟩ := hk i en he
      rw [List.getElem?_map, h2] at hi
      cases hi
      rw [relV_inj rk h3, relV_inj rv h5]
      obtain ⟨F2, s2, ok2⟩ := res_tup ok' (repA_cons (Rep.mono sF _ _ h4) (repA_cons (Rep.mono sF _ _ h6) repA_nil)) hT
      exact ⟨F2, s2, ok2.pop, ok2.last⟩
  exact method_meetsIn PySem.F.slot_dict_items PySem.F.entry_dict_items rfl (PySem.evalArgs_none ⟨rfl, ⟨o, hg, hx.1⟩, PySem.F.args_dict_items_1 _, _, meets_dict_items_raw a hz, ⟨es, ep, o, hg, hx, hdd⟩, fin⟩)
def bVals (t : BO) : BA := fun E Q X => t E (fun d E' => ∃ kvs, d = .dic kvs ∧ Q (kvs.map (·.2)) E') X
def bItems (t : BO) : BA := fun E Q X => t E (fun d E' => ∃ kvs, d = .dic kvs ∧ Q (kvs.map fun p => .tup [p.1, p.2]) E') X
theorem bi_vals {t : BO} (h : BV b e t) (hbase : attributeBase e "values" b.X.env (eval e b.X.env) = eval e b.X.env := by rfl) (hline : (apos.endLine == pos.line) = true := by rfl) : BIt b tg (.Call (.Attribute e "values" apos) [] [] pos) (bVals t) := by
  refine ⟨fun pins s σ H R I ⟨N, F, E, QB, XB, ok, ht, hQ, hX⟩ => ?_⟩
  refine wpAny_Call_method (T := "dict") (id := "dict.values") hbase rfl hline PySem.F.plainAttrs_dict PySem.F.slot_dict_values PySem.F.type_dict_values (thn (BV.runB h I ok ht hX) fun uu s1 ⟨v, H1, F', E', d, I1, rv, s', ok', rd, kvs, hd, q⟩ => ?_)
  subst hd
  obtain ⟨a, rfl, h1, h2, h3⟩ := iter_vals (tg := tg) (cpos := pos) I1 ok' (.inl rd) rv fun J fd => hQ F' E' _ H1 J s' ok' fd q
  exact ⟨h1, h2, h3⟩
theorem bi_items {elts : List Expr} {kk : Nat} {tpos : Pos} {t : BO} (h : BV b e t) (hbase : attributeBase e "items" b.X.env (eval e b.X.env) = eval e b.X.env := by rfl) (hline : (apos.endLine == pos.line) = true := by rfl) : BIt b (.Tuple elts kk tpos) (.Call (.Attribute e "items" apos) [] [] pos) (bItems t) := by
  refine ⟨fun pins s σ H R I ⟨N, F, E, QB, XB, ok, ht, hQ, hX⟩ => ?_⟩
  refine wpAny_Call_method (T := "dict") (id := "dict.items") hbase rfl hline PySem.F.plainAttrs_dict PySem.F.slot_dict_items PySem.F.type_dict_items (thn (BV.runB h I ok ht hX) fun uu s1 ⟨v, H1, F', E', d, I1, rv, s', ok', rd, kvs, hd, q⟩ => ?_)
  subst hd
  obtain ⟨a, rfl, h1, h2, h3⟩ := iter_items (elts := elts) (kk := kk) (tpos := tpos) (cpos := pos) I1 ok' (.inl rd) rv fun J fd => hQ F' E' _ H1 J s' ok' fd q
  exact ⟨h1, h2, h3⟩
end
end B
/-! BEq: == and != of dicts. -/
namespace B
open PySem PySem.Spec PyProof.Rows L2
section
variable {prog : Program} {w : World} {K : Type} [DecidableEq K] {knd : HeapKind prog w K} {A : Around} {E : Value → Shared → Prop} {s : Shared}
/-- how the values of two dicts compare, key by key -/
inductive HitsH {K : Type} [DecidableEq K] (A : Around) (s : Shared) (xb : List (K × Addr × Value)) : List (K × Addr × Value) → Bool → Prop
  | nil : HitsH A s xb [] true
  | miss {k : K} {a : Addr} {v : Value} {r : List (K × Addr × Value)} : atKey xb k = none → HitsH A s xb ((k, a, v) :: r) false
  | hit {k : K} {a c : Addr} {v y : Value} {r : List (K × Addr × Value)} {e q : Bool} : atKey xb k = some (c, y) → SeqAt.EqAt A s v y e → HitsH A s xb r q → HitsH A s xb ((k, a, v) :: r) (e && q)
theorem HitsH.inv {xb : List (K × Addr × Value)} {k : K} {a : Addr} {v : Value} {r : List (K × Addr × Value)} {q : Bool} (h : HitsH A s xb ((k, a, v) :: r) q) :
    (atKey xb k = none ∧ q = false) ∨ ∃ c y e q', atKey xb k = some (c, y) ∧ SeqAt.EqAt A s v y e ∧ HitsH A s xb r q' ∧ q = (e && q') := by
  cases h with
  | miss hn => exact .inl ⟨hn, rfl⟩
  | hit hy he hr => exact .inr ⟨_, _, _, _, hy, he, hr, rfl⟩
theorem pairs_heap {nm : String} {a b : Addr} {xa xb : List (K × Addr × Value)} {r : Bool} {Q : Bool → Shared → Prop} (hu : knd.room A) (ha : (a == sysModules) = false) (hb : (b == sysModules) = false)
    (da : s.heap.DictOfH knd a xa) (db : s.heap.DictOfH knd b xb) (hits : xa.length = xb.length → HitsH A s xb xa r) (h : Q (xa.length == xb.length && r) s) : wpAny (model prog w) A (Builtin.Dict.samePairs nm a b) Q E s := by
  obtain ⟨oa, es, ep, hoa, _, hda, hea, hisa, _⟩ := da
  obtain ⟨ob, es', ep', hob, _, hdb, heb, hisb, hnb⟩ := db
  have hla : xa.length = es.size := (size_of_entries hea).symm
  have hlb : xb.length = es'.size := (size_of_entries heb).symm
  rw [hla, hlb] at h
  unfold Builtin.Dict.samePairs Builtin.Dict.showsAll
  rw [if_neg (show ¬ (a == sysModules) = true by rw [ha]; exact Bool.false_ne_true), if_neg (show ¬ (b == sysModules) = true by rw [hb]; exact Bool.false_ne_true)]
  refine wpAny_bind (wpAny_pure (wpAny_bind (wpAny_pure (wpAny_bind (wpAny_dictEntries hoa hda ?_)))))
  dsimp only
  refine wpAny_bind (wpAny_dictEntries hob hdb ?_)
  by_cases hsz : es.size = es'.size
  case neg =>
    rw [if_pos (by simpa using hsz)]
    have hbf : (es.size == es'.size) = false := by simpa using hsz
    rw [hbf, Bool.false_and] at h
    exact wpAny_bind (wpAny_rule (wpAny_pure h))
  case pos =>
    have h' : Q r s := by simpa [hsz] using h
    have hits' := hits (by rw [hla, hlb]; exact hsz)
    rw [if_neg (by rw [hsz]; simp)]
    refine wpAny_bind (wpAny_dictEpoch hoa hda (wpAny_bind ?_))
    rw [Std.Legacy.Range.forIn_eq_forIn_range']
    simp only [Std.Legacy.Range.size, Nat.sub_zero, Nat.add_sub_cancel, Nat.div_one]
    refine wpAny_forIn_list _ (fun rest q s' => s' = s ∧ q = (none, ()) ∧ ∃ i, rest = List.range' i (es.size - i) ∧ i ≤ es.size ∧ HitsH A s xb (xa.drop i) r) _ ?_ ?_ _ _ ⟨rfl, rfl, 0, by simp, Nat.zero_le _, hits'⟩
    · rintro x rest q s' ⟨rfl, rfl, i, hr, hi, hpre⟩
      have hlt : i < es.size := by
        rcases Nat.lt_or_ge i es.size with h | h
        · exact h
        · rw [Nat.sub_eq_zero_of_le h] at hr; simp at hr
      obtain ⟨rfl, hrest⟩ : x = i ∧ rest = List.range' (i + 1) (es.size - (i + 1)) := by
        have e : es.size - i = (es.size - (i + 1)) + 1 := by omega
        rw [e, List.range'_succ] at hr
        injection hr with h1 h2
        exact ⟨h1, h2⟩
      refine wpAny_bind (wpAny_dictEntries hoa hda ?_)
      rw [Array.getElem?_eq_getElem hlt]
      have hlt' : x < xa.length := by rw [hla]; exact hlt
      obtain ⟨k, ka, v, hkv⟩ : ∃ k ka v, xa[x] = (k, ka, v) := ⟨_, _, _, rfl⟩
      have hdrop : xa.drop x = (k, ka, v) :: xa.drop (x + 1) := by rw [← hkv]; exact List.drop_eq_getElem_cons hlt'
      have hen : es[x] = entryOfKey knd (k, ka, v) := by
        have := entry_at hea x
        rw [Array.getElem?_eq_getElem hlt, List.getElem?_eq_getElem hlt', hkv] at this
        exact Option.some.inj this
      have hisk : knd.is s'.heap k ka := by
        have := hisa _ (List.getElem_mem hlt')
        rw [hkv] at this; exact this
      rw [hdrop] at hpre
      rw [hen]
      show wpAny _ _ (holding [Value.ref ka, v] _ >>= _) _ _ _
      refine wpAny_bind (wpAny_holding (wpAny_bind (wpAny_dictFind_heap hu hisk hob hdb heb hisb hnb (fun hno => ?_) fun j p hj => ?_)))
      · have hn : atKey xb k = none := atKey_none_of_get fun j p => hno j p
        rcases hpre.inv with ⟨_, er⟩ | ⟨_, _, _, _, hy, _⟩
        · rw [er] at h'
          refine wpAny_pure ?_
          show wpAny _ _ (if (!false) = true then _ else _) _ _ _
          rw [if_pos (by decide)]
          exact wpAny_pure (wpAny_pure h')
        · rw [hn] at hy; exact nomatch hy
      · have hv' : atKey xb k = some p := atKey_of_get hnb hj
        have hjl : j < es'.size := by rw [← hlb]; exact (List.getElem?_eq_some_iff.mp hj).1
        have hej : es'[j]? = some (entryOfKey knd (k, p)) := by rw [entry_at heb j, hj]; rfl
        refine wpAny_bind (wpAny_dictEntries hob hdb ?_)
        rw [hej]
        rcases hpre.inv with ⟨hn, _⟩ | ⟨c, y, e, q', hy, he, hrr, er⟩
        · rw [hv'] at hn; exact nomatch hn
        · have ep' : p = (c, y) := Option.some.inj (hv'.symm.trans hy)
          subst ep'
          refine wpAny_holding (he prog w _ _ ?_)
          cases e with
          | false =>
            rw [er, Bool.false_and] at h'
            show wpAny _ _ (if (!false) = true then _ else _) _ _ _
            rw [if_pos (by decide)]
            exact wpAny_pure (wpAny_pure h')
          | true =>
            rw [Bool.true_and] at er
            rw [← er] at hrr
            show wpAny _ _ (if (!true) = true then _ else _) _ _ _
            rw [if_neg (by decide)]
            refine wpAny_bind (wpAny_dictEpoch hoa hda ?_)
            rw [if_neg (by simp)]
            exact wpAny_pure ⟨rfl, rfl, x + 1, hrest, hlt, hrr⟩
    · rintro q s' ⟨rfl, rfl, i, hr, hi, hpre⟩
      have hin : i = es.size := by
        rcases Nat.lt_or_ge i es.size with h | h
        · have e : es.size - i = (es.size - (i + 1)) + 1 := by omega
          rw [e, List.range'_succ] at hr; exact nomatch hr
        · exact Nat.le_antisymm hi h
      refine wpAny_pure ?_
      rw [hin, ← hla, List.drop_length] at hpre
      cases hpre
      exact h'

theorem eqne_heap (ne : Bool) {a b : Addr} {xa xb : List (K × Addr × Value)} {r : Bool} {Q : Value → Shared → Prop} (hr : knd.room A.in1) (ha : (a == sysModules) = false) (hb : (b == sysModules) = false)
    (da : s.heap.DictOfH knd a xa) (db : s.heap.DictOfH knd b xb) (hu : A.units < cLine) (hits : xa.length = xb.length → HitsH A.in1 s xb xa r) (h : Q (.bool (ne ^^ (xa.length == xb.length && r))) s) :
    wpAny (model prog w) A (compareOp (if ne then .NotEq else .Eq) (.ref a) (.ref b)) Q E s := by
  cases ne with
  | false =>
    refine wpAny_richCompare_same_room (op := .Eq) da.typeIs db.typeIs PySem.F.slot_dict_eq (wpAny_call_entry PySem.F.slot_dict_eq da.typeIs PySem.F.entry_dict_eq ?_ (PySem.F.args_dict_eq_2 _ _)) hu
    show wpAny _ _ (Builtin.Dict.dictSlotArgs "__eq__" ⟨[.ref a, .ref b], []⟩ >>= _) _ _ s
    refine wpAny_bind ?_
    unfold Builtin.Dict.dictSlotArgs
    refine wpAny_bind (wpAny_notOrdered_dict da.typeIs ?_)
    show wpAny _ _ (pure (Value.ref a, Value.ref b)) _ _ s
    refine wpAny_pure (wpAny_bind (wpAny_isInstance (T := "dict") db.typeIs PySem.F.sub_dict_dict ?_))
    simp only [Bool.not_true, Bool.false_eq_true, if_false]
    refine wpAny_bind (wpAny_pure (wpAny_bind (wpAny_pure (wpAny_bind (pairs_heap hr ha hb da db hits ?_)))))
    exact wpAny_pure ⟨_, rfl, (fun x => nomatch x), by simpa using h⟩
  | true =>
    refine wpAny_richCompare_same_room (op := .NotEq) da.typeIs db.typeIs PySem.F.slot_dict_ne (wpAny_call_entry PySem.F.slot_dict_ne da.typeIs PySem.F.entry_dict_ne ?_ (PySem.F.args_dict_ne_2 _ _)) hu
    show wpAny _ _ (Builtin.Dict.dictSlotArgs "__ne__" ⟨[.ref a, .ref b], []⟩ >>= _) _ _ s
    refine wpAny_bind ?_
    unfold Builtin.Dict.dictSlotArgs
    refine wpAny_bind (wpAny_notOrdered_dict da.typeIs ?_)
    show wpAny _ _ (pure (Value.ref a, Value.ref b)) _ _ s
    refine wpAny_pure (wpAny_bind (wpAny_isInstance (T := "dict") db.typeIs PySem.F.sub_dict_dict ?_))
    simp only [Bool.not_true, Bool.false_eq_true, if_false]
    refine wpAny_bind (wpAny_pure (wpAny_bind (wpAny_pure (wpAny_bind (pairs_heap hr ha hb da db hits ?_)))))
    exact wpAny_pure ⟨_, rfl, (fun x => nomatch x), by simpa using h⟩
end
/-! ### over data -/
def hitD (kb : KV2) (p : D × D) : Bool := match dFind kb p.1 with
  | some d => PyData.eqv p.2.py d.py
  | none => false
def eqvD (ka kb : KV2) : Bool := ka.length == kb.length && ka.all (hitD kb)
/-- the dicts' keys are of one kind, their values have == -/
def eqFit (ka kb : KV2) : Bool := ((ka.all (fun p => p.1.isTup) && kb.all fun p => p.1.isTup) || (ka.all (fun p => p.1.isStr) && kb.all fun p => p.1.isStr)) && (ka.all (fun p => p.2.eqs) && kb.all fun p => p.2.eqs)
def dEqA (ne : Bool) : F2 := fun x y Q => match x, y with
  | .dic ka, .dic kb => eqFit ka kb = true ∧ Q (.fr (.bl (ne ^^ eqvD ka kb)))
  | _, _ => dEq ne x y Q
section
variable {b : Bx} {pins : List (Addr × Obj)} {σ σ' : L2.St} {N : Nh} {F H : Hp} {E : En} {s : Shared}
theorem hits_X (I : Inv b.X pins σ H s) (hS : SmAt s) (sF : Same F H) (hu : b.X.A.units + 70 < cLine) {kb : KV2} {xb : List (NestedKey × Addr × Value)} (rb : RepX b.lb F kb xb) (hb : kb.all (fun p => p.2.eqs) = true) :
    ∀ {ka : KV2} {xa : List (NestedKey × Addr × Value)}, RepX b.lb F ka xa → ka.all (fun p => p.2.eqs) = true → HitsH b.X.A.in1 s xb xa (ka.all (hitD kb))
  | [], xa, ra, _ => by rw [RepX] at ra; subst ra; exact .nil
  | (k, d) :: r, xa, ra, ha => by
    rw [RepX] at ra
    obtain ⟨nk, c, u, v, us', e, hk, hr, rv, h1, h2⟩ := ra
    subst e
    rw [List.all_cons, Bool.and_eq_true] at ha
    have ih := hits_X I hS sF hu rb hb h2 ha.2
    have ff := repX_find hk rb
    rw [List.all_cons]
    unfold hitD at ih ⊢
    cases q : dFind kb k with
    | none =>
      rw [q] at ff
      simp only [Bool.false_and]
      exact .miss ff
    | some d' =>
      rw [q] at ff
      obtain ⟨c', u', v', g1, g2, g3⟩ := ff
      have hd' : d'.eqs = true := by
        unfold dFind at q
        obtain ⟨p, hp, e⟩ := Option.map_eq_some_iff.mp q
        have := List.all_eq_true.mp hb p (List.mem_of_find?_eq_some hp)
        rw [← e]; exact this
      obtain ⟨l1, l2, l3⟩ := eqs_lay ha.1
      obtain ⟨m1, m2, m3⟩ := eqs_lay hd'
      obtain ⟨as, q1, _⟩ := Rep.reads I hS sF d v u l1 h1 rv
      obtain ⟨bs, q2, _⟩ := Rep.reads I hS sF d' v' u' m1 g3 g2
      exact .hit g1 (PySem.W.keq_at q1 q2 (by unfold SeqAt.shaped; rw [l2, decide_eq_true l3]; rfl) (by unfold SeqAt.shaped; rw [m2, decide_eq_true m3]; rfl) (by show b.X.A.units + 1 + 64 < cLine; omega)) ih
theorem hits_S (I : Inv b.X pins σ H s) (hS : SmAt s) (sF : Same F H) (hu : b.X.A.units + 70 < cLine) {kb : KV2} {xb : List (Str × Value)} (rb : RepS b.lb F kb xb) (hb : kb.all (fun p => p.2.eqs) = true) :
    ∀ {ka : KV2} {xa : List (Str × Value)}, RepS b.lb F ka xa → ka.all (fun p => p.2.eqs) = true → PySem.W.KeqHits b.X.A.in1 s xb xa (ka.all (hitD kb))
  | [], xa, ra, _ => by rw [RepS] at ra; subst ra; exact .nil
  | (k, d) :: r, xa, ra, ha => by
    rw [RepS] at ra
    obtain ⟨z, u, v, us', e, e2, rv, h1, h2⟩ := ra
    subst e; subst e2
    rw [List.all_cons, Bool.and_eq_true] at ha
    have ih := hits_S I hS sF hu rb hb h2 ha.2
    have ff := repS_find (z := z) rb
    rw [List.all_cons]
    unfold hitD at ih ⊢
    cases q : dFind kb (.str z) with
    | none =>
      rw [q] at ff
      simp only [Bool.false_and]
      exact .miss ff
    | some d' =>
      rw [q] at ff
      obtain ⟨u', v', g1, g2, g3⟩ := ff
      have hd' : d'.eqs = true := by
        unfold dFind at q
        obtain ⟨p, hp, e⟩ := Option.map_eq_some_iff.mp q
        have := List.all_eq_true.mp hb p (List.mem_of_find?_eq_some hp)
        rw [← e]; exact this
      obtain ⟨l1, l2, l3⟩ := eqs_lay ha.1
      obtain ⟨m1, m2, m3⟩ := eqs_lay hd'
      obtain ⟨as, q1, _⟩ := Rep.reads I hS sF d v u l1 h1 rv
      obtain ⟨bs, q2, _⟩ := Rep.reads I hS sF d' v' u' m1 g3 g2
      exact .hit g1 (PySem.W.keq_at q1 q2 (by unfold SeqAt.shaped; rw [l2, decide_eq_true l3]; rfl) (by unfold SeqAt.shaped; rw [m2, decide_eq_true m3]; rfl) (by show b.X.A.units + 1 + 64 < cLine; omega)) ih
theorem op_eqA (hu : b.X.A.units + 70 < cLine) (ne : Bool) : OpR b.X (compareOp (if ne then .NotEq else .Eq)) (rD2 b (dEqA ne)) := by
  intro pins s σ H x y v u Q I rx ry ⟨N, F, E, σ', d, e, QB, ok, r1, r2, hf, k⟩
  have plain : dEq ne d e QB → wpAny (model b.X.prog b.X.w) b.X.A (compareOp (if ne then .NotEq else .Eq) v u) (EP b.X pins σ Q) b.X.xe s := fun hf => by
    have go := op2_eq (b := b) (neg := ne) N F E σ' H d e x y QB Q ok r1 r2 hf k
    cases ne with
    | false => exact op_eqB (by omega) pins s σ H x y v u Q I rx ry go
    | true => exact op_neB (by omega) pins s σ H x y v u Q I rx ry go
  cases d with
  | dic ka =>
    cases e with
    | dic kb =>
      obtain ⟨h1, q⟩ := hf
      unfold eqFit at h1
      rw [Bool.and_eq_true, Bool.and_eq_true] at h1
      obtain ⟨hk, ha, hb⟩ := h1
      obtain ⟨p1, o1, rfl, g1, z1, c1⟩ := r1
      obtain ⟨p2, o2, rfl, g2, z2, c2⟩ := r2
      cases rx; cases ry
      have f1 := ext_at I g1
      have f2 := ext_at I g2
      have hS := ok.smAt I
      have fin : EP b.X pins σ Q (.bool (ne ^^ eqvD ka kb)) s := ⟨.bl _, H, I, rfl, k F _ _ H (Same.refl F) (ok.push rep_bl) q⟩
      rw [Bool.or_eq_true, Bool.and_eq_true, Bool.and_eq_true] at hk
      rcases hk with ⟨k1, k2⟩ | ⟨k1, k2⟩
      · obtain ⟨xa, ⟨es, ep, hx, hdd, he, hn, hdp⟩, ra⟩ := dicR_tup c1 k1
        obtain ⟨xb, ⟨es2, ep2, hx2, hdd2, he2, hn2, hdp2⟩, rb⟩ := dicR_tup c2 k2
        have da : s.heap.DictOfH (nestedKind b.X.prog b.X.w) p1 xa := ⟨o1, es, ep, f1, hx, hdd, he, fun x hx => ⟨isX I ok.sub ra x hx, hdp x hx⟩, hn⟩
        have db : s.heap.DictOfH (nestedKind b.X.prog b.X.w) p2 xb := ⟨o2, es2, ep2, f2, hx2, hdd2, he2, fun x hx => ⟨isX I ok.sub rb x hx, hdp2 x hx⟩, hn2⟩
        refine eqne_heap ne (by show b.X.A.units + 1 + 8 < cLine; omega) z1 z2 da db (by omega) (fun _ => hits_X I hS ok.sub hu rb hb ra ha) ?_
        rw [rX_len ra, rX_len rb]
        exact fin
      · obtain ⟨xa, hd1, ra⟩ := dicR_str c1 k1
        obtain ⟨xb, hd2, rb⟩ := dicR_str c2 k2
        have da := Heap.dictOf_iff.mpr ⟨o1, f1, hd1⟩
        have db := Heap.dictOf_iff.mpr ⟨o2, f2, hd2⟩
        have hl : (xa.length == xb.length && ka.all (hitD kb)) = eqvD ka kb := by unfold eqvD; rw [rS_len ra, rS_len rb]
        cases ne with
        | false => exact PySem.W.keq_eq z1 z2 da db (by omega) (fun _ => hits_S I hS ok.sub hu rb hb ra ha) (by rw [hl]; simpa using fin)
        | true => exact PySem.W.keq_ne z1 z2 da db (by omega) (fun _ => hits_S I hS ok.sub hu rb hb ra ha) (by rw [hl]; simpa using fin)
    | _ => exact plain hf
  | _ => exact plain hf
variable {Nm : List Str} {tbl : List (Nat × Str)} {gl : List Str} {k : Nat} {a c : Expr} {pos : Pos} {ta : BL} {tb : BO}
theorem be_eqA (g : Gd b Nm tbl gl k) (ha : BLe b a ta) (hc : BOp b c tb) : BE b (.Compare a [.Eq] [c] pos) (bBin (dEqA false) ta tb) := be_cmp (op_eqA g.u70 false) op2_D ha hc (nomark _)
theorem be_neA (g : Gd b Nm tbl gl k) (ha : BLe b a ta) (hc : BOp b c tb) : BE b (.Compare a [.NotEq] [c] pos) (bBin (dEqA true) ta tb) := be_cmp (op_eqA g.u70 true) op2_D ha hc (nomark _)
end
end B
/-! BDp: dict(pairs), list(d), sets of texts. -/
namespace B
open PySem PySem.Spec PyProof.Rows L2
section
variable {b : Bx} {a c e : Expr} {pos p : Pos} {t tb : BO} {ta : BL} {Nm : List Str} {tbl : List (Nat × Str)} {gl : List Str} {k : Nat} {pins : List (Addr × Obj)} {σ σ' : L2.St} {N : Nh} {F H : Hp} {E : En} {s : Shared}
def pairD (p : D × D) : D := .tup [p.1, p.2]
def dMerge (prs : KV2) : KV2 := prs.foldl (fun acc p => dPut acc p.1 p.2) []
def keyTup (k : D) : Bool := k.isTup && (match k.key with
  | some nk => decide (nk.depth ≤ 8)
  | none => false)
theorem keyTup_out {k : D} (h : keyTup k = true) : ∃ ds nk, k = .tup ds ∧ k.key = some nk ∧ nk.depth ≤ 8 := by
  unfold keyTup at h
  rw [Bool.and_eq_true] at h
  cases k with
  | tup ds =>
    cases q : (D.tup ds).key with
    | none => rw [q] at h; cases h.2
    | some nk => rw [q] at h; exact ⟨ds, nk, rfl, by first | rfl | exact q, of_decide_eq_true h.2⟩
  | _ => cases h.1
theorem prs_of (I : Inv b.X pins σ H s) (sF : Same F H) : ∀ {prs : KV2} {vs : List V} {us : List Value}, prs.all (fun p => keyTup p.1) = true → RepA b.lb F (prs.map pairD) vs → Vals vs us →
    ∃ (ts : List Addr) (xs : List (NestedKey × Addr × Value)), us = ts.map .ref ∧ ts.length = prs.length ∧ xs.length = prs.length ∧ (∀ (j : Nat) (x : NestedKey × Addr × Value), xs[j]? = some x → ∃ t, ts[j]? = some t ∧ IsTup s.heap t #[.ref x.2.1, x.2.2]) ∧
      (∀ x ∈ xs, (nestedKind b.X.prog b.X.w).is s.heap x.1 x.2.1) ∧ ∀ acc ax, RepX b.lb F acc ax → RepX b.lb F (prs.foldl (fun acc p => dPut acc p.1 p.2) acc) (storedAllH ax xs)
  | [], vs, us, _, ra, r => by
    rw [List.map_nil, RepA] at ra; subst ra; cases r
    exact ⟨[], [], rfl, rfl, rfl, (fun j x h => by simp at h), (fun x hx => absurd hx (by simp)), fun acc ax h => h⟩
  | (k, d) :: prs, vs, us, hk, ra, r => by
    rw [List.map_cons, RepA] at ra
    obtain ⟨v, vr, e, h1, h2⟩ := ra
    subst e
    rw [List.all_cons, Bool.and_eq_true] at hk
    obtain ⟨ds, nk, rfl, hnk, hd⟩ := keyTup_out hk.1
    have h1 : Rep b.lb F (.tup [.tup ds, d]) v := h1
    rw [Rep] at h1
    obtain ⟨t, ws, e, hq, hr⟩ := h1
    subst e
    rw [RepA] at hr
    obtain ⟨kv, wr, e, rk, hr⟩ := hr
    subst e
    rw [RepA] at hr
    obtain ⟨dv, wr2, e, rd, hr⟩ := hr
    subst e
    rw [RepA] at hr
    subst hr
    cases r with
    | cons r1 r2 =>
      cases r1
      obtain ⟨ts, xs, e1, e2, e3, e4, e5, e6⟩ := prs_of I sF hk.2 h2 r2
      obtain ⟨its, rv, hT⟩ := tup_at I sF hq
      obtain ⟨ku, du, rfl, rku, rdu⟩ := vals2 rv
      have ni := Rep.nested I sF _ nk kv ku hnk rk rku
      have rk' := rk
      rw [Rep] at rk'
      obtain ⟨ka, _, e, _⟩ := rk'
      subst e
      cases rku
      refine ⟨t :: ts, (nk, ka, du) :: xs, by rw [e1]; rfl, by simp [e2], by simp [e3], fun j x h => ?_, fun x hx => ?_, fun acc ax h => ?_⟩
      · cases j with
        | zero => cases h; exact ⟨t, rfl, hT⟩
        | succ j => exact e4 j x h
      · rcases List.mem_cons.mp hx with rfl | hx
        · exact ⟨ni, hd⟩
        · exact e5 x hx
      · exact e6 _ _ (repX_put hnk rk rdu rd h)
theorem foldPut_len : ∀ (prs acc : KV2), (prs.foldl (fun acc p => dPut acc p.1 p.2) acc).length ≤ acc.length + prs.length
  | [], acc => by simp
  | q :: prs, acc => by
    have h1 := foldPut_len prs (dPut acc q.1 q.2)
    have h2 := dPut_len acc q.1 q.2
    simp only [List.foldl_cons, List.length_cons]
    omega
def dDict : F1 := fun d Q => ∃ prs : KV2, d = .lst (prs.map pairD) ∧ prs.all (fun p => keyTup p.1) = true ∧ prs.length ≤ sizeLine ∧ Q (.ow (.dic (dMerge prs)))
theorem nodup_X {kvs : KV2} {o : Obj} {xs : List (NestedKey × Addr × Value)} (h : IsDictH b.X.prog b.X.w o xs) : (xs.map (·.1)).Nodup := let ⟨_, _, _, _, _, h, _⟩ := h; h
theorem cb_dict (hc : b.X.calm = true) (hu : b.X.A.units + 70 < cLine) : CallR b.X (.type "dict") (rD1 b dDict) := by
  intro pins s σ H xs us Q I r h
  obtain ⟨N, F, E, σ', d, x, QB, rfl, ok, rx, ⟨prs, rfl, hk, hz, q⟩, kk⟩ := h
  obtain ⟨u, rfl, ru⟩ := vals1 r
  obtain ⟨l, vs, rfl, h1, h2⟩ := rx
  cases ru
  obtain ⟨its, rv, pl, _⟩ := I.list (.inl (.inl h1))
  obtain ⟨ts, ks, e1, e2, e3, e4, e5, e6⟩ := prs_of I ok.sub hk h2 rv
  subst e1
  obtain ⟨o, n, ho, hcl, hdn, hdat⟩ := pl
  have okk : PlainSeq "list" s.heap l (ts.map Value.ref).toArray ∧ PairItems s.heap (ts.map Value.ref).toArray (fun j => ts.getD j 0) (ks.map fun x => (Value.ref x.2.1, x.2.2)) := by
    refine ⟨⟨o, n, ho, hcl, hdn, hdat⟩, by simp [e2, e3], fun j ky v hj => ?_⟩
    rw [List.getElem?_map] at hj
    obtain ⟨x, hx, e⟩ := Option.map_eq_some_iff.mp hj
    cases e
    obtain ⟨t, ht, hT⟩ := e4 j x hx
    have eg : ts.getD j 0 = t := by rw [List.getD_eq_getElem?_getD, ht]; rfl
    refine ⟨by simp [ht, eg], ?_⟩
    show PairAt s.heap (ts.getD j 0) _ _
    rw [eg]
    exact .inl hT
  have hrm : (nestedKind b.X.prog b.X.w).room b.X.A.in1.in1 := by show b.X.A.units + 1 + 1 + 8 < cLine; omega
  refine call_dict_pairsH (knd := nestedKind b.X.prog b.X.w) (ps := ks) (PairArg.list l (ts.map Value.ref).toArray (fun j => ts.getD j 0) (ks.map fun x => (Value.ref x.2.1, x.2.2))) (I.ok.hd hc) hrm okk ⟨by simp, fun i ky v hi => ?_⟩ (fun h' hk' x hx => ?_) (by simp [e3]; exact hz) fun h' tk hd' hkp => ?_
  · have hi : (ks.map fun x => (Value.ref x.2.1, x.2.2))[i]? = some (ky, v) := hi
    rw [List.getElem?_map] at hi
    obtain ⟨x, hx, e⟩ := Option.map_eq_some_iff.mp hi
    cases e
    exact ⟨x.1, x.2.1, hx, rfl⟩
  · exact nestedKind_stays.stays (fun b' o' vs' n' hb hs' => hk' b' o' (Nat.ne_of_lt (Heap.lt_size hb)) (by simp) hb) (e5 x hx)
  · obtain ⟨o', es, ep, ho', hx', hd2, he, his, hn⟩ := hd'
    have I2 : Inv b.X pins σ (upd H s.heap.objs.size (dO s.heap.objs.size o')) { s with heap := h', toks := tk } := I.laid (t' := tk) (fun b' u' e => hkp b' u' (by simp) e) (Nat.le_refl _) ⟨ho', ⟨_, ho'⟩, fun _ _ z k => k _ z⟩
    have n := I.hok.fresh (Nat.le_refl s.heap.objs.size)
    refine ⟨.ref s.heap.objs.size, _, I2, rfl, kk F _ _ _ (Same.refl F) (ok.newOw (o := .dic (dMerge prs)) (same_upd n) n ⟨o', upd_same, beq_eq_false_iff_ne.mpr (Nat.ne_of_gt I.big), ?_, .inr ⟨storedAllH [] ks, ⟨es, ep, hx', hd2, he, hn, fun x hx => (his x hx).2⟩, e6 [] [] (by rw [RepX])⟩⟩) q⟩
    have := foldPut_len prs []
    show (prs.foldl (fun acc p => dPut acc p.1 p.2) []).length ≤ sizeLine
    simp at this
    omega
theorem be_dict (g : Gd b Nm tbl gl k) (hg : Gl b.X "dict") (hm : b.X.mg "dict" = none) (ha : BOp b e t) (he : starEach [e] b.X.env = [(false, eval e b.X.env)] := by rfl) : BE b (.Call (.Name "dict" p) [e] [] pos) (bUn dDict t) :=
  be_t1 (cb_dict g.calm g.u70) op1_D hg hm boot_dict ha (he := he)

/-! ### list(x), dicts and texts too -/
def dListA : F1 := fun d Q => match d with
  | .dic kvs => Q (.ow (.lst (kvs.map (·.1))))
  | .scr ns => Q (.ow (.lst (ns.map .int)))
  | _ => dList d Q
theorem vd_get : ∀ (us : List Value) (ds : List D), us.length = ds.length → (∀ (j : Nat) (v : Value), us[j]? = some v → ∃ d, ds[j]? = some d ∧ VD b F v d) → PySem.W.EachIs (VD b F) us ds
  | [], [], _, _ => .nil
  | u :: us, d :: ds, hl, hj => by
    obtain ⟨d', e, hd⟩ := hj 0 u rfl
    cases e
    exact .cons hd (vd_get us ds (by simpa using hl) fun j v e => hj (j + 1) v e)
  | [], _ :: _, hl, _ => by cases hl
  | _ :: _, [], hl, _ => by cases hl
theorem cb_list (hc : b.X.calm = true) : CallR b.X (.type "list") (rD1 b dListA) := by
  intro pins s σ H xs us Q I r h
  obtain ⟨N, F, E, σ', d, x, QB, rfl, ok, rx, hf, kk⟩ := h
  cases d with
  | dic kvs =>
    obtain ⟨u, rfl, ru⟩ := vals1 r
    obtain ⟨a, o, rfl, ho, z, hr⟩ := rx
    cases ru
    obtain ⟨es, ep, hx, hd, hsz, hkey⟩ := keys_of (q := a) hr
    refine PySem.W.kdl_call (PySem.KdlSrc.rawDict (d := a) (es := es) (ep := ep) z) (I.ok.hd hc) ⟨o, ext_at I ho, hx, hd⟩ (by rw [hsz]; exact hr.1) fun h' tk acc cap hk hS hacc => ?_
    have hal : acc.toList.length = kvs.length := by rw [Array.length_toList, hacc.1, hsz]
    have hv : PySem.W.EachIs (VD b F) acc.toList (kvs.map (·.1)) := by
      refine vd_get _ _ (by rw [hal, List.length_map]) fun j v hj => ?_
      obtain ⟨hi, ev⟩ := hacc.2 j v (by rw [← Array.getElem?_toList]; exact hj)
      obtain ⟨kk, d, x, e1, e2, e3, _⟩ := hkey j es[j] (by simp [hi])
      exact ⟨kk, by rw [List.getElem?_map, e1]; rfl, x, by rw [ev]; exact e2, e3⟩
    obtain ⟨vs', h3, r3⟩ := vd_to hv
    have hl : vs'.length ≤ sizeLine := by rw [← repA_len h3, List.length_map]; exact hr.1
    have I2 : Inv b.X pins σ (upd H s.heap.objs.size (.lst vs')) { s with heap := h', toks := tk } := I.laid (t' := tk) hk (Nat.le_refl _) ⟨hl, acc.toList, cap, r3, by rw [Array.toArray_toList]; exact hS⟩
    exact ⟨.ref s.heap.objs.size, _, I2, rfl, kk F _ _ _ (Same.refl F) (res_lst ok h3 (I.hok.fresh (Nat.le_refl _))) hf⟩
  | scr ns =>
    obtain ⟨q, rfl, h1⟩ := t_scr ok.sub rx
    exact call_list_of pins s σ H _ us Q I r ⟨q, _, rfl, .inl h1, fun l hl => kk F _ _ _ (Same.refl F) (res_lst ok (repA_mkInts ns) hl) hf⟩
  | lst ds => exact call_list_of pins s σ H _ us Q I r (o1_list N F E σ' H _ x QB Q ok rx hf kk)
  | tup ds => exact call_list_of pins s σ H _ us Q I r (o1_list N F E σ' H _ x QB Q ok rx hf kk)
  | _ => exact False.elim hf
theorem be_listA (g : Gd b Nm tbl gl k) (hg : Gl b.X "list") (hm : b.X.mg "list" = none) (ha : BOp b e t) (he : starEach [e] b.X.env = [(false, eval e b.X.env)] := by rfl) : BE b (.Call (.Name "list" p) [e] [] pos) (bUn dListA t) :=
  be_t1 (cb_list g.calm) op1_D hg hm boot_list ha (he := he)
end
end B
/-! BMem: objects that change and are shared: made, read, written; dict displays with texts as keys. -/
namespace B
open PySem PySem.Spec PyProof.Rows L2
section
variable {b : Bx} {a c e o : Expr} {pos p apos : Pos} {t tb : BO} {ta : BL} {Nm : List Str} {tbl : List (Nat × Str)} {gl : List Str} {k : Nat}
/-- slot i's own object is shared from now on -/
def bToM (i : Nat) : BO := fun E Q _ => ∃ u, E.r[i]? = some (.ow u) ∧ ∀ p, p ∉ E.m.map (·.1) → Q (.ptr p) ⟨E.r.set i .un, (p, u) :: E.m⟩
theorem Ok.toM {L : Lb} {N : Nh} {F H : Hp} {E : En} {σ : L2.St} {i : Nat} {u : Ob} {q : Addr} (ok : Ok L N F E σ H) (hi : E.r[i]? = some (.ow u)) (hq : σ[i]? = some (some (.ref q))) : q ∉ E.m.map (·.1) ∧ Ok L N F ⟨E.r.set i .un, (q, u) :: E.m⟩ σ H := by
  obtain ⟨q', hq', hO, hF, hN, hm⟩ := ok.ow i u hi
  rw [hq] at hq'
  cases hq'
  refine ⟨hm, ?_⟩
  exact
  { len := by rw [List.length_set]; exact ok.len
    sub := ok.sub
    fr := fun j d h => by
      rcases set_low h with ⟨h1, h2⟩ | ⟨_, h2, _⟩
      · exact ok.fr j d h2
      · cases h2
    ow := fun j v h => by
      rcases set_low h with ⟨h1, h2⟩ | ⟨_, h2, _⟩
      · obtain ⟨p, e1, e2, e3, e4, e5⟩ := ok.ow j v h2
        refine ⟨p, e1, e2, e3, e4, fun z => ?_⟩
        rcases List.mem_cons.mp z with z | z
        · have z : p = q := z
          subst z
          exact h1 (ok.inj j i v u p h2 hi e1 hq)
        · exact e5 z
      · cases h2
    rd := fun j v h => by
      rcases set_low h with ⟨h1, h2⟩ | ⟨_, h2, _⟩
      · exact ok.rd j v h2
      · cases h2
    inj := fun j l v w p h1 h2 h3 h4 => by
      rcases set_low h1 with ⟨_, g1⟩ | ⟨_, g1, _⟩
      · rcases set_low h2 with ⟨_, g2⟩ | ⟨_, g2, _⟩
        · exact ok.inj j l v w p g1 g2 h3 h4
        · cases g2
      · cases g1
    mem := fun x hx => by
      rcases List.mem_cons.mp hx with z | z
      · subst z; exact ⟨hO, hF, hN⟩
      · exact ok.mem x z
    mnd := List.nodup_cons.mpr ⟨hm, ok.mnd⟩
    nsub := ok.nsub
    lks := ok.lks
    ndis := ok.ndis }
theorem rep_ptr {L : Lb} {F : Hp} {q : Nat} : Rep L F (.ptr q) (.ref q) := by rw [Rep]
theorem bv_toM {i : Nat} (h : PE b.X e (tVar i)) : BV b e (bToM i) := pe_weak h fun σ H Q ⟨N, F, E, QB, XB, ok, ⟨u, hi, ht⟩, hQ, hX⟩ => by
  obtain ⟨q, hq, _⟩ := ok.ow i u hi
  obtain ⟨hm, ok'⟩ := ok.toM hi hq
  exact ⟨.ref q, hq, hQ F ⟨E.r.set i .un, (q, u) :: E.m⟩ (.ptr q) (.ref q) H (Same.refl F) ok' rep_ptr (ht q hm)⟩
/-- a new object is shared from its making on -/
def bAsM (t : BT) : BO := fun E Q X => t E (fun s E' => ∃ u, s = .ow u ∧ ∀ p, p ∉ E'.m.map (·.1) → Q (.ptr p) ⟨E'.r, (p, u) :: E'.m⟩) X
theorem bv_asM {t : BT} (h : BE b e t) : BV b e (bAsM t) := pe_weak h fun σ H Q ⟨N, F, E, QB, XB, ok, ht, hQ, hX⟩ =>
  ⟨N, F, E, _, XB, ok, ht, fun F' E' s v H' sF ok' ⟨u, es, q⟩ => by
    subst es
    have hl : E'.r.length = σ.length := by have := ok'.len; simpa using this
    have hi : (E'.r ++ [Sl.ow u])[E'.r.length]? = some (.ow u) := by simp
    obtain ⟨a, ha, _⟩ := ok'.ow _ _ hi
    have ha' : (σ ++ [some v])[E'.r.length]? = some (some v) := by rw [hl]; simp
    rw [ha'] at ha
    have ev : v = .ref a := by simpa using ha
    subst ev
    obtain ⟨hm, ok2⟩ := ok'.toM hi ha'
    have e1 : (E'.r ++ [Sl.ow u]).set E'.r.length .un = E'.r ++ [.un] := by simp
    rw [e1] at ok2
    exact hQ F' ⟨E'.r, (a, u) :: E'.m⟩ (.ptr a) (.ref a) H' sF ok2.pop rep_ptr (q a hm), hX⟩
/-! ### d[k] = v, d a changing dict -/
def rPutM (b : Bx) : TSet := fun o y v H Q => ∃ N F E σ p kvs k d, o = .ref p ∧ Ok b.lb N F E σ H ∧ (p, Ob.dic kvs) ∈ E.m ∧ Rep b.lb F k y ∧ Rep b.lb F d v ∧ keyFit k kvs = true ∧ kvs.length < sizeLine ∧
  ∀ H', Ok b.lb N F ⟨E.r, putM p (.dic (dPut kvs k d)) E.m⟩ σ H' → Q H'
theorem set_dicM (hu : b.X.A.units + 70 < cLine) : PSet b.X (rPutM b) := pset_weak (set_dic0 hu) fun o y v H Q ⟨N, F, E, σ', p, kvs, k, d, e, ok, hm, rk, rd, hf, hz, q⟩ => by
  obtain ⟨⟨o, ho, z, hr⟩, hF, hN⟩ := ok.mem _ hm
  exact ⟨F, p, o, kvs, k, d, e, ok.sub, ho, z, hr, rk, rd, hf, hz, fun ob' h' => q _ (ok.writeM hm ⟨ob', upd_same, z, h'⟩)⟩
def bPutM (to tk tv : BO) : BS := fun Dn X E => tv E (fun v E1 => to E1 (fun o E2 => tk E2 (fun k E3 => match o with
  | .ptr p => ∃ kvs, E3.m.lookup p = some (.dic kvs) ∧ keyFit k kvs = true ∧ kvs.length < sizeLine ∧ Dn.nx ⟨E3.r, putM p (.dic (dPut kvs k v)) E3.m⟩
  | _ => False) X) X) X
theorem bs_putM (g : Gd b Nm tbl gl k) {i : Expr} {to tk tv : BO} {pos' : Pos} (ho : BV b o to) (hi : BV b i tk) (hv : BV b e tv) (hs : swapsWithSole [.Subscript o i pos'] e pos.line b.X.env = pure false := by rfl) (hw : swappedStores [.Subscript o i pos'] e b.X.env = pure none := by rfl)
    (ha : ∀ v, assign (.Subscript o i pos') b.X.env v = (do
      let ov ← holding [v] (eval o b.X.env)
      let iv ← holding [v, ov] (eval i b.X.env)
      standAt pos'
      holding [v, ov, iv] (setItem ov iv v)
      release [v, ov, iv] []) := by intro _; rfl) (h1 : (assignEach [.Subscript o i pos'] b.X.env).map (·.2) = [assign (.Subscript o i pos') b.X.env] := by rfl) : BSt b (.Assign [.Subscript o i pos'] e pos) (bPutM to tk tv) :=
  ps_weak (ps_asg hv (pg_sub ho hi (set_dicM g.u70) ha) hs hw h1) fun D σ H ⟨N, F, E, DB, XB, ok, ht, h1, h2, h3, h4, hX⟩ =>
    ⟨N, F, E, _, XB, ok, ht, fun F1 E1 v x H1 s1 ok1 r1 q1 => ⟨N, F1, E1, _, XB, ok1, q1, fun F2 E2 ov y H2 s2 ok2 r2 q2 => ⟨N, F2, E2, _, XB, ok2, q2, fun F3 E3 kk z H3 s3 ok3 r3 q3 => by
      cases ov with
      | ptr p =>
        rw [Rep] at r2
        obtain ⟨kvs, e1, e2, e3, q3⟩ := q3
        exact ⟨N, F3, E3, σ, p, kvs, kk, v, r2, ok3, look_mem e1, r3, Rep.mono (s2.trans s3) _ _ r1, e2, e3, fun H' ok4 => h1 F3 _ σ H' ((s1.trans s2).trans s3) ok4 q3⟩
      | _ => exact q3.elim, hX.go (s1.trans s2)⟩, hX.go s1⟩, hX⟩
/-- x.pop(n), x a changing list -/
def bPopM (to t : BO) : BT := fun E Q X => to E (fun o E0 => match o with
  | .ptr p => (∃ ds, E0.m.lookup p = some (.lst ds)) ∧ t E0 (fun n E1 => ∃ ds j m d, n = .int j ∧ -(2 ^ 63) ≤ j ∧ j < 2 ^ 63 ∧ E1.m.lookup p = some (.lst ds) ∧ seqIndex? j ds.length = some m ∧ ds[m]? = some d ∧ Q (.fr d) ⟨E1.r, putM p (.lst (ds.eraseIdx m)) E1.m⟩) X
  | _ => False) X
theorem be_popM {to : BO} (ho : BV b o to) (ht : BV b e t) (hbase : attributeBase o "pop" b.X.env (eval o b.X.env) = eval o b.X.env := by rfl)
    (hfew : ((backTo pos (starEach [e] b.X.env)).all (fun x => !x.1) && (backToKw pos (keywordEach [] b.X.env)).all (fun x => x.1.isSome) && decide ([e].length + ([] : List Keyword).length + (if ([] : List Keyword).isEmpty then 0 else 1) < 30)) = true := by rfl)
    (hline : (apos.endLine == pos.line) = true := by rfl) (hs : starEach [e] b.X.env = (false, eval e b.X.env) :: starEach [] b.X.env := by rfl) (hplain : (backTo pos (starEach [] b.X.env)).any (·.1) = false := by rfl) :
    BE b (.Call (.Attribute o "pop" apos) [e] [] pos) (bPopM to t) :=
  pe_weak (pe_bm PySem.F.plainAttrs_list PySem.F.slot_list_pop PySem.F.type_list_pop mt_popAt ho (pa_cons ht pa_nil hs) hbase hfew hline hs hplain) fun σ H Q ⟨N, F, E, QB, XB, ok, ht, hQ, hX⟩ =>
    ⟨N, F, E, _, XB, ok, ht, fun F0 E0 o v H0 s0 ok0 r0 q0 => by
      cases o with
      | ptr p =>
        rw [Rep] at r0
        subst r0
        obtain ⟨⟨ds0, h0⟩, q0⟩ := q0
        obtain ⟨⟨vs0, hv0, _⟩, _⟩ := ok0.mem _ (look_mem h0)
        refine ⟨.inl ⟨rfl, vs0, .inl (.inl hv0)⟩, N, F0, E0, _, XB, ok0, q0, fun F1 E1 n v H1 s1 ok1 r1 ⟨ds, j, m, d, e1, b1, b2, h1, hm, hd, q1⟩ => ?_, hX.go s0⟩
        subst e1
        rw [Rep] at r1
        subst r1
        obtain ⟨⟨vs, hv, ra⟩, _⟩ := ok1.mem _ (look_mem h1)
        obtain ⟨y, hy, ry⟩ := repA_get ra hd
        exact ⟨p, vs, j, m, y, rfl, rfl, hv, b1, b2, by rw [← repA_len ra]; exact hm, hy, hQ F1 ⟨E1.r, putM p (.lst (ds.eraseIdx m)) E1.m⟩ _ _ _ (s0.trans s1) ((ok1.writeM (u := .lst (ds.eraseIdx m)) (x := .lst (vs.eraseIdx m)) (look_mem h1) ⟨_, upd_same, repA_erase ra m⟩).push ry) q1⟩
      | _ => exact q0.elim, hX⟩
/-! ### dict displays, the keys texts -/
def pairsOf (b : Bx) (pos : Pos) (l : List (Expr × Expr)) : List (Sem Value × Sem Value) := l.map fun x => (eval x.1 b.X.env, do let v ← eval x.2 b.X.env; standAt pos; pure v)
def DSt (b : Bx) : List (Expr × Expr) → List (Str × BO) → Prop
  | [], [] => True
  | (ke, ve) :: l, (k, t) :: ts => BV b ke (bC (.str k)) ∧ BV b ve t ∧ DSt b l ts
  | _, _ => False
def dsRun : List (Str × BO) → En → (KV2 → En → Prop) → QX → Prop
  | [], E, Q, _ => Q [] E
  | (k, t) :: ts, E, Q, X => t E (fun d E1 => dsRun ts E1 (fun kvs E2 => Q ((.str k, d) :: kvs) E2) X) X
def bDs (ts : List (Str × BO)) : BT := fun E Q X => ts.length ≤ 15 ∧ dsRun ts E (fun kvs E1 => Q (.ow (.dic (dMerge kvs))) E1) X
theorem dsp_low {l : List (Expr × Expr)} : ∀ {ts : List (Str × BO)}, DSt b l ts → ∀ {N : Nh} {F : Hp} {E : En} {QB : KV2 → En → Prop} {XB : QX} {pins : List (Addr × Obj)} {σ : L2.St} {H : Hp} {s : Shared}, Inv b.X pins σ H s → Ok b.lb N F E σ H → dsRun ts E QB XB → xOk b N F XB →
    wpAny (model b.X.prog b.X.w) b.X.A (evalPairs (pairsOf b pos l)) (fun vs s1 => ∃ us kvs H1 F' E', Inv b.X pins σ H1 s1 ∧ Carries (strKind b.X.prog b.X.w) vs us ∧ Same F F' ∧ Ok b.lb N F' E' σ H1 ∧ RepS b.lb F' kvs us ∧ kvs.length = ts.length ∧ QB kvs E') b.X.xe s := by
  induction l with
  | nil =>
    intro ts hd N F E QB XB pins σ H s I ok ht hX
    cases ts with
    | nil => exact evalPairs_nil ⟨[], [], H, F, E, I, True.intro, Same.refl F, ok, by rw [RepS], rfl, ht⟩
    | cons x ts => exact hd.elim
  | cons x l ih =>
    intro ts hd N F E QB XB pins σ H s I ok ht hX
    obtain ⟨ke, ve⟩ := x
    cases ts with
    | nil => exact hd.elim
    | cons y ts =>
      obtain ⟨k, t⟩ := y
      obtain ⟨hk, hv, hd⟩ := hd
      have hk0 := BV.runB hk (QB := fun d E1 => d = .str k ∧ E1 = E) (XB := XB) I ok ⟨rfl, rfl⟩ hX
      refine evalPairs_cons (thn hk0 fun ku s1 ⟨kv, H1, F1, E1, d1, I1, rk, s1F, ok1, rd1, ed, eE⟩ => ?_)
      subst ed eE
      rw [Rep] at rd1
      subst rd1
      obtain ⟨tk, rfl⟩ := rk
      refine wpAny_bind (thn (BV.runB hv I1 ok1 ht (hX.go s1F)) fun vu s2 ⟨vv, H2, F2, E2, d2, I2, rv, s2F, ok2, rd2, q2⟩ => ?_)
      refine wpAny_bind (wpAny_standAt (wpAny_pure ?_))
      refine thn (ih hd I2 ok2 q2 (hX.go (s1F.trans s2F))) fun vs s3 ⟨us, kvs, H3, F3, E3, I3, c3, s3F, ok3, r3, l3, q3⟩ => ?_
      refine ⟨(k, vu) :: us, (.str k, d2) :: kvs, H3, F3, E3, I3, ⟨strKind_is _ _ _ _, rfl, c3⟩, (s1F.trans s2F).trans s3F, ok3, ?_, by rw [List.length_cons, List.length_cons, l3], q3⟩
      rw [RepS]
      exact ⟨k, vu, vv, us, rfl, rfl, rv, Rep.mono s3F _ _ rd2, r3⟩
theorem merged_rep {L : Lb} {F : Hp} : ∀ {kvs : KV2} {us : List (Str × Value)} {acc : KV2} {ua : List (Str × Value)}, RepS L F kvs us → RepS L F acc ua → RepS L F (kvs.foldl (fun acc p => dPut acc p.1 p.2) acc) (merged ua us)
  | [], us, acc, ua, h, g => by rw [RepS] at h; subst h; exact g
  | (k, d) :: kvs, us, acc, ua, h, g => by
    rw [RepS] at h
    obtain ⟨x, u, v, us', e1, e2, r1, r2, r3⟩ := h
    subst e1 e2
    have := merged_rep (kvs := kvs) (us := us') (acc := dPut acc (.str x) d) (ua := stored ua x u) r3 (repS_put r1 r2 g)
    simpa [merged] using this
theorem dst_len : ∀ {l : List (Expr × Expr)} {ts : List (Str × BO)}, DSt b l ts → l.length = ts.length
  | [], [], _ => rfl
  | [], _ :: _, h => h.elim
  | _ :: _, [], h => h.elim
  | (_, _) :: _, (_, _) :: _, h => congrArg (· + 1) (dst_len h.2.2)
theorem be_ds {l : List (Expr × Expr)} {ts : List (Str × BO)} {keys : List (Option Expr)} {values : List Expr} (h : DSt b l ts) (h0 : l ≠ [])
    (hshape : (evalEachOpt keys b.X.env).zip ((evalEach values b.X.env).map fun v => do let x ← v; standAt pos; pure x) = (pairsOf b pos l).map fun p => (some p.1, p.2)) : BE b (.Dict keys values pos) (bDs ts) :=
  ⟨fun pins s σ H Q I ⟨N, F, E, QB, XB, ok, ⟨hz, ht⟩, hQ, hX⟩ => by
    have hlen : l.length = ts.length := dst_len h
    have n := I.hok.fresh (Nat.le_refl s.heap.objs.size)
    have hN : N s.heap.objs.size = none := by
      cases q : N s.heap.objs.size with
      | none => rfl
      | some y => have := ok.nsub _ y q; rw [n] at this; cases this
    have e : (s.heap.push emptyO).get? s.heap.objs.size = some emptyO := Heap.get?_push_size _ rfl
    have I1 : Inv b.X pins σ (upd H s.heap.objs.size (dO s.heap.objs.size emptyO)) { s with heap := s.heap.push emptyO } := I.laid (a := s.heap.objs.size) (o := dO s.heap.objs.size emptyO) (t' := s.toks) (fun _ _ q => Heap.get?_push_of_some _ q) (Nat.le_refl _) ⟨e, ⟨_, e⟩, fun _ _ z k => k _ z⟩
    have ok1 := ok.laid (o := dO s.heap.objs.size emptyO) n
    have hX1 : xOk b (N.put s.heap.objs.size (dO s.heap.objs.size emptyO)) F XB := fun F' E' x cls od σ' H' s' ok' xr hx => hX F' E' x cls od σ' H' s' (ok'.unput ok.lks hN) xr hx
    have hbig : (s.heap.objs.size == sysModules) = false := beq_eq_false_iff_ne.mpr (Nat.ne_of_gt I.big)
    refine wpAny_Dict_pairs (knd := strKind b.X.prog b.X.w) hshape (by cases l with | nil => exact absurd rfl h0 | cons _ _ => intro z; cases z) (by rw [pairsOf, List.length_map, hlen]; exact hz)
      (thn (dsp_low h I1 ok1 ht hX1) fun vs s1 ⟨us, kvs, H1, F', E', I2, hc, sF, ok2, rs, hl, q2⟩ => ⟨us, hc, ?_, fun h' hd' hs' => ?_⟩)
    · have hD : H1 s.heap.objs.size = some (dO s.heap.objs.size emptyO) := ok2.nsub _ _ (upd_same)
      exact Heap.dictOf_iff.mpr ⟨_, ext_at I2 hD, ⟨#[], 0, ⟨rfl, rfl, rfl⟩, rfl, (fun i hi => absurd hi (by simp)), .nil, List.nodup_nil⟩⟩
    · obtain ⟨o', ho', hd2⟩ := Heap.dictOf_iff.mp hd'
      have hD : H1 s.heap.objs.size = some (dO s.heap.objs.size emptyO) := ok2.nsub _ _ (upd_same)
      have I3 : Inv b.X pins σ (upd H1 s.heap.objs.size (dO s.heap.objs.size o')) { s1 with heap := h', toks := s1.toks + vs.length } := d_write I2 (by rw [hD]; exact True.intro) hs' ⟨o', ho'⟩ ⟨ho', ⟨_, ho'⟩, fun h1 h2 z k => k _ z⟩
      have ok3 := ok2.relaid (o' := dO s.heap.objs.size o') ok.lks hN (ok.lk_ne hN)
      have hlm : (dMerge kvs).length ≤ sizeLine := by
        have h1 := foldPut_len kvs []
        have h2 : (dMerge kvs).length ≤ ([] : KV2).length + kvs.length := h1
        rw [List.length_nil, hl] at h2
        have : (15 : Nat) ≤ sizeLine := by rw [sizeLine_eq]; decide
        omega
      exact ⟨.ref s.heap.objs.size, _, I3, rfl, hQ F' _ _ _ _ sF (ok3.takeP (o := .dic (dMerge kvs)) ok.lks hN ⟨o', upd_same, hbig, hlm, .inl ⟨_, hd2, merged_rep rs (by rw [RepS])⟩⟩) q2⟩⟩
end
end B
/-! BLend: a pure callee reads objects of one's own; suites that are never reached. -/
namespace B
open PySem PySem.Spec PyProof.Rows L2
/-- an object of one's own, or one that is held still, that can be read as a datum -/
def Lent (E : En) (σ : L2.St) (a : Addr) : Prop := ∃ (i : Nat) (o : Ob), (E.r[i]? = some (.ow o) ∨ E.r[i]? = some (.rd o)) ∧ o.cold = true ∧ σ[i]? = some (some (.ref a))
noncomputable def lendF (F : Hp) (E : En) (σ : L2.St) (H : Hp) : Hp := open Classical in fun a => if Lent E σ a then H a else F a
/-- what stays while it runs: all that is not lent -/
noncomputable def lendN (N : Nh) (E : En) (σ : L2.St) (H : Hp) : Nh := ⟨open Classical in fun a => if Lent E σ a then none else if (∃ (i : Nat) (o : Ob), E.r[i]? = some (.ow o) ∧ σ[i]? = some (some (.ref a))) ∨ a ∈ E.m.map (·.1) then H a else N a, []⟩
section
variable {L : Lb} {N : Nh} {F F' H H' : Hp} {E : En} {σ : L2.St}
theorem Lent.there (ok : Ok L N F E σ H) {a : Addr} (h : Lent E σ a) : ∃ x, H a = some x := by
  obtain ⟨i, o, hi, hc, hp⟩ := h
  rcases hi with hi | hi
  · obtain ⟨p, h1, h2, _⟩ := ok.ow i o hi
    rw [hp] at h1; cases h1
    exact h2.there
  · obtain ⟨p, h1, h2, _⟩ := ok.rd i o hi
    rw [hp] at h1; cases h1
    exact h2.there
theorem Lent.noF (ok : Ok L N F E σ H) {a : Addr} (h : Lent E σ a) : F a = none := by
  obtain ⟨i, o, hi, hc, hp⟩ := h
  rcases hi with hi | hi
  · obtain ⟨p, h1, h2, h3, _⟩ := ok.ow i o hi
    rw [hp] at h1; cases h1
    exact h3
  · obtain ⟨p, h1, h2, h3⟩ := ok.rd i o hi
    rw [hp] at h1; cases h1
    exact ok.ndis a (ok.lks.at_ _ h3)
theorem Lent.noM (ok : Ok L N F E σ H) {a : Addr} (h : Lent E σ a) : a ∉ E.m.map (·.1) := by
  obtain ⟨i, o, hi, hc, hp⟩ := h
  rcases hi with hi | hi
  · obtain ⟨p, h1, h2, h3, h4, h5⟩ := ok.ow i o hi
    rw [hp] at h1; cases h1
    exact h5
  · obtain ⟨p, h1, h2, h3⟩ := ok.rd i o hi
    rw [hp] at h1; cases h1
    intro z
    obtain ⟨x, hx, e⟩ := List.mem_map.mp z
    have := (ok.mem x hx).2.2
    rw [e] at this
    exact ok.lks.at_ _ h3 this
theorem lendF_same (ok : Ok L N F E σ H) : Same F (lendF F E σ H) := fun a x h => by
  unfold lendF
  split
  · rename_i q
    have := q.noF ok
    rw [h] at this
    cases this
  · exact h
theorem lendF_lent {a : Addr} (h : Lent E σ a) : lendF F E σ H a = H a := by unfold lendF; rw [if_pos h]
theorem lendF_sub (ok : Ok L N F E σ H) : Same (lendF F E σ H) H := fun a x h => by
  unfold lendF at h
  split at h
  · exact h
  · exact ok.sub a x h
/-- an object's content, the object itself in the frozen part -/
theorem ObR.repIn {o : Ob} {p : Addr} (cold : o.cold = true) (h : ObR L F H o p) (s : Same F F') (hp : ∀ x, H p = some x → F' p = some x) : Rep L F' o.d (.ref p) := by
  cases o with
  | lst ds =>
    obtain ⟨vs, h1, h2⟩ := h
    show Rep L _ (.lst ds) _
    rw [Rep]
    exact ⟨p, vs, rfl, hp _ h1, RepA.mono s ds vs h2⟩
  | dic kvs =>
    obtain ⟨ob, h1, h2, h3, h4⟩ := h
    show Rep L _ (.dic kvs) _
    rw [Rep]
    refine ⟨p, ob, rfl, hp _ h1, h2, h3, ?_⟩
    rcases h4 with ⟨us, r1, r2⟩ | ⟨xs, r1, r2⟩
    · exact .inl ⟨us, r1, RepS.mono s kvs us r2⟩
    · exact .inr ⟨xs, r1, RepX.mono s kvs xs r2⟩
  | ins c fs =>
    obtain ⟨dx, ws, h1, h2⟩ := h
    show Rep L _ (.obj c fs) _
    rw [Rep]
    exact ⟨p, dx, ws, rfl, hp _ h1, RepF.mono s fs ws h2⟩
  | rng g => cases cold
  | nats => cases cold
/-- what a left operand holds, as a datum of the lent heap -/
theorem HdR.lent {h : Hd} {v : V} {d : D} {F0 : Hp} (ok : Ok L N F E σ H) (s : Same F0 F) (r : HdR L F0 σ h v) (g : h.get E = some d) (hm : ∀ a, h ≠ .mem a) : Rep L (lendF F E σ H) d v := by
  cases h with
  | val d' => cases g; exact Rep.mono (s.trans (lendF_same ok)) d v r
  | mem a => exact absurd rfl (hm a)
  | slot i =>
    have r : σ[i]? = some (some v) := r
    have g : E.at i = some d := g
    unfold En.at at g
    cases e : E.r[i]? with
    | none => rw [e] at g; cases g
    | some sl =>
      rw [e] at g
      have g : sl.d? = some d := g
      cases sl with
      | un => cases g
      | fr d' =>
        cases g
        obtain ⟨u, h1, h2⟩ := ok.fr i d e
        rw [r] at h1
        cases h1
        exact Rep.mono (lendF_same ok) d v h2
      | ow o =>
        obtain ⟨p, h1, h2, _⟩ := ok.ow i o e
        rw [r] at h1
        cases h1
        have g : (if o.cold = true then some o.d else none) = some d := g
        split at g
        · rename_i c
          cases g
          exact h2.repIn c (lendF_same ok) fun x hx => by rw [lendF_lent ⟨i, o, .inl e, c, r⟩]; exact hx
        · cases g
      | rd o =>
        obtain ⟨p, h1, h2, _⟩ := ok.rd i o e
        rw [r] at h1
        cases h1
        have g : (if o.cold = true then some o.d else none) = some d := g
        split at g
        · rename_i c
          cases g
          exact h2.repIn c (lendF_same ok) fun x hx => by rw [lendF_lent ⟨i, o, .inr e, c, r⟩]; exact hx
        · cases g
theorem lendN_sub (ok : Ok L N F E σ H) : Same (lendN N E σ H).h H := fun a x h => by
  have h : (open Classical in if Lent E σ a then none else if (∃ (i : Nat) (o : Ob), E.r[i]? = some (.ow o) ∧ σ[i]? = some (some (.ref a))) ∨ a ∈ E.m.map (·.1) then H a else N a) = some x := h
  split at h
  · cases h
  · split at h
    · exact h
    · exact ok.nsub a x h
theorem lendN_out {a : Addr} (h : ¬ Lent E σ a) (g : (∃ (i : Nat) (o : Ob), E.r[i]? = some (.ow o) ∧ σ[i]? = some (some (.ref a))) ∨ a ∈ E.m.map (·.1)) : lendN N E σ H a = H a := by
  show (open Classical in if Lent E σ a then none else if (∃ (i : Nat) (o : Ob), E.r[i]? = some (.ow o) ∧ σ[i]? = some (some (.ref a))) ∨ a ∈ E.m.map (·.1) then H a else N a) = H a
  rw [if_neg h, if_pos g]
theorem lendN_of (ok : Ok L N F E σ H) {a : Addr} {x : HO} (h : ¬ Lent E σ a) (g : N a = some x) : lendN N E σ H a = some x := by
  show (open Classical in if Lent E σ a then none else if (∃ (i : Nat) (o : Ob), E.r[i]? = some (.ow o) ∧ σ[i]? = some (some (.ref a))) ∨ a ∈ E.m.map (·.1) then H a else N a) = some x
  rw [if_neg h]
  split
  · exact ok.nsub a x g
  · exact g
theorem lendN_dis (ok : Ok L N F E σ H) : ∀ a, lendN N E σ H a ≠ none → lendF F E σ H a = none := fun a h => by
  have h : (open Classical in if Lent E σ a then none else if (∃ (i : Nat) (o : Ob), E.r[i]? = some (.ow o) ∧ σ[i]? = some (some (.ref a))) ∨ a ∈ E.m.map (·.1) then H a else N a) ≠ none := h
  unfold lendF
  split
  · rename_i q
    rw [if_pos q] at h
    exact absurd rfl h
  · rename_i q
    rw [if_neg q] at h
    split at h
    · rename_i z
      rcases z with ⟨i, o, h1, h2⟩ | z
      · obtain ⟨p, g1, g2, g3, _⟩ := ok.ow i o h1
        rw [h2] at g1
        cases g1
        exact g3
      · obtain ⟨x, hx, e⟩ := List.mem_map.mp z
        rw [← e]
        exact (ok.mem x hx).2.1
    · exact ok.ndis a h
/-- sys.modules' object is not lent -/
theorem sm_free (ok : Ok L N F E σ H) {so : Obj} (h1 : N sysModules = some (dO sysModules so)) : ¬ Lent E σ sysModules := fun ⟨i, o, hi, hc, hp⟩ => by
  have key : ∀ p, ObR L F H o p → p ≠ sysModules := fun p h e => by
    subst e
    cases o with
    | lst ds =>
      obtain ⟨vs, g1, _⟩ := h
      have := ok.nsub _ _ h1
      rw [g1] at this
      cases this
    | dic kvs =>
      obtain ⟨ob, _, g2, _⟩ := h
      simp at g2
    | ins c fs =>
      obtain ⟨dx, ws, g1, _⟩ := h
      have := ok.nsub _ _ h1
      rw [g1] at this
      cases this
    | rng g => cases hc
    | nats => cases hc
  rcases hi with hi | hi
  · obtain ⟨p, g1, g2, _⟩ := ok.ow i o hi
    rw [hp] at g1; cases g1
    exact key _ g2 rfl
  · obtain ⟨p, g1, g2, _⟩ := ok.rd i o hi
    rw [hp] at g1; cases g1
    exact key _ g2 rfl
theorem repA_gets : ∀ {ds : List D} {vs : List V}, RepA L F ds vs → ds.length = vs.length ∧ ∀ (i : Nat) (d : D), ds[i]? = some d → ∃ v, vs[i]? = some v ∧ Rep L F d v := fun h => ⟨repA_len h, fun i d hd => repA_get h hd⟩
/-- the lent arguments' state -/
theorem Ok.lend {ds : List D} {vs : List V} (ok : Ok L N F E σ H) (r : RepA L (lendF F E σ H) ds vs) : Ok L (lendN N E σ H) (lendF F E σ H) ⟨ds.map .fr, []⟩ (vs.map some) H := by
  obtain ⟨l, g⟩ := repA_gets r
  have nos : ∀ (i : Nat) (s : Sl), (ds.map Sl.fr)[i]? = some s → ∃ d, s = .fr d ∧ ds[i]? = some d := fun i s h => by
    rw [List.getElem?_map] at h
    cases e : ds[i]? with
    | none => rw [e] at h; cases h
    | some d => rw [e] at h; exact ⟨d, by cases h; rfl, rfl⟩
  refine ⟨by simp [l], lendF_sub ok, fun i d h => ?_, fun i o h => ?_, fun i o h => ?_, fun i j o u p h => ?_, (fun x hx => nomatch hx), List.nodup_nil, lendN_sub ok, ⟨(fun x hx => nomatch hx), ?_⟩, lendN_dis ok⟩
  · obtain ⟨d', e, h'⟩ := nos i _ h
    cases e
    obtain ⟨v, h1, h2⟩ := g i d h'
    exact ⟨v, by rw [List.getElem?_map, h1]; rfl, h2⟩
  · obtain ⟨d', e, _⟩ := nos i _ h; cases e
  · obtain ⟨d', e, _⟩ := nos i _ h; cases e
  · obtain ⟨d', e, _⟩ := nos i _ h; cases e
  · exact ok.lks.sm.imp (fun h => h.imp fun o h => h.imp fun es h => h.imp fun ep h => ⟨lendN_of ok (sm_free ok h.1) h.1, h.2⟩) id
/-- a datum that holds no place -/
def D.flat : D → Bool
  | .non => true
  | .bl _ => true
  | .int _ => true
  | .str _ => true
  | _ => false
theorem Rep.flat {d : D} {v : V} (h : Rep L F d v) (hf : d.flat = true) : Rep L F' d v := by
  cases d <;> first | (rw [Rep] at h ⊢; exact h) | cases hf
/-- behind a pure callee: what was lent is one's own again -/
theorem Ok.lent {d : D} {v : V} (ok : Ok L N F E σ H) (sF : Same (lendF F E σ H) F') (ok' : Ok L (lendN N E σ H) F' ⟨[.fr d], []⟩ [some v] H') (hd : d.flat = true) : Ok L N F ⟨E.r ++ [.fr d], E.m⟩ (σ ++ [some v]) H' := by
  have kL : ∀ a x, Lent E σ a → H a = some x → H' a = some x := fun a x h hx => ok'.sub a x (sF a x (by rw [lendF_lent h]; exact hx))
  have kN : ∀ a x, ¬ Lent E σ a → lendN N E σ H a = some x → H' a = some x := fun a x _ h => ok'.nsub a x h
  have own : ∀ (i : Nat) (o : Ob) (a : Addr), E.r[i]? = some (.ow o) → σ[i]? = some (some (.ref a)) → ∀ x, H a = some x → H' a = some x := fun i o a h1 h2 x hx => by
    rcases Classical.em (Lent E σ a) with q | q
    · exact kL a x q hx
    · exact kN a x q (by rw [lendN_out q (.inl ⟨i, o, h1, h2⟩)]; exact hx)
  have mm : ∀ y ∈ E.m, ∀ x, H y.1 = some x → H' y.1 = some x := fun y hy x hx => by
    have hm : y.1 ∈ E.m.map (·.1) := List.mem_map.mpr ⟨y, hy, rfl⟩
    have q : ¬ Lent E σ y.1 := fun q => q.noM ok hm
    exact kN y.1 x q (by rw [lendN_out q (.inr hm)]; exact hx)
  have nn : Same N.h H' := fun a x hx => by
    rcases Classical.em (Lent E σ a) with q | q
    · exact kL a x q (ok.nsub a x hx)
    · exact kN a x q (lendN_of ok q hx)
  have base : Ok L N F E σ H' :=
  { len := ok.len
    sub := fun a x hx => ok'.sub a x (sF a x (lendF_same ok a x hx))
    fr := ok.fr
    ow := fun i o h => by
      obtain ⟨p, h1, h2, h3⟩ := ok.ow i o h
      exact ⟨p, h1, h2.mono (Same.refl F) (own i o p h h1), h3⟩
    rd := fun i o h => by
      obtain ⟨p, h1, h2, h3⟩ := ok.rd i o h
      exact ⟨p, h1, h2.mono (Same.refl F) (fun x hx => nn p x (by
        cases e : N p with
        | none => exact absurd e (ok.lks.at_ _ h3)
        | some y => have := ok.nsub p y e; rw [hx] at this; cases this; rfl)), h3⟩
    inj := ok.inj
    mem := fun y hy => by
      obtain ⟨h1, h2⟩ := ok.mem y hy
      exact ⟨h1.mono (Same.refl F) (mm y hy), h2⟩
    mnd := ok.mnd
    nsub := nn
    lks := ok.lks
    ndis := ok.ndis }
  obtain ⟨u, h1, h2⟩ := ok'.fr 0 d rfl
  have e : u = v := by simpa using h1.symm
  subst e
  exact base.push (h2.flat hd)
end
/-! ### the arguments -/
abbrev BAL := En → (List Hd → En → Prop) → QX → Prop
def HdsR (L : Lb) (F : Hp) (σ : L2.St) : List Hd → List V → Prop
  | [], vs => vs = []
  | h :: hs, vs => ∃ v r, vs = v :: r ∧ HdR L F σ h v ∧ HdsR L F σ hs r
section
variable {b : Bx} {e : Expr} {es : List Expr} {tl : BL} {tt : BAL}
theorem HdR.mono {L : Lb} {F F' : Hp} {σ : L2.St} (s : Same F F') {h : Hd} {v : V} (r : HdR L F σ h v) : HdR L F' σ h v := by
  cases h with
  | val d => exact Rep.mono s d v r
  | slot i => exact r
  | mem a => exact r
def lowAL (b : Bx) (t : BAL) : TA := fun σ H Q => ∃ N F E QB XB, Ok b.lb N F E σ H ∧ t E QB XB ∧
  (∀ F' E' hs vs H', Same F F' → Ok b.lb N F' E' σ H' → HdsR b.lb F' σ hs vs → QB hs E' → Q vs H') ∧ xOk b N F XB
abbrev BALs (b : Bx) (es : List Expr) (t : BAL) : Prop := PA b.X es (lowAL b t)
def blNil : BAL := fun E Q _ => Q [] E
def blCons (t : BL) (u : BAL) : BAL := fun E Q X => t E (fun h E1 => u E1 (fun hs E2 => Q (h :: hs) E2) X) X
theorem bal_nil : BALs b [] blNil := pa_weak pa_nil fun σ H Q ⟨N, F, E, QB, XB, ok, ht, hQ, hX⟩ => hQ F E [] [] H (Same.refl F) ok rfl ht
theorem bal_cons (h : BLe b e tl) (hs : BALs b es tt) (hst : starEach (e :: es) b.X.env = (false, eval e b.X.env) :: starEach es b.X.env := by rfl) : BALs b (e :: es) (blCons tl tt) :=
  pa_weak (pa_cons h hs hst) fun σ H Q ⟨N, F, E, QB, XB, ok, ht, hQ, hX⟩ => ⟨N, F, E, _, XB, ok, ht, fun F1 E1 h v H1 s1 ok1 r1 q1 => ⟨N, F1, E1, _, XB, ok1, q1, fun F2 E2 hs vs H2 s2 ok2 r2 q2 =>
    hQ F2 E2 (h :: hs) (v :: vs) H2 (s1.trans s2) ok2 ⟨v, vs, rfl, r1.mono s2, r2⟩ q2, hX.go s1⟩, hX⟩
/-- the data that the operands hold -/
def getA (E : En) : List Hd → Option (List D)
  | [] => some []
  | .mem _ :: _ => none
  | .val d :: hs => (getA E hs).map (d :: ·)
  | .slot i :: hs => (E.at i).bind fun d => (getA E hs).map (d :: ·)
theorem getA_rep {L : Lb} {N : Nh} {F H : Hp} {E : En} {σ : L2.St} (ok : Ok L N F E σ H) : ∀ {hs : List Hd} {vs : List V} {ds : List D}, HdsR L F σ hs vs → getA E hs = some ds → RepA L (lendF F E σ H) ds vs
  | [], vs, ds, h, g => by cases g; cases h; exact repA_nil
  | .mem a :: hs, vs, ds, h, g => by cases g
  | .val d :: hs, vs, ds, h, g => by
    obtain ⟨v, r, e, h1, h2⟩ := h
    subst e
    have g : (getA E hs).map (d :: ·) = some ds := g
    cases eg : getA E hs with
    | none => rw [eg] at g; cases g
    | some ds' =>
      rw [eg] at g
      cases g
      exact repA_cons (HdR.lent (h := .val d) ok (Same.refl F) h1 rfl (fun a z => by cases z)) (getA_rep ok h2 eg)
  | .slot i :: hs, vs, ds, h, g => by
    obtain ⟨v, r, e, h1, h2⟩ := h
    subst e
    have g : (E.at i).bind (fun d => (getA E hs).map (d :: ·)) = some ds := g
    cases ed : E.at i with
    | none => rw [ed] at g; cases g
    | some d =>
      rw [ed] at g
      have g : (getA E hs).map (d :: ·) = some ds := g
      cases eg : getA E hs with
      | none => rw [eg] at g; cases g
      | some ds' =>
        rw [eg] at g
        cases g
        exact repA_cons (HdR.lent (h := .slot i) ok (Same.refl F) h1 ed (fun a z => by cases z)) (getA_rep ok h2 eg)
variable {Nm : List Str} {tb : List (Nat × Str)} {gl : List Str} {k j : Nat} {f : Addr} {fd : FuncData} {ps : List Str} {fb : FnB} {x : Str} {p pos : Pos} {dds : List D}
/-- a pure call -/
def bCallL (fb : FnB) (dds : List D) (t : BAL) : BT := fun E Q X => t E (fun hs E1 => ∃ ds, getA E1 hs = some ds ∧ fb (ds ++ dds) [] (fun s M => M = [] ∧ ∃ d, s = .fr d ∧ d.flat = true ∧ Q (.fr d) E1) fun _ _ => False) X
/-- f(e, ..), f pure -/
theorem be_callL (g : Gd b Nm tb gl k) (G : BFn b.X.prog b.X.w b.X.K b.X.mg b.X.base b.cl j f fd ps fb) (hj : j ≤ k) (hg : Gl b.X x) (hm : b.X.mg x = some (.ref f)) (hk : PySem.W.keepIn b.X.K (.ref f) = true) (df : Dfl b.X.K fd ps dds) (ha : BALs b (e :: es) tt)
    (hdb : (x == ("__debug__" : Str)) = false := by decide) (he : starEach (e :: es) b.X.env = (false, eval e b.X.env) :: starEach es b.X.env := by rfl) (hpl : (backTo pos (starEach es b.X.env)).any (·.1) = false := by rfl) :
    BE b (.Call (.Name x p) (e :: es) [] pos) (bCallL fb dds tt) := by
  obtain ⟨dus, dvs, d1, d2, d3⟩ := df
  refine ⟨fun pins s σ H Q I ⟨N, F, E, QB, XB, ok, ht, hQ, hX⟩ => ?_⟩
  refine wpAny_Call_Name_kw (ld_glob I hg hm ?_ hdb)
  have hA := ha.run pos pins s σ H (fun vs H' => ∃ F' E' hs, Same F F' ∧ Ok b.lb N F' E' σ H' ∧ HdsR b.lb F' σ hs vs ∧ ∃ ds, getA E' hs = some ds ∧ fb (ds ++ dds) [] (fun s M => M = [] ∧ ∃ d, s = .fr d ∧ d.flat = true ∧ QB (.fr d) E') fun _ _ => False) I
    ⟨N, F, E, _, XB, ok, ht, fun F' E' hs vs H' s ok r q => ⟨F', E', hs, s, ok, r, q⟩, hX⟩
  refine PySem.W.callWith_K (h₀ := b.X.base) I.ok.mod.kin hk (thn hA fun us s1 ⟨vs, H1, I1, r, F1, E1, hs, sF, ok1, rh, ds, hds, hf⟩ => ⟨I1.kIn, ?_⟩) he hpl
  have rp := repA_app (getA_rep ok1 rh hds) (d3 b.lb (lendF F1 E1 σ H1) rfl)
  have hlen := G.len _ _ _ _ hf
  have hl : (us ++ dus).length = ps.length := by rw [← hlen, repA_len rp, (r.append d2).length]
  refine wpAny_call (codeAny_mono (G.run b.X.A b.X.stack s1 H1 ⟨us, []⟩ (us ++ dus) (vs ++ dvs) (ds ++ dds) _ _ [] _ _ Q (fun cls d H' => b.W cls d σ H') (g.rm.mono hj) g.gd I1.env0 hl (d1 s1 us I1.kIn hl) (r.append d2) (ok1.lend rp) hf
    (fun F' M' x v H' sF' hx ok' ⟨hM, d, hd, hfl, q⟩ => by
      subst hM hd
      exact hQ F1 E1 (.fr d) v H' sF (ok1.lent sF' ok' hfl) q) (fun F' M' y cls od H' _ _ _ z => z.elim)) fun rr s' hq => ?_)
  cases rr with
  | error e => exact g.tk e s' (XE.of_call I1 (fun _ _ _ z => z) hq)
  | ok fl =>
    cases fl with
    | ret u => exact I1.after hq
    | next => exact hq
    | brk => exact hq
    | cont => exact hq
end
/-! ### what is never reached -/
def bDead : BS := fun _ _ _ => False
theorem bs_dead {b : Bx} {st : Stmt} : BSt b st bDead := ⟨fun pins s σ H D I ⟨N, F, E, DB, XB, ok, ht, _⟩ => ht.elim⟩
theorem bss_dead {b : Bx} {st : List Stmt} : BSs b st bDead := ⟨fun pins s σ H D I ⟨N, F, E, DB, XB, ok, ht, _⟩ => ht.elim⟩
end B
/-! BSet: sets of texts: made of a list or tuple, counted, sorted. -/
namespace B
open PySem PySem.Spec PyProof.Rows L2
/-! ### the set as it stands -/
def txK (e : Int × Value) : Str := match e.2 with | .str k _ => k | _ => Str.empty
def TxE (w : World) (e : Int × Value) : Prop := ∃ k tk, e.2 = Value.str k tk ∧ e.1 = hashStr w k
/-- the set of the texts xs, no text twice -/
structure SetX (P : Program) (w : World) (h : Heap) (a : Addr) (xs : List Str) : Prop where
  nd : xs.Nodup
  ex : ∃ (o : Obj) (es : Array (Int × Value)) (ep : Nat) (t : SetTable), h.get? a = some o ∧ o.ExactSet ∧ o.data = .set es ep t ∧ (∀ e ∈ es.toList, TxE w e) ∧ (es.toList.map txK).Perm xs ∧
    es.size < scanBound ∧ t.fits es.size = true ∧ Ris t.place.toList ∧ (w.params.followText "set-order" = true ∨ t.led = true)
section
variable {P : Program} {w : World} {h h' : Heap} {a : Addr} {xs : List Str}
theorem SetX.at (R : SetX P w h a xs) (k : ∀ o, h.get? a = some o → h'.get? a = some o) : SetX P w h' a xs := by
  obtain ⟨o, es, ep, t, ho, r⟩ := R.ex
  exact ⟨R.nd, o, es, ep, t, k o ho, r⟩
theorem txE_elems {l : List (Int × Value)} (g : ∀ e ∈ l, TxE w e) : ElemsOf (strKind P w) l := fun e he => by
  obtain ⟨k, tk, h1, h2⟩ := g e he
  exact ⟨⟨k, by rw [h1]; exact strKind_is P w k tk, h2⟩, by rw [h1]; rfl⟩
theorem txE_is {e : Int × Value} (g : TxE w e) (k : Str) : (strKind P w).is k e.2 = true ↔ txK e = k := by
  obtain ⟨k0, tk, h1, _⟩ := g
  unfold txK
  rw [h1]
  constructor
  · intro q
    have h0 : Value.isStrOf k0 (.str k0 tk) = true := strKind_is P w k0 tk
    exact Value.isStrOf_inj (.str k0 tk) k0 k h0 q
  · rintro rfl
    exact strKind_is P w _ tk
theorem SetX.size (R : SetX P w h a xs) : ∃ (o : Obj) (es : Array (Int × Value)) (ep : Nat) (t : SetTable), h.get? a = some o ∧ o.ExactSet ∧ o.data = .set es ep t ∧ t.fits es.size = true ∧ es.size = xs.length := by
  obtain ⟨o, es, ep, t, ho, hx, hd, g, pm, hb, hf, _⟩ := R.ex
  exact ⟨o, es, ep, t, ho, hx, hd, hf, by rw [← pm.length_eq, List.length_map, Array.length_toList]⟩
theorem setX_fresh {h : Heap} {a : Addr} (ho : h.get? a = some { cls := .type "set", dict := none, data := .set #[] 0 (.fresh 0 0 (!w.params.followText "set-order")) }) : SetX P w h a [] :=
  ⟨List.nodup_nil, _, #[], 0, _, ho, ⟨rfl, rfl, rfl⟩, rfl, (fun e he => by simp at he), (by simp), (by decide), (by rfl), List.Pairwise.nil, by
    show _ ∨ (!w.params.followText "set-order") = true
    cases w.params.followText "set-order"
    · exact .inr rfl
    · exact .inl rfl⟩
end
/-- the texts, each where it stands first -/
def uqStep (acc : List Str) (k : Str) : List Str := if k ∈ acc then acc else acc ++ [k]
def uq (xs : List Str) : List Str := xs.foldl uqStep []
section
variable {P : Program} {w : World} {A : Around} {E : Value → Shared → Prop} {s : Shared} {a : Addr} {xs : List Str}
/-! ### one more text -/
theorem setX_tail {g : Bool → Sem Unit} (hg : ∀ (b : Bool) (s₁ : Shared) (Q' : Unit → Shared → Prop), Q' () s₁ → wpAny (model P w) A (g b) Q' E s₁)
    {o : Obj} {es : Array (Int × Value)} {ep : Nat} {t : SetTable} (ho : s.heap.get? a = some o) (hex : o.ExactSet) (hd : o.data = .set es ep t)
    {es1 : Array (Int × Value)} {t2 : SetTable} {ys : List Str} (nd : ys.Nodup) (g1 : ∀ e ∈ es1.toList, TxE w e) (p1 : (es1.toList.map txK).Perm ys)
    (hb1 : es1.size < scanBound) (hf2 : t2.fits es1.size = true) (hr : Ris t2.place.toList) (hl : w.params.followText "set-order" = true ∨ t2.led = true) {wasDummy : Bool} {R : Option Bool → Shared → Prop}
    (hR : ∀ h', Heap.SameBut a s.heap h' → SetX P w h' a ys → R (some true) { s with heap := h' }) :
    wpAny (model P w) A (do
        storeSet a es1 t2
        if (!wasDummy && t2.tooFull) = true then do
            g (relayAll t2 es1 (SetTable.grown es1.size)).2.2
            storeSet a (relayAll t2 es1 (SetTable.grown es1.size)).1 (relayAll t2 es1 (SetTable.grown es1.size)).2.1
            pure (some true)
          else pure (some true)) R E s := by
  refine wpAny_bind (wpAny_storeSet_of ho hd ?_ (fits_of_scanBound hb1))
  have ho1 := store_at (es' := es1) (t' := t2) ho hd
  have sb1 := Heap.SameBut.update s.heap a (Obj.putSet es1 t2)
  split
  · have pm := relayAll_perm t2 es1 (SetTable.grown es1.size)
    have hf3 := relayAll_fits t2 es1 (SetTable.grown es1.size)
    have hr3 := relayAll_ris t2 es1 (SetTable.grown es1.size)
    have hl3 := relayAll_led t2 es1 (SetTable.grown es1.size)
    generalize relayAll t2 es1 (SetTable.grown es1.size) = Z at pm hf3 hr3 hl3 ⊢
    obtain ⟨es2, t3, gave⟩ := Z
    dsimp only at pm hf3 hr3 hl3 ⊢
    have hsz : es2.size = es1.size := by rw [← Array.length_toList, pm.length_eq, Array.length_toList]
    have hb2 : es2.size < scanBound := by rw [hsz]; exact hb1
    refine wpAny_bind (hg _ _ _ ?_)
    refine wpAny_bind (wpAny_storeSet_of ho1 rfl ?_ (fits_of_scanBound hb2))
    have ho2 := store_at (es' := es2) (t' := t3) ho1 rfl
    refine wpAny_pure (hR _ (sb1.trans (Heap.SameBut.update _ a _)) ⟨nd, _, es2, _, t3, ho2, hex, rfl, fun e he => g1 e (pm.mem_iff.mp he), (pm.map txK).trans p1, hb2, hf3, hr3, hl.imp id fun z => by rw [hl3]; exact z⟩)
  · exact wpAny_pure (hR _ sb1 ⟨nd, _, es1, _, t2, ho1, hex, rfl, g1, p1, hb1, hf2, hr, hl⟩)
theorem setX_add {k : Str} {tk : Tok} {Q : Bool → Shared → Prop} (R : SetX P w s.heap a xs) (room : xs.length + 1 < scanBound)
    (hQ : ∀ b h', Heap.SameBut a s.heap h' → SetX P w h' a (uqStep xs k) → Q b { s with heap := h' }) :
    wpAny (model P w) A (setAddHashed a (.str k tk) ((strKind P w).hash k)) Q E s := by
  have ⟨nd, o, es, ep, t, ho, hex, hd, g, pm0, hb, hf, hr, hl⟩ := R
  have hkey : (strKind P w).is k (.str k tk) = true := strKind_is P w k tk
  have hsc : (Value.str k tk).scannable = true := rfl
  have hel : ElemsOf (strKind P w) es.toList := txE_elems g
  have hmem : ∀ j, j ∈ xs ↔ ∃ e ∈ es.toList, (strKind P w).is j e.2 = true := fun j => by
    rw [← pm0.mem_iff, List.mem_map]
    exact ⟨fun ⟨e, he, q⟩ => ⟨e, he, (txE_is (g e he) j).2 q⟩, fun ⟨e, he, q⟩ => ⟨e, he, (txE_is (g e he) j).1 q⟩⟩
  unfold setAddHashed setAddHashedIn
  refine wpAny_holding (wpAny_bind (wpAny_setState_of ho hd hf ?_))
  dsimp only
  rw [byScan_of hsc hb hel]
  simp only [↓reduceIte]
  unfold setAddByScan
  refine wpAny_bind ?_
  refine wpAny_bind (wpAny_rule ?_)
  refine wpAny_bind (wpAny_setScan_of hkey ho hd hf hel ?_)
  cases hfi : List.findIdx? (fun e => (strKind P w).is k e.2) es.toList with
  | some j =>
    dsimp only
    obtain ⟨hj, pj, _⟩ := List.findIdx?_eq_some_iff_getElem.mp hfi
    have hk : k ∈ xs := (hmem k).2 ⟨es.toList[j], List.getElem_mem hj, pj⟩
    refine wpAny_pure (wpAny_pure ?_)
    exact hQ _ s.heap (Heap.SameBut.refl a s.heap) (by rw [uqStep, if_pos hk]; exact R)
  | none =>
    dsimp only
    have hnk : k ∉ xs := fun z => by
      obtain ⟨e, he, q⟩ := (hmem k).1 z
      have c := List.findIdx?_eq_none_iff.mp hfi e he
      rw [q] at c
      cases c
    have hgw : ∀ (b : Bool) {s₁ : Shared} {Q' : Unit → Shared → Prop}, Q' () s₁ → wpAny (model P w) A (match b with | true => rule "set.scan.the-table-gave-way" | false => pure ()) Q' E s₁ :=
      fun b s₁ Q' q => by cases b <;> first | exact wpAny_pure q | exact wpAny_rule q
    have pm := layNew_perm t es ((strKind P w).hash k) (.str k tk)
    have hf1 := layNew_fits t es ((strKind P w).hash k) (.str k tk)
    have hr1 := layNew_ris t es ((strKind P w).hash k) (.str k tk) hr
    have hl1 := layNew_led t es ((strKind P w).hash k) (.str k tk)
    generalize layNew t es ((strKind P w).hash k) (.str k tk) = Z at pm hf1 hr1 hl1 ⊢
    obtain ⟨es1, t1, wasDummy, gave⟩ := Z
    dsimp only at pm hf1 hr1 hl1 ⊢
    rw [Array.toList_push] at pm
    have pk : (es1.toList.map txK).Perm (xs ++ [k]) := by
      have q := pm.map txK
      rw [List.map_append] at q
      exact q.trans (pm0.append_right _)
    have g1 : ∀ e ∈ es1.toList, TxE w e := fun e he => by
      rcases List.mem_append.mp (pm.mem_iff.mp he) with z | z
      · exact g e z
      · rw [List.mem_singleton.mp z]; exact ⟨k, tk, rfl, rfl⟩
    have nd1 : (xs ++ [k]).Nodup := List.nodup_append.mpr ⟨nd, List.pairwise_singleton _ _, fun x hx y hy e => by rw [List.mem_singleton.mp hy] at e; exact hnk (e ▸ hx)⟩
    have hsz : es1.size = xs.length + 1 := by rw [← Array.length_toList, ← List.length_map (f := txK), pk.length_eq, List.length_append]; rfl
    have hb1 : es1.size < scanBound := by rw [hsz]; exact room
    have hled : w.params.followText "set-order" = true ∨ t1.led = true := hl.imp id fun z => by rw [hl1]; exact z
    have fin : ∀ h', Heap.SameBut a s.heap h' → SetX P w h' a (xs ++ [k]) → Q true { s with heap := h' } := fun h' sb r => hQ true h' sb (by rw [uqStep, if_neg hnk]; exact r)
    refine wpAny_bind (hgw _ ?_)
    split
    · refine wpAny_bind ?_
      rw [hashByValue_scannable 8 hsc]
      refine wpAny_pure ?_
      refine setX_tail ?_ ho hex hd nd1 g1 pk hb1 ?_ ?_ ?_ ?_
      · intro b s₁ Q' q; cases b <;> first | exact wpAny_pure q | exact wpAny_rule q
      · first | (split <;> first | exact hf1 | exact SetTable.fits_plain_off hf1) | exact hf1
      · first | (split <;> exact hr1) | exact hr1
      · first | (split <;> exact hled) | exact hled
      · intro h' sb r; dsimp only; exact wpAny_pure (fin h' sb r)
    · refine wpAny_bind (wpAny_pure ?_)
      simp only [↓reduceIte]
      refine setX_tail ?_ ho hex hd nd1 g1 pk hb1 hf1 hr1 hled ?_
      · intro b s₁ Q' q; cases b <;> first | exact wpAny_pure q | exact wpAny_rule q
      · intro h' sb r; dsimp only; exact wpAny_pure (fin h' sb r)
end
theorem uq_take (xs : List Str) {i : Nat} {k : Str} (h : xs[i]? = some k) : uq (xs.take (i + 1)) = uqStep (uq (xs.take i)) k := by
  unfold uq
  rw [List.take_succ, h, Option.toList_some, List.foldl_append]
  rfl
theorem uqStep_len (acc : List Str) (k : Str) : (uqStep acc k).length ≤ acc.length + 1 := by
  unfold uqStep
  split
  · omega
  · rw [List.length_append]; exact Nat.le_refl _
theorem uqFold_len : ∀ (xs acc : List Str), (xs.foldl uqStep acc).length ≤ acc.length + xs.length
  | [], acc => Nat.le_refl _
  | x :: xs, acc => by
    have h1 := uqFold_len xs (uqStep acc x)
    have h2 := uqStep_len acc x
    rw [List.foldl_cons, List.length_cons]
    omega
theorem uq_len (xs : List Str) : (uq xs).length ≤ xs.length := by
  have h := uqFold_len xs []
  rw [List.length_nil, Nat.zero_add] at h
  exact h
section
variable {P : Program} {w : World} {A : Around} {R : Result → Shared → Prop} {I : Addr} {fp wr : List Addr} {G : Array GenState → Array GenState → Prop} {n : Nat} {Pv : Nat → Value → Prop} {St : Nat → Shared → Prop}
/-- set.update's loop -/
theorem setX_loop (W : WalksS P w A.in1 I fp wr G n Pv St) (S : Addr) (hSf : S ∉ fp) (xs : List Str) (hn : n = xs.length) (hb : n + 1 < scanBound)
    (hval : ∀ i v, Pv i v → ∃ k t, xs[i]? = some k ∧ v = .str k t) :
    ∀ (k i : Nat) (s : Shared), n - i = k → i ≤ n → St i s → SetX P w s.heap S (uq (xs.take i)) →
      (∀ s', Moved (S :: wr) G s s' → SetX P w s'.heap S (uq xs) → R (.ok (.ret .none)) s') →
      codeAny (model P w) A (.builtin "set.update.loop" ⟨[.ref S, .ref I], []⟩) R s := by
  have hSw : S ∉ wr := fun h => hSf (W.sub _ h)
  have hsub : ∀ b ∈ wr, b ∈ S :: wr := fun b hb => List.mem_cons_of_mem _ hb
  intro k
  induction k with
  | zero =>
    intro i s hk hi hst hS hR
    have hin : i = n := by omega
    subst hin
    refine codeAny_builtin PyProof.Rows.F.entry_set_update_loop ?_
    rw [Around.under_plainId PyProof.Rows.F.plain_set_update_loop _]
    show wpAny _ A.in1 (pyNext (.ref I) >>= _) _ _ s
    refine wpAny_bind (W.done s _ _ hst fun s' hm => ?_)
    show wpAny _ A.in1 (ret Value.none) _ _ s'
    rw [hn, List.take_length] at hS
    exact wpAny_pure (hR s' (hm.mono hsub) (hS.at fun o e => hm.heap S o hSw e))
  | succ k ih =>
    intro i s hk hi hst hS hR
    have hlt : i < n := by omega
    refine codeAny_builtin PyProof.Rows.F.entry_set_update_loop ?_
    rw [Around.under_plainId PyProof.Rows.F.plain_set_update_loop _]
    show wpAny _ A.in1 (pyNext (.ref I) >>= _) _ _ s
    refine wpAny_bind (W.item i s _ _ hlt hst fun v s' hP hst' hm => ?_)
    obtain ⟨y, t, hy, rfl⟩ := hval i v hP
    have hS' := hS.at (h' := s'.heap) fun o e => hm.heap S o hSw e
    show wpAny _ A.in1 (holding [Value.str y t] (setAdd S (.str y t)) >>= _) _ _ s'
    refine wpAny_bind (wpAny_holding ?_)
    unfold setAdd
    refine wpAny_holding ?_
    refine wpAny_bind ((strKind P w).pyHash (k := y) (strKind_is _ _ _ _) ?_)
    have hroom : (uq (xs.take i)).length + 1 < scanBound := by
      have h1 := uq_len (xs.take i)
      have h2 : (xs.take i).length ≤ i := by rw [List.length_take]; exact Nat.min_le_left _ _
      omega
    refine setX_add (s := { s' with toks := s'.toks + 1 }) hS' hroom fun b h' hsb hS2 => ?_
    rw [← uq_take xs hy] at hS2
    refine wpAny_pure ⟨plainId_quiet PyProof.Rows.F.plain_set_update_loop _, ih (i + 1) _ (by omega) hlt (W.frame _ s' _ _ hst' (Nat.le_succ _) fun b hb o e => ?_) hS2 fun s'' hm'' hS'' => ?_⟩
    · rw [hsb.2 b (fun h : b = S => hSf (by rw [← h]; exact hb))]; exact e
    · refine hR s'' (Moved.trans W.gtrans ((hm.mono hsub).then_heap (Nat.le_succ _) fun b o hb e => ?_) hm'') hS''
      rw [hsb.2 b (fun h : b = S => hb (by rw [h]; exact List.mem_cons_self))]; exact e
end
section
variable {P : Program} {w : World} {A : Around} {E : Value → Shared → Prop} {s : Shared}
abbrev set0 (w : World) : Obj := { cls := .type "set", dict := none, data := .set #[] 0 (.fresh 0 0 (!w.params.followText "set-order")) }
theorem strs_nth : ∀ {us : List Value} {xs : List Str}, StrsAre us xs → ∀ (i : Nat) (v : Value), us[i]? = some v → ∃ k t, xs[i]? = some k ∧ v = .str k t
  | _, _, .nil, i, v, h => by simp at h
  | _, _, .cons n t hr, 0, v, h => by simp at h; exact ⟨n, t, rfl, h.symm⟩
  | _, _, .cons n t hr, i + 1, v, h => by
    rw [List.getElem?_cons_succ] at h
    obtain ⟨k, t', e1, e2⟩ := strs_nth hr i v h
    exact ⟨k, t', by rw [List.getElem?_cons_succ]; exact e1, e2⟩
end
end B
/-! BSet3: sorted and len of sets of texts. -/
namespace B
open PySem PySem.Spec PyProof.Rows L2
section
variable {P : Program} {w : World} {A : Around} {E : Value → Shared → Prop} {s : Shared}
/-- sorted(the set) -/
theorem sortedX {a : Addr} {xs : List Str} {Q : Value → Shared → Prop} (R : SetX P w s.heap a xs) (hh : A.handled = none) (hu : A.units + 66 < cLine)
    (hQ : ∀ s' p (out : List Value) (c : Nat) (ys : List Str), (∀ b o, s.heap.get? b = some o → s'.heap.get? b = some o) → s'.gens = s.gens → s'.os = s.os → s.heap.objs.size ≤ p →
      s'.heap.get? p = some (seqObj "list" out.toArray c) → ys.Perm xs → PySem.W.EachIs (fun v d => ∃ t, v = Value.str d t) out (ys.mergeSort (PySem.W.dataLe false PyData.str)) → Q (.ref p) s') :
    wpAny (model P w) A (call (.builtin "sorted") [.ref a]) Q E s := by
  obtain ⟨o, es, ep, t, ho, hex, hd, g, pm0, hb, hf, hr, hl⟩ := R.ex
  refine Calls.call_function_entry kind_sorted plain_sorted entry_sorted (args_sorted1 _) ?_
  unfold Builtin.«sorted»
  refine wpAny_bind (m := checkCount "sorted" 1 1 _) (wpAny_pure ?_)
  refine wpAny_bind (collect_set (A := A.in1) hh ⟨o, ho, hex.1, hd⟩ hf hb hr hl fun s1 vs k1 hz g1 o1 pm => ?_)
  have txv : ∀ vs : List Value, (∀ v ∈ vs, ∃ k t, v = Value.str k t) → PySem.W.EachIs (fun v d => ∃ t, v = Value.str d t) vs (vs.map fun v => txK (0, v)) := by
    intro vs
    induction vs with
    | nil => intro _; exact .nil
    | cons v vs ih =>
      intro hv
      obtain ⟨k, t, rfl⟩ := hv v List.mem_cons_self
      exact .cons ⟨t, rfl⟩ (ih fun u hu => hv u (List.mem_cons_of_mem _ hu))
  have eI := txv vs fun v hv => by
    obtain ⟨e, he, q⟩ := List.mem_map.mp (pm.mem_iff.mp hv)
    obtain ⟨k, tk, h1, _⟩ := g e he
    exact ⟨k, tk, by rw [← q]; exact h1⟩
  have pk : (vs.map fun v => txK (0, v)).Perm xs := by
    have q := pm.map fun v => txK (0, v)
    rw [List.map_map] at q
    exact q.trans pm0
  have hlen : vs.length = xs.length := by rw [← pk.length_eq, List.length_map]
  have hxs : xs.length < scanBound := by
    rw [← pm0.length_eq, List.length_map, Array.length_toList]; exact hb
  have hvl : vs.length ≤ sizeLine := by rw [hlen]; exact fits_of_scanBound hxs
  refine wpAny_bind (wpAny_newList ?_ hvl)
  have hoL : (s1.heap.push (seqObj "list" vs.toArray 0)).get? s1.heap.objs.size = some (seqObj "list" vs.toArray 0) := Heap.get?_push_size _ rfl
  refine wpAny_bind (wpAny_holding (PySem.W.list_sort_data (s := { s1 with heap := s1.heap.push (seqObj "list" vs.toArray 0) }) (bs := vs.map fun v => txK (0, v)) (R := fun v d => ∃ t, v = Value.str d t) (enc := PyData.str) hoL eI
    (eI.mono fun v d ⟨t, e⟩ => ⟨[], by rw [e]; exact .str d t, by simp⟩) ?_ (.inr ?_) (by rw [List.length_map]; exact hvl) (fun d hd => ?_) fun out hlo eo => ?_))
  · intro d hd d' hd'
    obtain ⟨x, _, rfl⟩ := List.mem_map.mp hd
    obtain ⟨y, _, rfl⟩ := List.mem_map.mp hd'
    rfl
  · intro d hd
    obtain ⟨x, _, rfl⟩ := List.mem_map.mp hd
    exact ⟨PyData.noConfusion, fun _ => PyData.noConfusion⟩
  · have : (PyData.str d).depth ≤ 1 := by simp [PyData.depth]
    show A.units + 1 + 1 + _ < cLine
    omega
  obtain ⟨c, hc⟩ := sortedHeap_at (vs := vs) (out := out.toArray) hoL
  refine wpAny_pure ⟨_, rfl, hQ _ s1.heap.objs.size out c _ (fun b u e => ?_) g1 o1 hz hc pk eo⟩
  have q := k1 b u e
  have hlt := Heap.lt_size q
  show (sortedHeap (s1.heap.push (seqObj "list" vs.toArray 0)) s1.heap.objs.size vs out.toArray).get? b = some u
  rw [sortedHeap_old (Nat.ne_of_lt hlt) (by rw [Heap.size_push]; exact Nat.lt_succ_of_lt hlt)]
  exact Heap.get?_push_of_some _ q
end
end B
/-! BSet2: set(a list), set(a tuple) of texts. -/
namespace B
open PySem PySem.Spec PyProof.Rows L2
section
variable {P : Program} {w : World} {A : Around} {E : Value → Shared → Prop} {s : Shared}
set_option maxHeartbeats 3200000 in
theorem call_setX_list {l : Addr} {items : Array Value} {xs : List Str} {Q : Value → Shared → Prop} (hh : A.handled = none) (hl : s.heap.IsList l items) (hi : StrsAre items.toList xs) (hn1 : xs.length + 1 < scanBound)
    (h : ∀ (h' : Heap) (tk : Nat), SetX P w h' s.heap.objs.size (uq xs) → (∀ b o, s.heap.get? b = some o → h'.get? b = some o) → Q (.ref s.heap.objs.size) { s with heap := h', toks := tk }) :
    wpAny (model P w) A (call (.type "set") [.ref l]) Q E s := by
  have hsz : xs.length = items.size := by rw [← StrsAre.len_eq hi, Array.length_toList]
  obtain ⟨c, tl, hmro⟩ := PySem.F.called_set.mro
  have hmade := PySem.F.called_set.made
  have hsub := PySem.F.called_set.sub
  refine wpAny_call (codeAny_of_tree ?_)
  show wpAny _ _ (callAny (.type "set") _) _ _ _
  refine wpAny_pure ⟨Code.quiet_builtin _ (by decide +kernel), codeAny_builtin PySem.F.entry_type_call ?_⟩
  rw [Around.under_plain (weight_type_call_type "set" [.ref l] []) rfl]
  have h1 := PySem.F.called_set.notType
  have h2 := PySem.F.called_set.canCreate
  have hct := PySem.F.typeCall_set_1 (.ref l)
  repeat (any_goals (first | assumption | wp_step))
  refine codeAny_mono (code_set_led1 (.ref l) (E := E) (Q₁ := fun obj s₁ => obj = .ref s.heap.objs.size ∧ s₁ = { s with heap := s.heap.push (set0 w) }) ⟨rfl, rfl⟩) fun r s₁ hr => ?_
  cases r with
  | error e => exact hr
  | ok fl =>
    cases fl with
    | ret obj =>
      obtain ⟨rfl, rfl⟩ := hr
      have hS : (s.heap.push (set0 w)).get? s.heap.objs.size = some (set0 w) := Heap.get?_push_size _ rfl
      have hT : Shared.TypeIs { s with heap := s.heap.push (set0 w) } (.ref s.heap.objs.size) "set" := ⟨_, hS, rfl⟩
      have hli := PySem.F.called_set.init.lookup
      have hbi := PySem.F.called_set.init.bind (.ref s.heap.objs.size)
      repeat (any_goals (first | assumption | wp_step))
      refine codeAny_mono (codeAny_call_builtin (R := wants (fun r s₂ => r = .none ∧ ∃ h' tk, s₂ = { s with heap := h', toks := tk } ∧ SetX P w h' s.heap.objs.size (uq xs) ∧
          (∀ b o, s.heap.get? b = some o → h'.get? b = some o)) E) PySem.F.called_set.init.plain PySem.F.entry_set_init (check_set_init_1 hT ?_)) fun r₂ s₂ hr₂ => ?_
      · obtain ⟨ol, hol, hcl, nl, hdl⟩ := hl
        obtain ⟨ocls, odict, odata, oslots⟩ := ol
        simp only at hcl hdl
        subst hcl; subst hdl
        have hol' : (s.heap.push (set0 w)).get? l = some { cls := .type "list", dict := odict, data := .seq items nl, slots := oslots } := Heap.get?_push_of_some _ hol
        have hsls := PySem.F.sub_list_set
        have hslf := PySem.F.sub_list_frozenset
        have hne : (Value.type "list" == Value.type "dict") = false := by decide
        have hl1 : (s.heap.push (set0 w)).IsList l items := ⟨_, hol', rfl, nl, rfl⟩
        unfold Builtin.«set.__init__» noKeywords Builtin.Frozenset.updateFrom
        generalize hPI : pyIter = PI
        wp_walk
        subst hPI
        refine wpAny_pyIter_list hl1 ?_
        refine wpAny_bind (wpAny_runValue ?_)
        have hlS : l < s.heap.objs.size := Heap.lt_size hol
        have hh3 : A.in1.in1.in1.handled = none := by simp [hh]
        have hneI : l ≠ (s.heap.push (set0 w)).objs.size := by
          rw [Heap.size_push]; exact Nat.ne_of_lt (Nat.lt_succ_of_lt hlS)
        have hSf : s.heap.objs.size ∉ [(s.heap.push (set0 w)).objs.size, l] := by
          rw [Heap.size_push]; simp only [List.mem_cons, List.mem_singleton, List.not_mem_nil, or_false, not_or]
          exact ⟨Nat.ne_of_lt (Nat.lt_succ_self _), Nat.ne_of_gt hlS⟩
        refine setX_loop ((Walks.list hh3 _ l hneI items).toS) s.heap.objs.size hSf xs hsz.symm (by rw [← hsz]; exact hn1)
          (fun i v hv => strs_nth hi i v (by rw [Array.getElem?_toList]; exact hv)) (items.size - 0) 0 _ (by omega) (Nat.zero_le _)
          ⟨⟨_, Heap.get?_push_size _ rfl, rfl, rfl⟩, (hl1.push _)⟩ (setX_fresh (Heap.get?_push_of_some _ hS)) ?hR
        case hR =>
          intro s' hm hS'
          obtain ⟨h', g', d', tk', os'⟩ := s'
          have eg : g' = s.gens := hm.gens
          have ed : d' = s.drawn := hm.drawn
          have eo : os' = s.os := hm.os
          subst eg; subst ed; subst eo
          show wpAny _ _ _ _ _ _
          refine wpAny_pure ?_
          show wpAny _ _ (ret Value.none) _ _ _
          refine wpAny_pure ⟨rfl, h', tk', rfl, hS', fun b o e => ?_⟩
          have hb : b < s.heap.objs.size := Heap.lt_size e
          have hb2 : b ≠ (s.heap.push (set0 w)).objs.size := by
            rw [Heap.size_push]; exact Nat.ne_of_lt (Nat.lt_succ_of_lt hb)
          exact hm.heap b o (by simp only [List.mem_cons, List.mem_singleton, List.not_mem_nil, or_false, not_or]; exact ⟨Nat.ne_of_lt hb, hb2⟩) (Heap.get?_push_of_some _ (Heap.get?_push_of_some _ e))
      · cases r₂ with
        | error e => exact hr₂
        | ok fl₂ =>
          cases fl₂ with
          | ret r =>
            obtain ⟨rfl, h', tk, rfl, hS', hk'⟩ := hr₂
            repeat (any_goals (first | assumption | wp_step))
            exact h _ _ hS' hk'
          | _ => exact hr₂.elim
    | _ => exact hr.elim
set_option maxHeartbeats 3200000 in
theorem call_setX_tuple {l : Addr} {items : Array Value} {xs : List Str} {Q : Value → Shared → Prop} (hh : A.handled = none) (hl : s.heap.IsTuple l items) (hi : StrsAre items.toList xs) (hn1 : xs.length + 1 < scanBound)
    (h : ∀ (h' : Heap) (tk : Nat), SetX P w h' s.heap.objs.size (uq xs) → (∀ b o, s.heap.get? b = some o → h'.get? b = some o) → Q (.ref s.heap.objs.size) { s with heap := h', toks := tk }) :
    wpAny (model P w) A (call (.type "set") [.ref l]) Q E s := by
  have hsz : xs.length = items.size := by rw [← StrsAre.len_eq hi, Array.length_toList]
  obtain ⟨c, tl, hmro⟩ := PySem.F.called_set.mro
  have hmade := PySem.F.called_set.made
  have hsub := PySem.F.called_set.sub
  refine wpAny_call (codeAny_of_tree ?_)
  show wpAny _ _ (callAny (.type "set") _) _ _ _
  refine wpAny_pure ⟨Code.quiet_builtin _ (by decide +kernel), codeAny_builtin PySem.F.entry_type_call ?_⟩
  rw [Around.under_plain (weight_type_call_type "set" [.ref l] []) rfl]
  have h1 := PySem.F.called_set.notType
  have h2 := PySem.F.called_set.canCreate
  have hct := PySem.F.typeCall_set_1 (.ref l)
  repeat (any_goals (first | assumption | wp_step))
  refine codeAny_mono (code_set_led1 (.ref l) (E := E) (Q₁ := fun obj s₁ => obj = .ref s.heap.objs.size ∧ s₁ = { s with heap := s.heap.push (set0 w) }) ⟨rfl, rfl⟩) fun r s₁ hr => ?_
  cases r with
  | error e => exact hr
  | ok fl =>
    cases fl with
    | ret obj =>
      obtain ⟨rfl, rfl⟩ := hr
      have hS : (s.heap.push (set0 w)).get? s.heap.objs.size = some (set0 w) := Heap.get?_push_size _ rfl
      have hT : Shared.TypeIs { s with heap := s.heap.push (set0 w) } (.ref s.heap.objs.size) "set" := ⟨_, hS, rfl⟩
      have hli := PySem.F.called_set.init.lookup
      have hbi := PySem.F.called_set.init.bind (.ref s.heap.objs.size)
      repeat (any_goals (first | assumption | wp_step))
      refine codeAny_mono (codeAny_call_builtin (R := wants (fun r s₂ => r = .none ∧ ∃ h' tk, s₂ = { s with heap := h', toks := tk } ∧ SetX P w h' s.heap.objs.size (uq xs) ∧
          (∀ b o, s.heap.get? b = some o → h'.get? b = some o)) E) PySem.F.called_set.init.plain PySem.F.entry_set_init (check_set_init_1 hT ?_)) fun r₂ s₂ hr₂ => ?_
      · obtain ⟨ol, hol, hcl, nl, hdl⟩ := hl
        obtain ⟨ocls, odict, odata, oslots⟩ := ol
        simp only at hcl hdl
        subst hcl; subst hdl
        have hol' : (s.heap.push (set0 w)).get? l = some { cls := .type "tuple", dict := odict, data := .seq items nl, slots := oslots } := Heap.get?_push_of_some _ hol
        have hsls := PySem.F.sub_tuple_set
        have hslf := PySem.F.sub_tuple_frozenset
        have hne : (Value.type "tuple" == Value.type "dict") = false := by decide
        have hl1 : (s.heap.push (set0 w)).IsTuple l items := ⟨_, hol', rfl, nl, rfl⟩
        unfold Builtin.«set.__init__» noKeywords Builtin.Frozenset.updateFrom
        generalize hPI : pyIter = PI
        wp_walk
        subst hPI
        refine wpAny_pyIter_tuple hl1 ?_
        refine wpAny_bind (wpAny_runValue ?_)
        have hlS : l < s.heap.objs.size := Heap.lt_size hol
        have hh3 : A.in1.in1.in1.handled = none := by simp [hh]
        have hneI : l ≠ (s.heap.push (set0 w)).objs.size := by
          rw [Heap.size_push]; exact Nat.ne_of_lt (Nat.lt_succ_of_lt hlS)
        have hSf : s.heap.objs.size ∉ [(s.heap.push (set0 w)).objs.size, l] := by
          rw [Heap.size_push]; simp only [List.mem_cons, List.mem_singleton, List.not_mem_nil, or_false, not_or]
          exact ⟨Nat.ne_of_lt (Nat.lt_succ_self _), Nat.ne_of_gt hlS⟩
        refine setX_loop ((Walks.tuple hh3 _ l hneI items).toS) s.heap.objs.size hSf xs hsz.symm (by rw [← hsz]; exact hn1)
          (fun i v hv => strs_nth hi i v (by rw [Array.getElem?_toList]; exact hv)) (items.size - 0) 0 _ (by omega) (Nat.zero_le _)
          ⟨⟨_, Heap.get?_push_size _ rfl, rfl, rfl⟩, (hl1.push _)⟩ (setX_fresh (Heap.get?_push_of_some _ hS)) ?hR
        case hR =>
          intro s' hm hS'
          obtain ⟨h', g', d', tk', os'⟩ := s'
          have eg : g' = s.gens := hm.gens
          have ed : d' = s.drawn := hm.drawn
          have eo : os' = s.os := hm.os
          subst eg; subst ed; subst eo
          show wpAny _ _ _ _ _ _
          refine wpAny_pure ?_
          show wpAny _ _ (ret Value.none) _ _ _
          refine wpAny_pure ⟨rfl, h', tk', rfl, hS', fun b o e => ?_⟩
          have hb : b < s.heap.objs.size := Heap.lt_size e
          have hb2 : b ≠ (s.heap.push (set0 w)).objs.size := by
            rw [Heap.size_push]; exact Nat.ne_of_lt (Nat.lt_succ_of_lt hb)
          exact hm.heap b o (by simp only [List.mem_cons, List.mem_singleton, List.not_mem_nil, or_false, not_or]; exact ⟨Nat.ne_of_lt hb, hb2⟩) (Heap.get?_push_of_some _ (Heap.get?_push_of_some _ e))
      · cases r₂ with
        | error e => exact hr₂
        | ok fl₂ =>
          cases fl₂ with
          | ret r =>
            obtain ⟨rfl, h', tk, rfl, hS', hk'⟩ := hr₂
            repeat (any_goals (first | assumption | wp_step))
            exact h _ _ hS' hk'
          | _ => exact hr₂.elim
    | _ => exact hr.elim
end
end B
/-! BSet4: len(set(xs)), sorted(set(xs)), xs a list or tuple of texts. -/
namespace B
open PySem PySem.Spec PyProof.Rows L2
def dStrs (d : D) (xs : List Str) : Prop := d = .lst (xs.map .str) ∨ d = .tup (xs.map .str)
abbrev sortS (ys : List Str) : List Str := ys.mergeSort (PySem.W.dataLe false PyData.str)
def dLenS : F1 := fun d Q => ∃ xs : List Str, dStrs d xs ∧ xs.length < 1000 ∧ Q (.fr (.int (uq xs).length))
def dSortS : F1 := fun d Q => ∃ xs : List Str, dStrs d xs ∧ xs.length < 1000 ∧ ∀ ys : List Str, ys.Perm (uq xs) → Q (.ow (.lst ((sortS ys).map .str)))
theorem len1000 {n : Nat} (h : n < 1000) : n + 1 < scanBound := by unfold scanBound; omega
theorem repA_ofStrs {L : Lb} {F : Hp} : ∀ {ys : List Str} {us : List Value}, PySem.W.EachIs (fun v d => ∃ t, v = Value.str d t) us ys → ∃ vs, Vals vs us ∧ RepA L F (ys.map .str) vs
  | [], _, .nil => ⟨[], .nil, repA_nil⟩
  | _ :: _, _, .cons ⟨t, e⟩ r => by
    obtain ⟨vs, h1, h2⟩ := repA_ofStrs (L := L) (F := F) r
    exact ⟨.str _ :: vs, .cons ⟨t, e⟩ h1, repA_cons rep_str h2⟩
section
variable {b : Bx} {a : Expr} {pos p p2 q : Pos} {t : BO} {Nm : List Str} {tbl : List (Nat × Str)} {gl : List Str} {k : Nat}
/-- set(the operand) -/
theorem set_run {pins : List (Addr × Obj)} {σ : L2.St} {N : Nh} {F H : Hp} {E : En} {s : Shared} {d : D} {v : V} {u : Value} {xs : List Str} {R : Value → Shared → Prop} {XE : Value → Shared → Prop} (hc : b.X.calm = true) (I : Inv b.X pins σ H s) (ok : Ok b.lb N F E σ H) (rd : RepT b.lb F H d v) (rv : RelV v u) (hd : dStrs d xs) (hl : xs.length < 1000)
    (hR : ∀ (h' : Heap) (tk : Nat), SetX b.X.prog b.X.w h' s.heap.objs.size (uq xs) → (∀ b o, s.heap.get? b = some o → h'.get? b = some o) → R (.ref s.heap.objs.size) { s with heap := h', toks := tk }) :
    wpAny (model b.X.prog b.X.w) b.X.A (call (.type "set") [u]) R XE s := by
  rcases hd with rfl | rfl
  · obtain ⟨l, vs, rfl, h1, ra⟩ := rd
    cases rv
    have ev := repA_strs ra
    subst ev
    obtain ⟨its, r, pl, hz⟩ := I.list (.inl (.inl h1))
    exact call_setX_list (I.ok.hd hc) pl.isList (by simpa using strsAre_of r) (len1000 hl) hR
  · obtain ⟨l, vs, rfl, h0, h1, ra⟩ := t_tup ok.sub rd
    cases rv
    have ev := repA_strs ra
    subst ev
    obtain ⟨its, r, pl, hz⟩ := I.tuple h1
    exact call_setX_tuple (I.ok.hd hc) pl (by simpa using strsAre_of r) (len1000 hl) hR
theorem be_lenSet (g : Gd b Nm tbl gl k) (hg : Gl b.X "len") (hm : b.X.mg "len" = none) (hg2 : Gl b.X "set") (hm2 : b.X.mg "set" = none) (ha : BOp b a t)
    (na : starEach [a] b.X.env = (false, eval a b.X.env) :: starEach [] b.X.env := by rfl) : BE b (.Call (.Name "len" p) [.Call (.Name "set" p2) [a] [] q] [] pos) (bUn dLenS t) := by
  refine ⟨fun pins s σ H Q I ⟨N, F, E, QB, XB, ok, ht, hQ, hX⟩ => ?_⟩
  refine Call_ (ld_blt I hg hm boot_len ?_)
  refine PyProof.Rows.callWith_builtin1 (PyProof.Rows.args_cons ?_ rfl) rfl rfl
  refine Call_ (ld_blt I hg2 hm2 boot_set ?_)
  refine PyProof.Rows.callWith_type1 (PyProof.Rows.args_cons (thn (ha.run pins s σ H (fun v H' => ∃ F' E' d, Same F F' ∧ Ok b.lb N F' E' σ H' ∧ RepT b.lb F' H' d v ∧ dLenS d fun s => QB s E') I ⟨N, F, E, _, XB, ok, ht, fun F' E' d v H' s ok r q => ⟨F', E', d, s, ok, r, q⟩, hX⟩)
    fun u s1 ⟨v, H1, I1, r1, F1, E1, d, sF, ok1, rd, xs, hd, hl, q1⟩ => PyProof.Rows.args_nil ?_) na) na rfl
  refine set_run g.calm I1 ok1 rd r1 hd hl fun h' tk hS hk => PyProof.Rows.args_nil ?_
  obtain ⟨o, es, ep, tb, ho, hex, hdd, hf, hn⟩ := hS.size
  have I2 : Inv b.X pins σ H1 { s1 with heap := h', toks := tk } := I1.kept hk
  have hul := uq_len xs
  refine call_len_set ho hex hdd hf (by rw [hn]; omega) ⟨.int (uq xs).length, H1, I2.tok _, ⟨_, by rw [hn]⟩, hQ F1 E1 _ _ H1 sF (ok1.push rep_int) q1⟩
theorem be_sortSet (g : Gd b Nm tbl gl k) (hg : Gl b.X "sorted") (hm : b.X.mg "sorted" = none) (hg2 : Gl b.X "set") (hm2 : b.X.mg "set" = none) (ha : BOp b a t)
    (na : starEach [a] b.X.env = (false, eval a b.X.env) :: starEach [] b.X.env := by rfl) : BE b (.Call (.Name "sorted" p) [.Call (.Name "set" p2) [a] [] q] [] pos) (bUn dSortS t) := by
  refine ⟨fun pins s σ H Q I ⟨N, F, E, QB, XB, ok, ht, hQ, hX⟩ => ?_⟩
  refine Call_ (ld_blt I hg hm boot_sorted ?_)
  refine PyProof.Rows.callWith_builtin1 (PyProof.Rows.args_cons ?_ rfl) rfl rfl
  refine Call_ (ld_blt I hg2 hm2 boot_set ?_)
  refine PyProof.Rows.callWith_type1 (PyProof.Rows.args_cons (thn (ha.run pins s σ H (fun v H' => ∃ F' E' d, Same F F' ∧ Ok b.lb N F' E' σ H' ∧ RepT b.lb F' H' d v ∧ dSortS d fun s => QB s E') I ⟨N, F, E, _, XB, ok, ht, fun F' E' d v H' s ok r q => ⟨F', E', d, s, ok, r, q⟩, hX⟩)
    fun u s1 ⟨v, H1, I1, r1, F1, E1, d, sF, ok1, rd, xs, hd, hl, q1⟩ => PyProof.Rows.args_nil ?_) na) na rfl
  refine set_run g.calm I1 ok1 rd r1 hd hl fun h' tk hS hk => PyProof.Rows.args_nil ?_
  have I2 : Inv b.X pins σ H1 { s1 with heap := h', toks := tk } := I1.kept hk
  refine sortedX hS (I2.ok.hd g.calm) (by have := g.u70; omega) fun s' p out c ys k gs os hp ho pm ev => ?_
  obtain ⟨vs, rv, ra⟩ := repA_ofStrs (L := b.lb) (F := F1) ev
  have hul := uq_len xs
  have hlen : vs.length ≤ sizeLine := by rw [← repA_len ra, List.length_map, List.length_mergeSort, pm.length_eq, sizeLine_eq]; omega
  obtain ⟨o0, _, _, _, ho0, _⟩ := hS.ex
  have hp1 : s1.heap.objs.size ≤ p := Nat.le_trans (Nat.le_of_lt (Heap.lt_size ho0)) hp
  have k1 : ∀ b o, s1.heap.get? b = some o → s'.heap.get? b = some o := fun b o e => k b o (hk b o e)
  have hn : H1 p = none := I1.hok.fresh hp1
  have J : Inv b.X pins σ (upd H1 p (.lst vs)) { s1 with heap := s'.heap, gens := s'.gens, drawn := s'.drawn, toks := s'.toks } :=
    I1.call (ch := []) (Un.laid k1 hp1 hn) (I1.hok.laid k1 hp1 ⟨hlen, out, c, rv, ho⟩) (by rw [gs]; exact I1.bare) (fun _ z => nomatch z)
  have e : s' = { s1 with heap := s'.heap, gens := s'.gens, drawn := s'.drawn, toks := s'.toks } := by
    cases s'
    cases s1
    cases os
    rfl
  rw [e]
  exact ⟨.ref p, _, J, rfl, hQ F1 E1 _ _ _ sF (res_lst ok1 ra hn) (q1 ys pm)⟩
end
end B
/-! BEnd: the end of a law row by a promise over data. -/
namespace B
open PySem PySem.Spec PyProof.Rows L2
def both (N0 F0 : Hp) : Hp := fun b => match N0 b with
  | some u => some u
  | none => F0 b
theorem law_callD {P : Program} {w : World} {K : PySem.W.Frag} {mg mb : Str → Option Value} {cl : Str → Addr} {k : Nat} {fa a : Addr} {fd : FuncData} {x : Str} {fb : FnB} {s₁ : Shared} {vs : List Value} {ns : List Int}
    (KX : K.In s₁.heap) (hns : s₁.heap.Ns mainGlobals mg) (hb : s₁.heap.Ns builtinsNs mb) (hbb : ∀ x : Str, x ≠ "__name__" → mb x = bootBuiltins x) (hlim : s₁.heap.NoLimit) (hsm : ∃ o es ep, s₁.heap.get? sysModules = some o ∧ o.data = .dict es ep) (hg : s₁.gens = #[])
    (ha : s₁.heap.get? a = some { cls := .type "list", data := .seq vs.toArray }) (hi : IntsAre vs ns) (hl : ns.length ≤ sizeLine) (hr : Room k callerA)
    (F : ∀ base : Heap, K.In base → base.Ns mainGlobals mg → BFn P w K mg base cl k fa fd [x] fb) (hbind : ∀ (s : Shared) (u : Value), BindsTo s fd ⟨[u], []⟩ [(x, u)])
    (hfb : fb [.scr ns] [] (fun s _ => s = .fr (.bl true)) fun _ _ => False) :
    codeAny (model P w) callerA (.call (.ref fa) ⟨[.ref a], []⟩) (fun r s' => r = .ok (.ret (.bool true)) ∧ OldK s₁.heap s'.heap ∧ s'.os = s₁.os ∧ AllBare s'.gens) s₁ := by
  have rv := vals_ints hi
  have lenV := hi.length
  obtain ⟨so, ses, sep, hso, hsd⟩ := hsm
  have has : a ≠ sysModules := fun e => by
    rw [e, hso] at ha
    cases ha
    cases hsd
  -- F0: the script's object, where it is tracked
  have core : ∀ (N0 F0 : Hp), (∀ b u, N0 b = some u → b = sysModules ∧ u = dO sysModules so ∧ K.lookup sysModules = none) → (N0 sysModules = some (dO sysModules so) ∨ ∃ (o : Obj) (es : Array DictEntry) (ep : Nat), K.lookup sysModules = some o ∧ o.data = .dict es ep) → (∀ b, F0 b = none ∨ (b = a ∧ ∃ o xs, F0 b = some (.frz o (.lst xs)))) → SqL K F0 a (ns.map V.int) → (∀ H : Hp, Same F0 H → ∀ b u, F0 b = some u → ObjOk P w H s₁.heap b u) → (F0 a ≠ none → K.lookup a = none) →
      codeAny (model P w) callerA (.call (.ref fa) ⟨[.ref a], []⟩) (fun r s' => r = .ok (.ret (.bool true)) ∧ OldK s₁.heap s'.heap ∧ s'.os = s₁.os ∧ AllBare s'.gens) s₁ := by
    intro N0 F0 hN0 hN1 hO hS hF hK
    have fs : F0 sysModules = none := by
      rcases hO sysModules with e | ⟨e, _⟩
      · exact e
      · exact absurd e.symm has
    have sFH : Same F0 (both N0 F0) := fun b u e => by
      unfold both
      cases q : N0 b with
      | none => exact e
      | some v => rw [(hN0 b v q).1, fs] at e; cases e
    have sNH : Same N0 (both N0 F0) := fun b u e => by unfold both; rw [e]
    have hH : ∀ {b : Addr} {u : HO}, both N0 F0 b = some u → (b = sysModules ∧ u = dO sysModules so ∧ K.lookup sysModules = none) ∨ (b = a ∧ F0 b = some u ∧ ∃ o xs, u = .frz o (.lst xs)) := fun {b u} e => by
      unfold both at e
      cases q : N0 b with
      | some v =>
        rw [q] at e
        cases e
        exact .inl (hN0 _ _ q)
      | none =>
        rw [q] at e
        have e : F0 b = some u := e
        rcases hO b with z | ⟨z, o, xs, z2⟩
        · rw [z] at e; cases e
        · exact .inr ⟨z, e, o, xs, by rw [z2] at e; cases e; rfl⟩
    have hok : HOk P w (both N0 F0) s₁.heap := fun b u e => by
      rcases hH e with ⟨rfl, rfl, _⟩ | ⟨_, e, _⟩
      · exact ⟨hso, ⟨_, hso⟩, fun _ _ z k => k _ z⟩
      · exact hF _ sFH b u e
    have noA : ∀ {b : Addr} {o : Obj} {es : Array DictEntry} {ep : Nat}, b ≠ sysModules → s₁.heap.get? b = some o → o.data = .dict es ep → both N0 F0 b = none := fun {b o es ep} hb e d => by
      cases q : both N0 F0 b with
      | none => rfl
      | some u =>
        rcases hH q with ⟨e', _⟩ | ⟨e', _⟩
        · exact absurd e' hb
        · subst e'
          rw [ha] at e; cases e
          cases d
    have nsK : ∀ {b : Addr} {m : Str → Option Value}, b ≠ sysModules → s₁.heap.Ns b m → (hidT s₁.heap (both N0 F0)).Ns b m := fun {b m} hb ⟨o, es, ep, e, d, r⟩ => ⟨o, es, ep, hidT_get e (noA hb e d), d, r⟩
    have hKb : K.In (hidT s₁.heap (both N0 F0)) := fun b o e => hidT_get (KX b o e) (by
      cases q : both N0 F0 b with
      | none => rfl
      | some u =>
        rcases hH q with ⟨e', _, e3⟩ | ⟨e', e2, _⟩
        · subst e'
          rw [e3] at e; cases e
        · subst e'
          rw [hK (by rw [e2]; simp)] at e; cases e)
    have hM : L2.Mod K mg (hidT s₁.heap (both N0 F0)) := ⟨hKb, nsK (by decide) hns, ⟨mb, nsK (by decide) hb, hbb⟩, let ⟨mc, h1, h2⟩ := hlim; ⟨mc, nsK (by decide) h1, h2⟩⟩
    have e0 : Env0 P w K mg (hidT s₁.heap (both N0 F0)) callerA [] s₁ (both N0 F0) := ⟨rfl, hM, fun b o e => of_hidT e, Nat.le_of_eq (hidT_size _ _), trivial, fun b hb => absurd (show b ∈ ([] : List Addr) from hb) (by simp), hok, .of_eq hg⟩
    have ok : Ok ⟨P, w, K, cl⟩ ⟨N0, []⟩ F0 ⟨[Sl.fr (.scr ns)], []⟩ [some (.ref a)] (both N0 F0) :=
    { len := rfl
      sub := sFH
      fr := fun i d h => by
        cases i with
        | zero =>
          cases h
          exact ⟨.ref a, rfl, by rw [Rep]; exact ⟨a, rfl, hS⟩⟩
        | succ i => simp at h
      ow := fun i o h => by cases i with
        | zero => cases h
        | succ i => simp at h
      rd := fun i o h => by cases i with
        | zero => cases h
        | succ i => simp at h
      inj := fun i j o u p h => by cases i with
        | zero => cases h
        | succ i => simp at h
      mem := fun x hx => nomatch hx
      mnd := List.nodup_nil
      nsub := sNH
      lks := ⟨(fun x hx => nomatch hx), hN1.imp (fun h => ⟨so, ses, sep, h, hsd⟩) id⟩
      ndis := fun b e => by
        cases q : N0 b with
        | none => exact absurd q e
        | some u => rw [(hN0 b u q).1]; exact fs }
    refine codeAny_mono ((F _ hKb (nsK (by decide) hns)).run callerA [] s₁ _ ⟨[.ref a], []⟩ [.ref a] [.ref a] [.scr ns] _ F0 [] _ _ (fun v H' => v = .bl true ∧ Same N0 H') (fun _ _ _ => False) hr rfl e0 rfl (hbind s₁ (.ref a)) (.cons rfl .nil) ok hfb
      (fun F' M' y v H' sF hx ok' q => ?_) fun F' M' y cls od H' sF ok' xr q => q) fun r s' h => ?_
    · subst q
      obtain ⟨u, h1, h2⟩ := ok'.fr 0 _ rfl
      have e : u = v := by simpa using h1.symm
      subst e
      rw [Rep] at h2
      exact ⟨h2, ok'.nsub⟩
    cases r with
    | error e =>
        obtain ⟨_, _, _, _, _, _, _, _, _, _, _, _, z⟩ := h
        exact z.elim
    | ok fl =>
      cases fl with
      | next => exact False.elim h
      | brk => exact False.elim h
      | cont => exact False.elim h
      | ret u =>
        obtain ⟨v, H', os, bare, un, hok', r', q, qs⟩ := h
        have q' : v = .bl true := q
        subst q'
        obtain rfl : u = Value.bool true := r'
        refine ⟨rfl, OldK.of_keep fun b o e => ?_, os, bare⟩
        cases q : both N0 F0 b with
        | none => exact un.keep b o e q (by intro z; exact absurd (show b ∈ ([] : List Addr) from z) (by simp)) (by simp)
        | some u =>
          cases qn : N0 b with
          | some v =>
            obtain ⟨rfl, rfl, _⟩ := hN0 b v qn
            rw [hso] at e
            cases e
            exact (hok' _ _ (qs _ _ qn)).1
          | none =>
          have qf : F0 b = some u := by
            have z : both N0 F0 b = some u := q
            unfold both at z
            rw [qn] at z
            exact z
          rcases hO b with e' | ⟨e', ob, xs, e2⟩
          · rw [e'] at qf; cases qf
          · rw [qf] at e2
            cases e2
            have z2 := un.frzs b ob _ q
            obtain ⟨e1, _⟩ := hok b _ q
            obtain ⟨e2, _⟩ := hok' b _ z2
            rw [e] at e1; cases e1
            exact e2
  have fin : ∀ N0 : Hp, (∀ b u, N0 b = some u → b = sysModules ∧ u = dO sysModules so ∧ K.lookup sysModules = none) → (N0 sysModules = some (dO sysModules so) ∨ ∃ (o : Obj) (es : Array DictEntry) (ep : Nat), K.lookup sysModules = some o ∧ o.data = .dict es ep) →
      codeAny (model P w) callerA (.call (.ref fa) ⟨[.ref a], []⟩) (fun r s' => r = .ok (.ret (.bool true)) ∧ OldK s₁.heap s'.heap ∧ s'.os = s₁.os ∧ AllBare s'.gens) s₁ := by
    intro N0 h0 h1
    cases hk : K.lookup a with
    | some o =>
      have e := KX a o hk
      rw [ha] at e
      cases e
      exact core N0 (fun _ => none) h0 h1 (fun _ => .inl rfl) (.inr ⟨_, vs.toArray, _, hk, rfl, rfl, rfl, by rw [List.size_toArray, lenV]; exact hl, by simpa using rv⟩) (fun H s b u z => by cases z) fun z => absurd rfl z
    | none =>
      refine core N0 (fun b => if b = a then some (.frz { cls := .type "list", data := .seq vs.toArray } (.lst (ns.map V.int))) else none) h0 h1 (fun b => ?_) (.inl (.inr ⟨{ cls := .type "list", data := .seq vs.toArray }, if_pos rfl⟩)) (fun H s b u z => ?_) fun _ => hk
      · by_cases hb : b = a
        · exact .inr ⟨hb, _, _, if_pos hb⟩
        · exact .inl (if_neg hb)
      · by_cases hb : b = a
        · have z' := (if_pos hb).symm.trans z
          cases z'
          subst hb
          exact ⟨ha, by rw [List.length_map]; exact hl, vs, _, rv, ha⟩
        · have z' := (if_neg hb).symm.trans z
          cases z'
  cases hks : K.lookup sysModules with
  | some o =>
    have e := KX _ _ hks
    rw [hso] at e
    cases e
    exact fin (fun _ => none) (fun b u z => by cases z) (.inr ⟨so, ses, sep, hks, hsd⟩)
  | none =>
    refine fin (fun b => if b = sysModules then some (dO sysModules so) else none) (fun b u z => ?_) (.inl (if_pos rfl))
    by_cases hb : b = sysModules
    · have z' := (if_pos hb).symm.trans z
      cases z'
      exact ⟨hb, rfl, hks⟩
    · have z' := (if_neg hb).symm.trans z
      cases z'
/-- a law: F gives the written part, the function object, the promise over every base -/
theorem walk_ofD {l : PySem.W.OpenLaw} {n k : Nat} {q : Program} {loose : List Str} {XP : (Str → Option Value) → Heap → Prop} {YP : World → Heap → Prop} {d : DefRec} {x : Str}
    (hn : l.most = some n) (hn2 : n ≤ sizeLine) (hdf : d.params.defaults = []) (hr : Room k callerA) (hq : importsNone q = true)
    (F : ∀ (w : World) (mg : Str → Option Value) (fa : Addr) (h : Heap), YP w h → h.Ns mainGlobals mg → mg d.name = some (.ref fa) →
      ∃ (K : PySem.W.Frag) (fd : FuncData) (cl : Str → Addr) (fb : FnB), K.In h ∧ (∀ (s : Shared) (u : Value), BindsTo s fd ⟨[u], []⟩ [(x, u)]) ∧
        (∀ ns : List Int, ns.length ≤ n → fb [.scr ns] [] (fun s _ => s = .fr (.bl true)) fun _ _ => False) ∧
        ∀ base : Heap, K.In base → base.Ns mainGlobals mg → BFn l.prog w K mg base cl k fa fd [x] fb) :
    PySem.W.WalkO q loose XP YP l.row.toRowW d [] (fun f vs => PySem.call f vs) := by
  refine Att.attach_call hn hdf fun w s₀ s₁ mg mb fa o pm cd doc a vs ns G Y ho hd hcd hmg hobj hints hlen hg => ?_
  obtain ⟨K, fd, cl, fb, KX, hb, hfb, hF⟩ := F w mg fa _ Y G.T.g hmg
  obtain ⟨mm, ⟨so, es, ep, h1, h2, _⟩, _⟩ := (G.T.seer hq).mods
  exact law_callD KX G.T.g G.T.b G.T.builtins G.T.nolimit ⟨so, es, ep, h1, h2⟩ hg hobj hints (Nat.le_trans hlen hn2) hr hF hb (hfb ns hlen)
end B
/-! BHd: what a program's printed derivations lean on: promises by the head's data, constants, blocks, bindings. -/
namespace B
open PySem PySem.Spec PyProof.Rows L2
/-- the def d of the text keeps the promise -/
def HasFn (P : Program) (w : World) (K : PySem.W.Frag) (mg : Str → Option Value) (base : Heap) (d : He.DefD) (k : Nat) (ps : List Str) (fb : FnB) : Prop :=
  ∃ fd, FunD K d.name d.qual d.params d.body d.scope (d.dvs K) (d.kws K) (He.fAd K d.at_) fd ∧ BFn P w K mg base (He.ga K) k (He.fAd K d.at_) fd ps fb
theorem HasFn.imp {P : Program} {w : World} {K : PySem.W.Frag} {mg : Str → Option Value} {base : Heap} {d : He.DefD} {k : Nat} {ps : List Str} {fb fb' : FnB} (h : HasFn P w K mg base d k ps fb) (i : ∀ ds M Q E, fb' ds M Q E → fb ds M Q E) :
    HasFn P w K mg base d k ps fb' := by
  obtain ⟨fd, F, G⟩ := h
  exact ⟨fd, F, G.imp i⟩
def TupsOk (K : PySem.W.Frag) (l : List (Str × List He.Dv)) : Prop := (l.all fun p => He.tupB K p.1 p.2) = true
theorem TupsOk.at_ {K : PySem.W.Frag} {l : List (Str × List He.Dv)} (h : TupsOk K l) (i : Nat) {x : Str} {vs : List He.Dv} (e : l[i]? = some (x, vs) := by rfl) : He.tupB K x vs = true :=
  List.all_eq_true.mp h _ (List.mem_of_getElem? e)
section
variable {b : Bx} {e a : Expr} {pos p : Pos} {x : Str}
def bEv (t : BO) : BT := fun E Q X => t E (fun d E' => Q (.fr d) E') X
theorem be_ev {t : BO} (h : BV b e t) : BE b e (bEv t) := be_of h
theorem bv_gs {z : Str} (hg : Gl b.X x) (hm : ∃ t, b.X.mg x = some (.str z t)) (hd : (x == ("__debug__" : Str)) = false := by decide) : BV b (.Name x pos) (bC (.str z)) := by
  obtain ⟨t, hm⟩ := hm
  exact bv_c (pe_glob hg hm (v := .str z) ⟨_, rfl⟩ hd) fun _ _ => rep_str
theorem bv_gi {z : Int} (hg : Gl b.X x) (hm : ∃ t, b.X.mg x = some (.int z t)) (hd : (x == ("__debug__" : Str)) = false := by decide) : BV b (.Name x pos) (bC (.int z)) := by
  obtain ⟨t, hm⟩ := hm
  exact bv_c (pe_glob hg hm (v := .int z) ⟨_, rfl⟩ hd) fun _ _ => rep_int
theorem repA_dvs {L : Lb} {F : Hp} : ∀ xs : List Str, RepA L F (xs.map .str) ((xs.map He.Dv.str).map (He.Dv.v L.K))
  | [] => repA_nil
  | x :: xs => repA_cons rep_str (repA_dvs xs)
theorem bv_gt {xs : List Str} {ds : List D} {vs : List He.Dv} (hg : Gl b.X x) (hm : b.X.mg x = some (.ref (He.ga b.X.K x))) (tp : He.tupB b.X.K x vs = true) (hd : (x == ("__debug__" : Str)) = false := by decide)
    (e1 : vs = xs.map He.Dv.str := by rfl) (e2 : ds = xs.map D.str := by rfl) : BV b (.Name x pos) (bC (.tup ds)) :=
  pe_weak (pe_glob hg hm (v := .ref (He.ga b.X.K x)) rfl hd) fun σ H Q ⟨N, F, E, QB, XB, ok, ht, hQ, hX⟩ => hQ F E _ _ H (Same.refl F) ok (by
    rw [Rep, e2]
    have h := He.tupB_ok tp F
    rw [e1] at h
    exact ⟨_, _, rfl, h, repA_dvs (L := b.lb) xs⟩) ht
theorem bt_ty {n : String} (hg : Gl b.X x) (hm : b.X.mg x = none) (hv : bootBuiltins x = some (.type n)) (hn : x ≠ "__name__" := by decide) (hd : (x == ("__debug__" : Str)) = false := by decide) : PE b.X (.Name x pos) (tC (.ty n)) :=
  pe_bltn hg hm hv rfl hn hd
end
/-! ### dict displays, once more -/
def zipK : List (Option Expr) → List Expr → List (Expr × Expr)
  | some k :: ks, v :: vs => (k, v) :: zipK ks vs
  | _, _ => []
def okZ : List (Option Expr) → List Expr → Bool
  | [], [] => true
  | some _ :: ks, _ :: vs => okZ ks vs
  | _, _ => false
section
variable {b : Bx} {pos : Pos} {keys : List (Option Expr)} {values : List Expr} {ts : List (Str × BO)}
theorem shape_z : ∀ (keys : List (Option Expr)) (values : List Expr), okZ keys values = true → (evalEachOpt keys b.X.env).zip ((evalEach values b.X.env).map fun v => do let x ← v; standAt pos; pure x) = (pairsOf b pos (zipK keys values)).map fun p => (some p.1, p.2)
  | [], [], _ => rfl
  | some k :: ks, v :: vs, h => by
    have ih := shape_z ks vs h
    have e1 : evalEachOpt (some k :: ks) b.X.env = some (eval k b.X.env) :: evalEachOpt ks b.X.env := rfl
    have e2 : evalEach (v :: vs) b.X.env = eval v b.X.env :: evalEach vs b.X.env := rfl
    rw [e1, e2, List.map_cons, List.zip_cons_cons, ih]
    rfl
  | none :: _, _, h => by cases h
  | some _ :: _, [], h => by cases h
  | [], _ :: _, h => by cases h
theorem be_dz (h : DSt b (zipK keys values) ts) (h0 : zipK keys values ≠ []) (hz : okZ keys values = true) : BE b (.Dict keys values pos) (bDs ts) := be_ds h h0 (shape_z keys values hz)
theorem dst_cons {ke ve : Expr} {l : List (Expr × Expr)} {k : Str} {t : BO} (h1 : BV b ke (bC (.str k))) (h2 : BV b ve t) (h3 : DSt b l ts) : DSt b ((ke, ve) :: l) ((k, t) :: ts) := ⟨h1, h2, h3⟩
end
/-! ### comparisons as tests -/
section
variable {b : Bx} {a c d : Expr} {pos : Pos} {ta : BL} {tb to tc td : BO} {Nm : List Str} {tbl : List (Nat × Str)} {gl : List Str} {k : Nat}
theorem test_low {t : BT} {σ : L2.St} {H : Hp} {Q : Bool → Hp → Prop} (h : lowQ b (bT (bOf t)) σ H Q) : lowE b t σ H fun v H' => ∃ k, v = .bl k ∧ Q k H' := by
  obtain ⟨N, F, E, QB, XB, ok, ht, hQ, hX⟩ := h
  refine ⟨N, F, E, _, XB, ok, ht, fun F' E' s v H' sF ok' q => ?_, hX⟩
  cases s with
  | un => exact False.elim q
  | rd o => exact False.elim q
  | fr d =>
    cases d with
    | bl k =>
      have r := ok'.last
      rw [Rep] at r
      exact ⟨k, r, hQ F' E' k H' sF ok'.pop q⟩
    | _ => exact False.elim q
  | ow o =>
    obtain ⟨_, q⟩ := q
    cases o <;> exact False.elim q
theorem bq_bin {op : CmpOp} {r : R2} {f : F2} (ho : OpR b.X (compareOp op) r) (o : Op2 b r f) (ha : BLe b a ta) (hc : BOp b c tb) (hm : behindInMarks op c = false) : BQt b (.Compare a [op] [c] pos) (bT (bOf (bBin f ta tb))) :=
  pt_weak (pt_cmpR ho ha hc hm) fun σ H Q h => bin_low o σ H _ (test_low h)
theorem bq_lt (ha : BLe b a ta) (hc : BOp b c tb) : BQt b (.Compare a [.Lt] [c] pos) (bT (bOf (bBin dLt ta tb))) := bq_bin op_lt (op2_int0 fun _ _ _ _ => rep_bl) ha hc (nomark _)
theorem bq_le (ha : BLe b a ta) (hc : BOp b c tb) : BQt b (.Compare a [.LtE] [c] pos) (bT (bOf (bBin dLe ta tb))) := bq_bin op_le (op2_int0 fun _ _ _ _ => rep_bl) ha hc (nomark _)
theorem bq_gt (ha : BLe b a ta) (hc : BOp b c tb) : BQt b (.Compare a [.Gt] [c] pos) (bT (bOf (bBin dGt ta tb))) := bq_bin op_gt (op2_int0 fun _ _ _ _ => rep_bl) ha hc (nomark _)
theorem bq_ge (ha : BLe b a ta) (hc : BOp b c tb) : BQt b (.Compare a [.GtE] [c] pos) (bT (bOf (bBin dGe ta tb))) := bq_bin op_ge (op2_int0 fun _ _ _ _ => rep_bl) ha hc (nomark _)
theorem bq_eqA (g : Gd b Nm tbl gl k) (ha : BLe b a ta) (hc : BOp b c tb) : BQt b (.Compare a [.Eq] [c] pos) (bT (bOf (bBin (dEqA false) ta tb))) := bq_bin (op_eqA g.u70 false) op2_D ha hc (nomark _)
theorem bq_neA (g : Gd b Nm tbl gl k) (ha : BLe b a ta) (hc : BOp b c tb) : BQt b (.Compare a [.NotEq] [c] pos) (bT (bOf (bBin (dEqA true) ta tb))) := bq_bin (op_eqA g.u70 true) op2_D ha hc (nomark _)
theorem bq_in (g : Gd b Nm tbl gl k) (ha : BLe b a ta) (hc : BOp b c tb) (hm : behindInMarks .In c = false := by rfl) : BQt b (.Compare a [.In] [c] pos) (bT (bOf (bBin (dIn false) ta tb))) := bq_bin (op_inB g.u70 false) op2_D ha hc hm
theorem bq_notIn (g : Gd b Nm tbl gl k) (ha : BLe b a ta) (hc : BOp b c tb) (hm : behindInMarks .NotIn c = false := by rfl) : BQt b (.Compare a [.NotIn] [c] pos) (bT (bOf (bBin (dIn true) ta tb))) := bq_bin (op_inB g.u70 true) op2_D ha hc hm
theorem o2_isB : Op2 b rIsB (dIsB false) := fun N F E σ H x y v u QB Q ok rx ry hf k => by
  cases x with
  | bl i =>
    cases y with
    | bl j => exact ⟨i, j, t_bl rx, t_bl ry, k F _ _ H (Same.refl F) (ok.push rep_bl) (by have z : QB (.fr (.bl (false ^^ decide (i = j)))) := hf; simpa using z)⟩
    | _ => exact False.elim hf
  | _ => exact False.elim hf
theorem o2_notB : Op2 b rNotB (dIsB true) := fun N F E σ H x y v u QB Q ok rx ry hf k => by
  cases x with
  | bl i =>
    cases y with
    | bl j => exact ⟨i, j, t_bl rx, t_bl ry, k F _ _ H (Same.refl F) (ok.push rep_bl) (by have z : QB (.fr (.bl (true ^^ decide (i = j)))) := hf; simpa using z)⟩
    | _ => exact False.elim hf
  | _ => exact False.elim hf
theorem bq_isB (ha : BLe b a ta) (hc : BOp b c tb) : BQt b (.Compare a [.Is] [c] pos) (bT (bOf (bBin (dIsB false) ta tb))) := bq_bin op_isBl o2_isB ha hc (nomark _)
theorem bq_notB (ha : BLe b a ta) (hc : BOp b c tb) : BQt b (.Compare a [.IsNot] [c] pos) (bT (bOf (bBin (dIsB true) ta tb))) := bq_bin op_notBl o2_notB ha hc (nomark _)
theorem bq_isN {j pos'} (h : BOp b a to) : BQt b (.Compare a [.Is] [.Constant .none j pos'] pos) (bT (bOf (bIsN false to))) := pt_weak (pt_cmp (pc_isN h) rfl) fun σ H Q hh => by
  obtain ⟨N, F, E, QB, XB, ok, ht, hQ, hX⟩ := test_low hh
  exact ⟨N, F, E, _, XB, ok, ht, fun F' E' d v H' s' ok' r q => by
    obtain ⟨k, e, z⟩ := hQ F' E' _ _ H' s' (ok'.push rep_bl) q
    exact ⟨k, by rw [nonV r]; exact e, z⟩, hX⟩
theorem bq_notN {j pos'} (h : BOp b a to) : BQt b (.Compare a [.IsNot] [.Constant .none j pos'] pos) (bT (bOf (bIsN true to))) := pt_weak (pt_cmp (pc_notN h) rfl) fun σ H Q hh => by
  obtain ⟨N, F, E, QB, XB, ok, ht, hQ, hX⟩ := test_low hh
  exact ⟨N, F, E, _, XB, ok, ht, fun F' E' d v H' s' ok' r q => by
    obtain ⟨k, e, z⟩ := hQ F' E' _ _ H' s' (ok'.push rep_bl) q
    exact ⟨k, by rw [nonV r]; exact e, z⟩, hX⟩
theorem bq_chain {op op' : CmpOp} {f f' : Int → Int → Bool} (ho : OpR b.X (compareOp op) (rI0 fun i j => .bl (f i j))) (ho' : OpR b.X (compareOp op') (rI0 fun i j => .bl (f' i j))) (ha : BV b a to) (hb : BV b c tc) (hc : BV b d td)
    (hm : lastMarks [op, op'] [c, d] = false := by with_unfolding_all rfl) : BQt b (.Compare a [op, op'] [c, d] pos) (bT (bOf (bChn f f' to tc td))) :=
  pt_weak (pt_chain ho ho' ha hb hc hm) fun σ H Q h => chn_low σ H _ (test_low h)
theorem bv_neg {n : Int} {j p1 p2} : BV b (.UnaryOp .USub (.Constant (.int n) j p1) p2) (bC (.int (-n))) :=
  bv_c (v := .int (-n)) (pe_weak (pe_un un_neg pe_int) fun σ H Q h => ⟨n, rfl, h⟩) fun _ _ => rep_int
end
/-! ### a comprehension's block -/
section
variable {b : Bx} {Nm : List Str} {tb : List (Nat × Str)} {gl : List Str} {k : Nat} {sc : Scope} {s : Shared} {H : Hp} {scope : Scope} {C : Addr} {cl : List (Str × Addr)} {fp : List Addr}
theorem blk_v (g : Gd b Nm tb gl k) {tb2 : List (Nat × Str)} {gl2 : List Str} (hsc : b.X.env.scope = sc) (hv : visOk Nm (relS scope sc) tb2 = true) (hg : glsOk (relS scope sc) gl2 = true) {e : Expr} {t : BO}
    (h : Gd (blkB b s H scope C cl fp) Nm tb2 gl2 k → BV (blkB b s H scope C cl fp) e t) : BV (blkB b s H scope C cl fp) e t := h (g.blk hsc hv hg)
theorem blk_t (g : Gd b Nm tb gl k) {tb2 : List (Nat × Str)} {gl2 : List Str} (hsc : b.X.env.scope = sc) (hv : visOk Nm (relS scope sc) tb2 = true) (hg : glsOk (relS scope sc) gl2 = true) {e : List Expr} {t : BQ}
    (h : Gd (blkB b s H scope C cl fp) Nm tb2 gl2 k → BTs (blkB b s H scope C cl fp) e t) : BTs (blkB b s H scope C cl fp) e t := h (g.blk hsc hv hg)
theorem blk_p (g : Gd b Nm tb gl k) {tb2 : List (Nat × Str)} {gl2 : List Str} (hsc : b.X.env.scope = sc) (hv : visOk Nm (relS scope sc) tb2 = true) (hg : glsOk (relS scope sc) gl2 = true) {e : Expr} {t : Tgt}
    (h : Gd (blkB b s H scope C cl fp) Nm tb2 gl2 k → PG (blkB b s H scope C cl fp).X e (t.low b.X.K)) : PG (blkB b s H scope C cl fp).X e (t.low b.X.K) := h (g.blk hsc hv hg)
end
/-! ### how arguments bind -/
section
variable {K : PySem.W.Frag} {x qual : Str} {params : Arguments} {body : List Stmt} {scope : Scope} {dvs : List V} {kws : List (Str × V)} {f : Addr} {fd : FuncData} {ps ks : List Str}
theorem dfl_none (F : FunD K x qual params body scope [] kws f fd)
    (h : ∀ (kV doc pm : Value) (an : Option Addr) (cdv ct : Value) (us : List Value), us.length = ps.length → bindArgs (PySem.W.fnOf x qual params body scope .none kV doc pm an cdv ct) ⟨us, []⟩ = pure (ps.zip us)) : Dfl K fd ps [] :=
  ⟨[], [], F.bindsN h, .nil, fun _ _ _ => repA_nil⟩
theorem dfl_some {n j : Nat} {dds : List D} (F : FunD K x qual params body scope dvs kws f fd) (hd : dvs ≠ []) (hn : n + (dvs.length - j) = ps.length)
    (h : ∀ (T : Addr) (kV doc pm : Value) (an : Option Addr) (cdv ct : Value) (us its : List Value), us.length = n → its.length = dvs.length →
      ∃ k, bindArgs (PySem.W.fnOf x qual params body scope (.ref T) kV doc pm an cdv ct) ⟨us, []⟩ = seqItems? (.ref T) >>= k ∧ k (some its.toArray) = pure (ps.zip (us ++ its.drop j)))
    (hr : ∀ L F, RepA L F dds (dvs.drop j)) : Dfl K fd ps dds := by
  obtain ⟨ds, r, bb⟩ := F.binds1 n j hd hn h
  exact ⟨ds, _, bb, r, fun L F _ => hr L F⟩
inductive All2 {α β : Type} (R : α → β → Prop) : List α → List β → Prop where
  | nil : All2 R [] []
  | cons {a : α} {b : β} {l : List α} {m : List β} : R a b → All2 R l m → All2 R (a :: l) (b :: m)
theorem all2_vals {vs : List V} {us : List Value} (h : All2 RelV vs us) : Vals vs us := by
  induction h with
  | nil => exact .nil
  | cons h _ ih => exact .cons h ih
theorem vals_all2 {vs : List V} {us : List Value} (h : Vals vs us) : All2 RelV vs us := by
  induction h with
  | nil => exact .nil
  | cons h _ ih => exact .cons h ih
theorem all2_rep {L : Lb} {F : Hp} {ds : List D} {vs : List V} (h : All2 (Rep L F) ds vs) : RepA L F ds vs := by
  induction h with
  | nil => exact repA_nil
  | cons h _ ih => exact repA_cons h ih
theorem rep_all2 {L : Lb} {F : Hp} : ∀ {ds : List D} {vs : List V}, RepA L F ds vs → All2 (Rep L F) ds vs
  | [], vs, h => by rw [RepA] at h; subst h; exact .nil
  | d :: ds, vs, h => by
    rw [RepA] at h
    obtain ⟨v, r, e, h1, h2⟩ := h
    subst e
    exact .cons h1 (rep_all2 h2)
theorem kdfl_of (F : FunD K x qual params body scope [] kws f fd) (g : {α : Type} → List α → List α → List α)
    (h : ∀ (kV doc pm : Value) (an : Option Addr) (cdv ct : Value) (us ws : List Value), (g us ws).length = ps.length → bindArgs (PySem.W.fnOf x qual params body scope .none kV doc pm an cdv ct) ⟨us, ks.zip ws⟩ = pure (ps.zip (g us ws)))
    (hr : ∀ {α β : Type} {R : α → β → Prop} {vs : List α} {us : List β} {zs : List α} {ws : List β}, All2 R vs us → All2 R zs ws → All2 R (g vs zs) (g us ws)) : KDfl K fd ps ks (@g D) := by
  obtain ⟨oc, od, dV, kV, doc, pm, an, cdv, ct, osl, rfl, lk, hcd, hD, hK⟩ := F.ex
  rcases hD with ⟨_, rfl⟩ | ⟨e, _⟩
  · exact ⟨@g Value, @g V, ⟨fun s us ws X hl => .of_eq (h kV doc pm an cdv ct us ws hl), fun r1 r2 => all2_vals (hr (vals_all2 r1) (vals_all2 r2))⟩, fun L F ds vs es zs _ r1 r2 => all2_rep (hr (rep_all2 r1) (rep_all2 r2))⟩
  · exact absurd rfl e
end
end B
/-! BHe: the head's Hook with tuples of the module, and the end of a law by a promise over data. -/
namespace B
open PySem PySem.Spec PyProof.Rows L2
def obsX (n : Nat) (fa : List He.Fa) (fn : List He.DefD) (tu : List (Str × List He.Dv)) (g : Addr → Option Obj) : Bool × He.AlD :=
  (tu.all fun p => He.tupB (He.frG g (He.asD g n)) p.1 p.2, He.obsD fa fn (He.frG g (He.asD g n)))
def hookX (n : Nat) (fa : List He.Fa) (fn : List He.DefD) (tu : List (Str × List He.Dv)) : PySem.W.Hook where
  α := Bool × He.AlD
  obs := fun s => obsX n fa fn tu s.heap.get?
  val := fun _ => (true, He.valD fn)
  says := fun _ h => ∃ K : PySem.W.Frag, K.In h ∧ TupsOk K tu ∧ He.SaysD fa fn K
  of := fun _ _ e => ⟨_, He.frG_in, congrArg (fun z : Bool × He.AlD => z.1) e, congrArg (fun z : Bool × He.AlD => z.2) e⟩
  keeps := fun _ _ _ ⟨K, hK, c⟩ k => ⟨K, PySem.W.Frag.In.keeps hK k, c⟩
theorem obsX_eq {n : Nat} {fa : List He.Fa} {fn : List He.DefD} {tu : List (Str × List He.Dv)} {g : Addr → Option Obj} {s : Shared} (h : ∀ a, g a = s.heap.get? a) : obsX n fa fn tu g = (hookX n fa fn tu).obs s := by
  have e : g = s.heap.get? := funext h
  rw [e] <;> rfl
theorem funD_uniq {K : PySem.W.Frag} {x qual : Str} {params : Arguments} {body : List Stmt} {scope : Scope} {dvs : List V} {kws : List (Str × V)} {f : Addr} {fd fd' : FuncData} (F : FunD K x qual params body scope dvs kws f fd) (F' : FunD K x qual params body scope dvs kws f fd') : fd = fd' := by
  obtain ⟨oc, od, dV, kV, doc, pm, an, cdv, ct, osl, rfl, lk, _⟩ := F.ex
  obtain ⟨oc', od', dV', kV', doc', pm', an', cdv', ct', osl', rfl, lk', _⟩ := F'.ex
  rw [lk] at lk'
  injection lk' with e
  injection e with _ _ e _
  injection e
/-- what walk_ofD asks, from a promise by the head's data -/
theorem end_of {P : Program} {w : World} {mg : Str → Option Value} {h : Heap} {k : Nat} {fa : List He.Fa} {fn : List He.DefD} {tu : List (Str × List He.Dv)} {d : He.DefD} {x n : Str} {fb : FnB} {K : PySem.W.Frag} {i : Nat} {f : Addr}
    (KX : K.In h) (G : h.Ns mainGlobals mg) (c : He.SaysD fa fn K) (e1 : mg n = some (.ref f)) (e2 : (He.Fa.glo n).ok K = true) (e3 : d.at_ = (n, none)) (e4 : fn[i]? = some d) (e5 : d.dfl = [])
    (hb : ∀ (kV doc pm : Value) (an : Option Addr) (cdv ct : Value) (us : List Value), us.length = 1 → bindArgs (PySem.W.fnOf d.name d.qual d.params d.body d.scope .none kV doc pm an cdv ct) ⟨us, []⟩ = pure ([x].zip us))
    (HL : ∀ base : Heap, K.In base → base.Ns mainGlobals mg → HasFn P w K mg base d k [x] fb) :
    ∃ fd : FuncData, (∀ (s : Shared) (u : Value), BindsTo s fd ⟨[u], []⟩ [(x, u)]) ∧ ∀ base : Heap, K.In base → base.Ns mainGlobals mg → BFn P w K mg base (He.ga K) k f fd [x] fb := by
  obtain ⟨fd, F⟩ := c.def_ i e4
  have ef : f = He.fAd K d.at_ := by
    have z := e1.symm.trans (He.glo_ok KX G e2)
    rw [e3]
    injection z with z
    injection z
  have F0 : FunD K d.name d.qual d.params d.body d.scope [] (d.kws K) (He.fAd K d.at_) fd := by
    have := F
    unfold He.DefD.dvs at this
    rw [e5] at this
    exact this
  refine ⟨fd, fun s u => ?_, fun base X B => ?_⟩
  · have b := FunD.bindsA (ps := [x]) F0 hb
    exact b s [u] rfl
  · obtain ⟨fd', F', G'⟩ := HL base X B
    rw [ef, funD_uniq F F']
    exact G'
end B
/-! BPl: plain reasoning over readings: loops, comprehensions, what operators give of plain data. -/
namespace B
open PySem PySem.Spec PyProof.Rows L2

section
variable {d : D} {ds : List D} {kvs : KV2} {c : Str} {fs : List (Str × D)} {z : Str} {ns : List Int} {a : Nat}
theorem res_fr : (Sl.fr d).res = true := rfl
theorem res_ow {o : Ob} : (Sl.ow o).res = true := rfl
theorem sd_fr : (Sl.fr d).d? = some d := rfl
theorem sd_un : Sl.un.d? = none := rfl
theorem sd_owl : (Sl.ow (.lst ds)).d? = some (.lst ds) := rfl
theorem sd_owd : (Sl.ow (.dic kvs)).d? = some (.dic kvs) := rfl
theorem sd_owi : (Sl.ow (.ins c fs)).d? = some (.obj c fs) := rfl
theorem sd_rdl : (Sl.rd (.lst ds)).d? = some (.lst ds) := rfl
theorem sd_rdd : (Sl.rd (.dic kvs)).d? = some (.dic kvs) := rfl
theorem sd_rdi : (Sl.rd (.ins c fs)).d? = some (.obj c fs) := rfl
theorem od_l : (Ob.lst ds).d = .lst ds := rfl
theorem od_d : (Ob.dic kvs).d = .dic kvs := rfl
theorem od_i : (Ob.ins c fs).d = .obj c fs := rfl
theorem oc_l : (Ob.lst ds).cold = true := rfl
theorem oc_d : (Ob.dic kvs).cold = true := rfl
theorem oc_i : (Ob.ins c fs).cold = true := rfl
theorem it_l : (D.lst ds).items = some ds := rfl
theorem it_t : (D.tup ds).items = some ds := rfl
theorem it_d : (D.dic kvs).items = some (kvs.map (·.1)) := rfl
theorem it_s : (D.scr ns).items = some (ns.map .int) := rfl
theorem inst_o {M : Mst} : inst M (.obj c fs) = some (c, fs) := rfl
end
/-! ### loops and comprehensions by invariants -/
theorem seq_cut {t u : BS} {Dn : EndsB} {X : QX} {E : En} (I : En → Prop) (h1 : ∀ K : En → Prop, (∀ E', I E' → K E') → t { Dn with nx := K } X E) (h2 : ∀ E', I E' → u Dn X E') : bSeq t u Dn X E := h1 _ h2
theorem seq_go {t u : BS} {Dn : EndsB} {X : QX} {E : En} (h : t { Dn with nx := u Dn X } X E) : bSeq t u Dn X E := h
theorem for_inv {t : Tgt} {body : BS} {Dn : EndsB} {X : QX} (ds : List D) (I : List D → En → Prop) {E : En} (h0 : I [] E)
    (step : ∀ pre d post E (K : En → Prop), ds = pre ++ d :: post → I pre E → (∀ E', I (pre ++ [d]) E' → K E') → t.set d E fun E1 => body { Dn with nx := K, ct := K, bk := Dn.nx } X E1)
    (hd : ∀ E, I ds E → Dn.nx E) : forRun t body Dn X ds E := by
  have go : ∀ post pre E, ds = pre ++ post → I pre E → forRun t body Dn X post E := by
    intro post
    induction post with
    | nil =>
      intro pre E e h
      rw [List.append_nil] at e
      subst e
      exact hd E h
    | cons d post ih =>
      intro pre E e h
      exact step pre d post E _ e h fun E' h' => ih (pre ++ [d]) E' (by rw [e, List.append_assoc]; rfl) h'
  exact go ds [] E rfl h0
/-- one turn of a comprehension -/
def lcTurn (t : Tgt) (tst : BQ) (elt : BO) (ws : List Nat) (d : D) (E : En) (G : Option D → En → Prop) : Prop :=
  t.set d E fun E1 => tst E1 (fun k E2 => if k = true then elt E2 (fun y E3 => G (some y) (E3.wipe ws)) X0 else G none (E2.wipe ws)) X0
theorem lcRun_cons {t : Tgt} {tst : BQ} {elt : BO} {ws : List Nat} {d : D} {ds acc : List D} {E : En} {Q : List D → En → Prop} :
    lcRun t tst elt ws (d :: ds) acc E Q = lcTurn t tst elt ws d E (fun o E' => match o with | some y => acc.length < sizeLine ∧ lcRun t tst elt ws ds (acc ++ [y]) E' Q | none => lcRun t tst elt ws ds acc E' Q) := rfl
/-- a comprehension that changes nothing: what each item gives -/
theorem lc_pure {t : Tgt} {tst : BQ} {elt : BO} {ws : List Nat} (φ : D → Option D) : ∀ {ds acc : List D} {E : En} {Q : List D → En → Prop}, acc.length + ds.length ≤ sizeLine →
    (∀ d ∈ ds, ∀ G : Option D → En → Prop, G (φ d) E → lcTurn t tst elt ws d E G) → Q (acc ++ ds.filterMap φ) E → lcRun t tst elt ws ds acc E Q
  | [], acc, E, Q, _, _, hQ => by simpa [lcRun] using hQ
  | d :: ds, acc, E, Q, hl, hs, hQ => by
    rw [lcRun_cons]
    refine hs d List.mem_cons_self _ ?_
    have hs' : ∀ e ∈ ds, ∀ G : Option D → En → Prop, G (φ e) E → lcTurn t tst elt ws e E G := fun e he => hs e (List.mem_cons_of_mem _ he)
    rw [List.length_cons] at hl
    cases hq : φ d with
    | none =>
      rw [List.filterMap_cons_none hq] at hQ
      exact lc_pure φ (by omega) hs' hQ
    | some y =>
      rw [List.filterMap_cons_some hq] at hQ
      refine ⟨by omega, lc_pure φ (by rw [List.length_append]; simp; omega) hs' ?_⟩
      rw [List.append_assoc]
      exact hQ
/-- .. by an invariant -/
theorem lc_inv {t : Tgt} {tst : BQ} {elt : BO} {ws : List Nat} (ds : List D) (I : List D → List D → En → Prop) {E : En} {Q : List D → En → Prop} (h0 : I [] [] E) (hl : ds.length ≤ sizeLine)
    (step : ∀ pre d post acc E (G : Option D → En → Prop), ds = pre ++ d :: post → I pre acc E → (∀ y E', (match y with | some y => I (pre ++ [d]) (acc ++ [y]) E' | none => I (pre ++ [d]) acc E') → G y E') → lcTurn t tst elt ws d E G)
    (hd : ∀ acc E, I ds acc E → Q acc E) : lcRun t tst elt ws ds [] E Q := by
  have go : ∀ post pre acc E, ds = pre ++ post → acc.length ≤ pre.length → I pre acc E → lcRun t tst elt ws post acc E Q := by
    intro post
    induction post with
    | nil =>
      intro pre acc E e _ h
      rw [List.append_nil] at e
      subst e
      exact hd acc E h
    | cons d post ih =>
      intro pre acc E e ha h
      rw [lcRun_cons]
      have el : pre.length + (post.length + 1) ≤ sizeLine := by
        have := hl
        rw [e, List.length_append, List.length_cons] at this
        exact this
      refine step pre d post acc E _ e h fun y E' hy => ?_
      cases y with
      | none => exact ih (pre ++ [d]) acc E' (by rw [e, List.append_assoc]; rfl) (by rw [List.length_append]; simp; omega) hy
      | some y => exact ⟨by omega, ih (pre ++ [d]) (acc ++ [y]) E' (by rw [e, List.append_assoc]; rfl) (by simp; omega) hy⟩
  exact go ds [] [] E rfl (Nat.le_refl _) h0
/-- one turn of a dict comprehension -/
def dcTurn (t : Tgt) (tst : BQ) (ky vl : BO) (ws : List Nat) (d : D) (E : En) (G : Option (D × D) → En → Prop) : Prop :=
  t.set d E fun E1 => tst E1 (fun k E2 => if k = true then ky E2 (fun y E3 => vl E3 (fun z E4 => G (some (y, z)) (E4.wipe ws)) X0) X0 else G none (E2.wipe ws)) X0
/-! ### what operators give of plain data -/
section
variable {Q : Sl → Prop} {ne : Bool}
theorem eqs_int (i : Int) : (D.int i).eqs = true := by
  simp [D.eqs, D.pure, SeqAt.shaped, D.py, PyData.canLay0, PyData.depth]
theorem eqs_str {x : Str} (h : PyData.strOk x = true) : (D.str x).eqs = true := by
  simp [D.eqs, D.pure, SeqAt.shaped, D.py, PyData.canLay0, PyData.depth, h]
theorem dEqA_int (i j : Int) : dEqA ne (.int i) (.int j) Q ↔ Q (.fr (.bl (ne ^^ decide (i = j)))) := by
  have e : PyData.eqv (D.int i).py (D.int j).py = decide (i = j) := by
    simp only [D.py, PyData.eqv]
    rfl
  show (_ ∧ _ ∧ _) ↔ _
  rw [e]
  cases ne <;> simp [eqs_int]
theorem dEqA_str {x y : Str} (hx : PyData.strOk x = true) (hy : PyData.strOk y = true) : dEqA ne (.str x) (.str y) Q ↔ Q (.fr (.bl (ne ^^ decide (x = y)))) := by
  have e : PyData.eqv (D.str x).py (D.str y).py = decide (x = y) := by
    simp only [D.py, PyData.eqv]
    rfl
  show (_ ∧ _ ∧ _) ↔ _
  rw [e]
  cases ne <;> simp [eqs_str hx, eqs_str hy]
end
/-! ### the draws' state -/
def stD (g : Nat) (cs : List Int) (r t : Int) : KV2 := [(.str "great", .ptr g), (.str "cells", .lst (cs.map .int)), (.str "rest", .int r), (.str "turn", .int t)]
def stM (a g : Nat) (cs gs : List Int) (r t : Int) : Mst := [(a, .dic (stD g cs r t)), (g, .lst (gs.map .int))]
section
variable {a g : Nat} {cs gs gs' : List Int} {r t r' t' : Int}
theorem stD_fit (z : Str) : keyFit (.str z) (stD g cs r t) = true := rfl
theorem stD_great : dFind (stD g cs r t) (.str "great") = some (.ptr g) := by
  simp only [dFind, stD, List.find?, keyE, D.key]; rfl
theorem stD_cells : dFind (stD g cs r t) (.str "cells") = some (.lst (cs.map .int)) := by
  simp only [dFind, stD, List.find?, keyE, D.key]; rfl
theorem stD_rest : dFind (stD g cs r t) (.str "rest") = some (.int r) := by
  simp only [dFind, stD, List.find?, keyE, D.key]; rfl
theorem stD_turn : dFind (stD g cs r t) (.str "turn") = some (.int t) := by
  simp only [dFind, stD, List.find?, keyE, D.key]; rfl
theorem stD_putR : dPut (stD g cs r t) (.str "rest") (.int r') = stD g cs r' t := by
  simp only [dPut, stD, keyE, D.key]; rfl
theorem stD_putT : dPut (stD g cs r t) (.str "turn") (.int t') = stD g cs r t' := by
  simp only [dPut, stD, keyE, D.key]; rfl
theorem stD_len : (stD g cs r t).length = 4 := rfl
theorem stD_lt : (stD g cs r t).length < sizeLine := by rw [stD_len, sizeLine_eq]; decide
theorem stM_a : (stM a g cs gs r t).lookup a = some (.dic (stD g cs r t)) := by simp [stM]
theorem stM_g (h : a ≠ g) : (stM a g cs gs r t).lookup g = some (.lst (gs.map .int)) := by
  have : (g == a) = false := by simpa using fun e => h (Eq.symm e)
  simp [stM, List.lookup_cons, this]
theorem stM_putA (h : a ≠ g) : putM a (.dic (stD g cs r' t')) (stM a g cs gs r t) = stM a g cs gs r' t' := by
  simp [stM, putM, h, fun e : g = a => h e.symm]
theorem stM_putG (h : a ≠ g) : putM g (.lst (gs'.map .int)) (stM a g cs gs r t) = stM a g cs gs' r t := by
  simp [stM, putM, h, fun e : g = a => h e.symm]
end
/-- the draws go on: at most n turns so far -/
def St (a g : Nat) (cs : List Int) (n : Int) (M : Mst) : Prop := a ≠ g ∧ ∃ (gs : List Int) (r t : Int), M = stM a g cs gs r t ∧ 0 ≤ r ∧ 0 ≤ t ∧ t ≤ n ∧ ∀ x ∈ gs, 0 ≤ x
theorem St.mono {a g : Nat} {cs : List Int} {n m : Int} {M : Mst} (h : St a g cs n M) (l : n ≤ m) : St a g cs m M := by
  obtain ⟨h0, gs, r, t, e, h1, h2, h3, h4⟩ := h
  exact ⟨h0, gs, r, t, e, h1, h2, by omega, h4⟩
/-! ### plain data -/
/-- data of depth at most n: texts, None, tuples, lists; truths (f) or numbers (not f) -/
def okd (f : Bool) : Nat → D → Bool
  | _, .non => true
  | _, .bl _ => f
  | _, .int _ => !f
  | _, .str s => PyData.strOk s
  | n + 1, .tup xs => xs.all (okd f n)
  | n + 1, .lst xs => xs.all (okd f n)
  | _, _ => false
theorem pyA_map : ∀ ds : List D, D.pyA ds = ds.map D.py
  | [] => rfl
  | d :: ds => by rw [D.pyA, pyA_map ds]; rfl
theorem pureA_all : ∀ ds : List D, D.pureA ds = ds.all D.pure
  | [] => rfl
  | d :: ds => by rw [D.pureA, pureA_all ds]; rfl
theorem layA_all : ∀ ds : List PyData, PyData.canLayAll0 ds = ds.all PyData.canLay0
  | [] => rfl
  | d :: ds => by rw [PyData.canLayAll0, layA_all ds]; rfl
theorem depthA_le {n : Nat} : ∀ {ds : List PyData}, (∀ d ∈ ds, d.depth ≤ n) → PyData.depthAll ds ≤ n
  | [], _ => by rw [PyData.depthAll]; exact Nat.zero_le _
  | d :: ds, h => by
    rw [PyData.depthAll]
    have h1 := h d List.mem_cons_self
    have h2 := depthA_le (ds := ds) fun e he => h e (List.mem_cons_of_mem _ he)
    omega
theorem okd_parts {f : Bool} : ∀ (n : Nat) (d : D), okd f n d = true → d.pure = true ∧ d.py.canLay0 = true ∧ d.py.depth ≤ n + 1
  | n, .non, _ => by simp [D.pure, D.py, PyData.canLay0, PyData.depth]
  | n, .bl _, _ => by simp [D.pure, D.py, PyData.canLay0, PyData.depth]
  | n, .int _, _ => by simp [D.pure, D.py, PyData.canLay0, PyData.depth]
  | n, .str s, h => by
    have h : PyData.strOk s = true := by cases n <;> simpa [okd] using h
    simp [D.pure, D.py, PyData.canLay0, PyData.depth, h]
  | n + 1, .tup xs, h => by
    have h : xs.all (okd f n) = true := h
    rw [List.all_eq_true] at h
    have ih := fun d hd => okd_parts n d (h d hd)
    refine ⟨?_, ?_, ?_⟩
    · rw [D.pure, pureA_all, List.all_eq_true]; exact fun d hd => (ih d hd).1
    · rw [D.py, PyData.canLay0, layA_all, pyA_map, List.all_map, List.all_eq_true]; exact fun d hd => (ih d hd).2.1
    · rw [D.py, PyData.depth, pyA_map]
      have := depthA_le (n := n + 1) (ds := xs.map D.py) fun e he => by
        obtain ⟨d, hd, rfl⟩ := List.mem_map.mp he
        exact (ih d hd).2.2
      omega
  | n + 1, .lst xs, h => by
    have h : xs.all (okd f n) = true := h
    rw [List.all_eq_true] at h
    have ih := fun d hd => okd_parts n d (h d hd)
    refine ⟨?_, ?_, ?_⟩
    · rw [D.pure, pureA_all, List.all_eq_true]; exact fun d hd => (ih d hd).1
    · rw [D.py, PyData.canLay0, layA_all, pyA_map, List.all_map, List.all_eq_true]; exact fun d hd => (ih d hd).2.1
    · rw [D.py, PyData.depth, pyA_map]
      have := depthA_le (n := n + 1) (ds := xs.map D.py) fun e he => by
        obtain ⟨d, hd, rfl⟩ := List.mem_map.mp he
        exact (ih d hd).2.2
      omega
  | 0, .tup _, h => by cases h
  | 0, .lst _, h => by cases h
  | 0, .dic _, h => by cases h
  | n + 1, .dic _, h => by cases h
  | 0, .ty _, h => by cases h
  | n + 1, .ty _, h => by cases h
  | 0, .obj _ _, h => by cases h
  | n + 1, .obj _ _, h => by cases h
  | 0, .ptr _, h => by cases h
  | n + 1, .ptr _, h => by cases h
  | 0, .exc _ _, h => by cases h
  | n + 1, .exc _ _, h => by cases h
  | 0, .scr _, h => by cases h
  | n + 1, .scr _, h => by cases h
theorem okd_eqs {f : Bool} {n : Nat} {d : D} (h : okd f n d = true) (hn : n ≤ 60) : d.eqs = true := by
  obtain ⟨h1, h2, h3⟩ := okd_parts n d h
  simp [D.eqs, SeqAt.shaped, h1, h2]
  omega
theorem okd_can {f : Bool} {n : Nat} {ds : List D} (h : ds.all (okd f n) = true) : canA ds = true := by
  rw [List.all_eq_true] at h
  simp only [canA, Bool.and_eq_true]
  refine ⟨?_, ?_⟩
  · rw [pureA_all, List.all_eq_true]; exact fun d hd => (okd_parts n d (h d hd)).1
  · rw [layA_all, pyA_map, List.all_map, List.all_eq_true]; exact fun d hd => (okd_parts n d (h d hd)).2.1
theorem eqvA_iff : ∀ {xs ys : List D}, (∀ x ∈ xs, ∀ y ∈ ys, PyData.eqv x.py y.py = true ↔ x = y) → (PyData.eqvAll (D.pyA xs) (D.pyA ys) = true ↔ xs = ys)
  | [], [], _ => by simp [D.pyA, PyData.eqvAll]
  | [], y :: ys, _ => by simp [D.pyA, PyData.eqvAll]
  | x :: xs, [], _ => by simp [D.pyA, PyData.eqvAll]
  | x :: xs, y :: ys, h => by
    rw [D.pyA, D.pyA, PyData.eqvAll, Bool.and_eq_true, h x List.mem_cons_self y List.mem_cons_self, eqvA_iff fun a ha b hb => h a (List.mem_cons_of_mem _ ha) b (List.mem_cons_of_mem _ hb), List.cons.injEq]
theorem eqv_iff {f : Bool} : ∀ (n : Nat) (d e : D), okd f n d = true → okd f n e = true → (PyData.eqv d.py e.py = true ↔ d = e) := by
  intro n
  induction n with
  | zero =>
    intro d e hd he
    cases d <;> cases e <;> first | (cases f <;> first | (cases hd; done) | (cases he; done) | simp [D.py, PyData.eqv]) | (cases hd; done) | (cases he; done)
  | succ n ih =>
    intro d e hd he
    cases d <;> cases e <;> first
      | (cases hd; done)
      | (cases he; done)
      | (rename_i xs ys; have hx : xs.all (okd f n) = true := hd; have hy : ys.all (okd f n) = true := he
         rw [List.all_eq_true] at hx hy
         rw [D.py, D.py, PyData.eqv, eqvA_iff fun a ha b hb => ih a b (hx a ha) (hy b hb)]
         simp; done)
      | (cases f <;> first | (cases hd; done) | (cases he; done) | (simp [D.py, PyData.eqv]; done))
theorem dEqA_okd {f ne : Bool} {n : Nat} {x y : D} {Q : Sl → Prop} (hx : okd f n x = true) (hy : okd f n y = true) (hn : n ≤ 60) : dEqA ne x y Q ↔ Q (.fr (.bl (ne ^^ PyData.eqv x.py y.py))) := by
  have e1 := okd_eqs hx hn
  have e2 := okd_eqs hy hn
  have : dEqA ne x y Q ↔ dEq ne x y Q := by
    cases x <;> first | exact Iff.rfl | (cases n <;> cases hx)
  rw [this]
  show (_ ∧ _ ∧ _) ↔ _
  cases ne <;> simp [e1, e2]
theorem dEqA_same {f ne : Bool} {n : Nat} {x y : D} {Q : Sl → Prop} (hx : okd f n x = true) (hy : okd f n y = true) (hn : n ≤ 60) (e : x = y) : dEqA ne x y Q ↔ Q (.fr (.bl (!ne))) := by
  rw [dEqA_okd hx hy hn, (eqv_iff n x y hx hy).mpr e]
  cases ne <;> rfl
theorem dEqA_diff {f ne : Bool} {n : Nat} {x y : D} {Q : Sl → Prop} (hx : okd f n x = true) (hy : okd f n y = true) (hn : n ≤ 60) (e : x ≠ y) : dEqA ne x y Q ↔ Q (.fr (.bl ne)) := by
  have : PyData.eqv x.py y.py = false := by
    cases q : PyData.eqv x.py y.py with
    | false => rfl
    | true => exact absurd ((eqv_iff n x y hx hy).mp q) e
  rw [dEqA_okd hx hy hn, this]
  cases ne <;> rfl
end B
/-! BNm: names, paths, tables by paths: what the library's operators give of them. -/
namespace B
open PySem PySem.Spec PyProof.Rows L2
/-! ### codes of texts -/
abbrev cod (x : Str) : List Nat := x.cps.toList
theorem cod_inj {x y : Str} (h : cod x = cod y) : x = y := by
  obtain ⟨a⟩ := x
  obtain ⟨b⟩ := y
  have : a = b := Array.toList_inj.mp h
  rw [this]
theorem len_cod (x : Str) : x.length = (cod x).length := by simp [Str.length]
theorem cod_app (x y : Str) : cod (x ++ y) = cod x ++ cod y := by
  show (x.cps ++ y.cps).toList = _
  simp
theorem cod_cut {z : Str} {k : Nat} : cod (cutS z none (some (k : Int))) = (cod z).take k := by
  unfold cutS
  simp only [HT.sIx_none, HT.sIx_nat, List.drop_zero, Nat.sub_zero]
  rw [len_cod]
  show List.take (min k (cod z).length) (cod z) = _
  rw [← List.take_eq_take_min]
theorem cod_join (parts : List Str) : cod (Txt.join "" parts) = (parts.map cod).flatten := by
  rw [TL.join_eq]
  have h : ∀ ps : List Str, cod (Str.join "" ps) = (ps.map cod).flatten := by
    intro ps
    have e := TL.tl_join "" ps
    have e2 : ∀ qs : List (List Nat), TL.joinL (TL.tl "") qs = qs.flatten := by
      intro qs
      induction qs with
      | nil => rfl
      | cons q qs ih =>
        cases qs with
        | nil => simp [TL.joinL]
        | cons r qs =>
          show q ++ (TL.tl "" ++ TL.joinL _ (r :: qs)) = _
          rw [ih]
          rfl
    rw [e2] at e
    exact e
  exact h parts
/-! ### names -/
def okc (l : List Nat) : Bool := decide (1 ≤ l.length) && decide (l.length ≤ 8) && l.all fun c => decide (97 ≤ c) && decide (c ≤ 122)
def okN (x : Str) : Bool := okc (cod x)
def badN (x : Str) : Bool := decide ((cod x).take 3 = [111, 119, 110]) || decide ((cod x).take 3 = [101, 120, 116])
theorem okc_iff {l : List Nat} : okc l = true ↔ 1 ≤ l.length ∧ l.length ≤ 8 ∧ ∀ c ∈ l, 97 ≤ c ∧ c ≤ 122 := by
  simp [okc, and_assoc]
theorem okN_strOk {x : Str} (h : okN x = true) : PyData.strOk x = true := by
  obtain ⟨_, _, h3⟩ := okc_iff.mp h
  unfold PyData.strOk
  rw [Array.all_eq_true']
  intro c hc
  have := h3 c (by simpa using hc)
  simp
  omega
theorem okN_len {x : Str} (h : okN x = true) : 1 ≤ x.length ∧ x.length ≤ 8 := by
  obtain ⟨h1, h2, _⟩ := okc_iff.mp h
  rw [len_cod]; exact ⟨h1, h2⟩
def ltr (i : Nat) : Str := ⟨#[97 + i]⟩
def lts : List Str := (List.range 26).map ltr
theorem lts_items : (D.str "abcdefghijklmnopqrstuvwxyz").items = some (lts.map .str) := by
  have e : cod (Str.ofString "abcdefghijklmnopqrstuvwxyz") = (List.range 26).map (97 + ·) := by decide +kernel
  show some ((cod _).map fun c => D.str ⟨#[c]⟩) = _
  rw [e]
  simp only [lts, List.map_map]
  rfl
theorem mem_lts {x : Str} (h : x ∈ lts) : ∃ i, i < 26 ∧ x = ltr i := by
  obtain ⟨i, hi, rfl⟩ := List.mem_map.mp h
  exact ⟨i, List.mem_range.mp hi, rfl⟩
theorem okN_ltr {i : Nat} (h : i < 26) : okN (ltr i) = true ∧ badN (ltr i) = false := by
  constructor
  · refine okc_iff.mpr ⟨by simp [cod, ltr], by simp [cod, ltr], fun c hc => ?_⟩
    have : c = 97 + i := by simpa [cod, ltr] using hc
    omega
  · simp [badN, cod, ltr]
theorem lts_nd : lts.Nodup := by
  have : (lts.map cod).Nodup := by decide +kernel
  exact List.Pairwise.of_map cod (fun a b h e => h (congrArg cod e)) this
theorem lts_len : lts.length = 26 := by simp [lts]
theorem okN_cut {x y : Str} (hx : okN x = true) (hy : okN y = true) : okN (cutS (x ++ y) none (some 8)) = true := by
  obtain ⟨a1, a2, a3⟩ := okc_iff.mp hx
  obtain ⟨b1, b2, b3⟩ := okc_iff.mp hy
  have e : cod (cutS (x ++ y) none (some 8)) = (cod x ++ cod y).take 8 := by
    rw [← cod_app]; exact cod_cut (k := 8)
  refine okc_iff.mpr ?_
  rw [e]
  refine ⟨by rw [List.length_take, List.length_append]; omega, by rw [List.length_take]; omega, fun c hc => ?_⟩
  rcases List.mem_append.mp (List.mem_of_mem_take hc) with h | h
  · exact a3 c h
  · exact b3 c h
theorem okN_join {xs : List Str} (h1 : 1 ≤ xs.length) (h8 : xs.length ≤ 8) (h : ∀ x ∈ xs, x ∈ lts) : okN (Txt.join "" xs) = true := by
  have e : ∀ ys : List Str, (∀ x ∈ ys, x ∈ lts) → ((ys.map cod).flatten).length = ys.length ∧ ∀ c ∈ (ys.map cod).flatten, 97 ≤ c ∧ c ≤ 122 := by
    intro ys
    induction ys with
    | nil => intro _; simp
    | cons y ys ih =>
      intro hy
      obtain ⟨i, hi, rfl⟩ := mem_lts (hy y List.mem_cons_self)
      obtain ⟨l1, l2⟩ := ih fun x hx => hy x (List.mem_cons_of_mem _ hx)
      have c1 : cod (ltr i) = [97 + i] := rfl
      refine ⟨by rw [List.map_cons, List.flatten_cons, List.length_append, l1, c1]; simp; omega, fun c hc => ?_⟩
      rw [List.map_cons, List.flatten_cons] at hc
      rcases List.mem_append.mp hc with q | q
      · rw [c1] at q
        have : c = 97 + i := by simpa using q
        omega
      · exact l2 c q
  obtain ⟨l1, l2⟩ := e xs h
  refine okc_iff.mpr ?_
  rw [cod_join]
  exact ⟨by omega, by omega, l2⟩
/-! ### in -/
def memB (ds : List D) (x : D) : Bool := (D.pyA ds).any fun y => PyData.eqv y x.py
theorem memB_iff {f : Bool} {n : Nat} {ds : List D} {x : D} (hd : ds.all (okd f n) = true) (hx : okd f n x = true) : memB ds x = true ↔ x ∈ ds := by
  rw [List.all_eq_true] at hd
  unfold memB
  rw [pyA_map, List.any_map, List.any_eq_true]
  constructor
  · rintro ⟨y, hy, e⟩
    have := (eqv_iff n y x (hd y hy) hx).mp e
    rw [← this]; exact hy
  · intro h
    exact ⟨x, h, (eqv_iff n x x hx hx).mpr rfl⟩
theorem dIn_lst {ne f : Bool} {n : Nat} {ds : List D} {x : D} {Q : Sl → Prop} (hd : ds.all (okd f n) = true) (hx : okd f n x = true) (hn : n ≤ 60) : dIn ne x (.lst ds) Q ↔ Q (.fr (.bl (ne ^^ memB ds x))) := by
  show (_ ∧ _ ∧ _) ↔ _
  simp only [okd_can hd, okd_eqs hx hn, true_and]
  rfl
theorem dIn_tup {ne f : Bool} {n : Nat} {ds : List D} {x : D} {Q : Sl → Prop} (hd : ds.all (okd f n) = true) (hx : okd f n x = true) (hn : n ≤ 60) : dIn ne x (.tup ds) Q ↔ Q (.fr (.bl (ne ^^ memB ds x))) := by
  show (_ ∧ _ ∧ _) ↔ _
  simp only [okd_can hd, okd_eqs hx hn, true_and]
  rfl
theorem okd_str {f : Bool} {n : Nat} {x : Str} (h : PyData.strOk x = true) : okd f n (.str x) = true := by cases n <;> exact h
theorem okd_strs {f : Bool} {n : Nat} {xs : List Str} (h : ∀ x ∈ xs, PyData.strOk x = true) : (xs.map D.str).all (okd f n) = true := by
  rw [List.all_map, List.all_eq_true]
  exact fun x hx => okd_str (h x hx)
theorem memB_str {xs : List Str} {x : Str} (h : ∀ y ∈ xs, PyData.strOk y = true) (hx : PyData.strOk x = true) : memB (xs.map .str) (.str x) = decide (x ∈ xs) := by
  have e := memB_iff (f := false) (n := 0) (okd_strs h) (okd_str hx)
  cases q : memB (xs.map .str) (.str x) with
  | true =>
    obtain ⟨y, hy, e2⟩ := List.mem_map.mp (e.mp q)
    cases e2
    exact (decide_eq_true hy).symm
  | false =>
    refine (decide_eq_false fun hm => ?_).symm
    rw [e.mpr (List.mem_map_of_mem hm)] at q
    cases q
/-! ### paths -/
abbrev Pth := List Str
def enP (p : Pth) : D := .tup (p.map .str)
def okP (k : Nat) (p : Pth) : Bool := decide (1 ≤ p.length) && decide (p.length ≤ k) && p.all okN
theorem okP_iff {k : Nat} {p : Pth} : okP k p = true ↔ 1 ≤ p.length ∧ p.length ≤ k ∧ ∀ x ∈ p, okN x = true := by
  simp [okP, and_assoc]
theorem enP_inj {p q : Pth} (h : enP p = enP q) : p = q := by
  have h1 : p.map D.str = q.map D.str := by injection h
  have go : ∀ a b : Pth, a.map D.str = b.map D.str → a = b := by
    intro a
    induction a with
    | nil => intro b e; cases b with
      | nil => rfl
      | cons x b => cases e
    | cons x a ih => intro b e; cases b with
      | nil => cases e
      | cons y b =>
        injection e with e1 e2
        injection e1 with e1
        rw [e1, ih b e2]
  exact go p q h1
theorem okd_enP {f : Bool} {n : Nat} {p : Pth} (h : ∀ x ∈ p, okN x = true) : okd f (n + 1) (enP p) = true := okd_strs fun x hx => okN_strOk (h x hx)
theorem memB_enP {ps : List Pth} {p : Pth} (h : ∀ q ∈ ps, ∀ x ∈ q, okN x = true) (hp : ∀ x ∈ p, okN x = true) : memB (ps.map enP) (enP p) = decide (p ∈ ps) := by
  have hd : (ps.map enP).all (okd false 1) = true := by
    rw [List.all_map, List.all_eq_true]
    exact fun q hq => okd_enP (h q hq)
  have e := memB_iff (f := false) (n := 1) hd (okd_enP hp)
  cases q : memB (ps.map enP) (enP p) with
  | true =>
    obtain ⟨y, hy, e2⟩ := List.mem_map.mp (e.mp q)
    rw [enP_inj e2] at hy
    exact (decide_eq_true hy).symm
  | false =>
    refine (decide_eq_false fun hm => ?_).symm
    rw [e.mpr (List.mem_map_of_mem hm)] at q
    cases q
theorem keyA_strs : ∀ xs : List Str, D.keyA (xs.map .str) = some (xs.map .text)
  | [] => by rw [List.map_nil, D.keyA]; rfl
  | x :: xs => by rw [List.map_cons, D.keyA, keyA_strs xs, D.key]; rfl
theorem key_enP (p : Pth) : (enP p).key = some (.tup (p.map .text)) := by
  rw [enP, D.key, keyA_strs]; rfl
theorem text_inj {p q : Pth} (h : p.map NestedKey.text = q.map NestedKey.text) : p = q := by
  induction p generalizing q with
  | nil => cases q with
    | nil => rfl
    | cons x q => cases h
  | cons x p ih => cases q with
    | nil => cases h
    | cons y q =>
      injection h with e1 e2
      injection e1 with e1
      rw [e1, ih e2]
theorem keyE_enP (p q : Pth) (v : D) : keyE (enP p) (enP q, v) = decide (q = p) := by
  show decide ((enP q).key = (enP p).key) = _
  rw [key_enP, key_enP]
  by_cases h : q = p
  · rw [h]; simp
  · rw [decide_eq_false h]
    refine decide_eq_false fun e => h ?_
    injection e with e
    injection e with e
    exact text_inj e
/-! ### tables by paths -/
abbrev PD := List (Pth × D)
def mkP (ts : PD) : KV2 := ts.map fun x => (enP x.1, x.2)
def putP (ts : PD) (p : Pth) (v : D) : PD := if ts.any (fun x => decide (x.1 = p)) then ts.map (fun x => if x.1 = p then (x.1, v) else x) else ts ++ [(p, v)]
theorem depth_texts : ∀ xs : List Str, NestedKey.depthAll (xs.map .text) = 0
  | [] => by rw [List.map_nil, NestedKey.depthAll]
  | x :: xs => by rw [List.map_cons, NestedKey.depthAll, depth_texts xs, NestedKey.depth]; rfl
theorem fitP (p : Pth) (ts : PD) : keyFit (enP p) (mkP ts) = true := by
  have e := key_enP p
  unfold enP at e ⊢
  unfold keyFit
  simp only [e, mkP, List.all_map, Bool.and_eq_true, decide_eq_true_eq, List.all_eq_true]
  refine ⟨?_, fun x _ => rfl⟩
  rw [NestedKey.depth, depth_texts]
  omega
theorem findP (ts : PD) (p : Pth) : dFind (mkP ts) (enP p) = ts.lookup p := by
  unfold dFind mkP
  induction ts with
  | nil => rfl
  | cons x ts ih =>
    obtain ⟨q, v⟩ := x
    rw [List.map_cons, List.find?_cons, keyE_enP, List.lookup_cons]
    by_cases h : q = p
    · subst h; simp
    · have h2 : (p == q) = false := by simpa using fun e => h e.symm
      rw [decide_eq_false h, h2]
      exact ih
theorem putP_mk (ts : PD) (p : Pth) (v : D) : dPut (mkP ts) (enP p) v = mkP (putP ts p v) := by
  unfold dPut mkP putP
  simp only [List.any_map, Function.comp_def, keyE_enP]
  split
  · simp only [List.map_map]
    refine List.map_congr_left fun x _ => ?_
    simp only [Function.comp_def, keyE_enP]
    by_cases h : x.1 = p
    · simp [h]
    · simp [h]
  · simp
theorem mkP_len (ts : PD) : (mkP ts).length = ts.length := by simp [mkP]
theorem mkP_keys (ts : PD) : (mkP ts).map (·.1) = (ts.map (·.1)).map enP := by simp [mkP, Function.comp_def]
theorem putP_new {ts : PD} {p : Pth} {v : D} (h : p ∉ ts.map (·.1)) : putP ts p v = ts ++ [(p, v)] := by
  unfold putP
  rw [if_neg]
  simp only [List.any_eq_true, decide_eq_true_eq, not_exists, not_and]
  exact fun x hx e => h (List.mem_map.mpr ⟨x, hx, e⟩)
theorem putP_keys {ts : PD} {p : Pth} {v : D} : (putP ts p v).map (·.1) = if p ∈ ts.map (·.1) then ts.map (·.1) else ts.map (·.1) ++ [p] := by
  by_cases h : p ∈ ts.map (·.1)
  · rw [if_pos h]
    unfold putP
    obtain ⟨x, hx, e⟩ := List.mem_map.mp h
    rw [if_pos (List.any_eq_true.mpr ⟨x, hx, decide_eq_true e⟩), List.map_map]
    refine List.map_congr_left fun y _ => ?_
    show (if y.1 = p then (y.1, v) else y).1 = y.1
    split <;> rfl
  · rw [if_neg h, putP_new h]
    simp
theorem putP_look {ts : PD} {p q : Pth} {v : D} : (putP ts p v).lookup q = if q = p then some v else ts.lookup q := by
  by_cases h : p ∈ ts.map (·.1)
  · unfold putP
    obtain ⟨x, hx, e⟩ := List.mem_map.mp h
    rw [if_pos (List.any_eq_true.mpr ⟨x, hx, decide_eq_true e⟩)]
    clear e hx x
    induction ts with
    | nil => simp at h
    | cons x ts ih =>
      obtain ⟨k, d⟩ := x
      rw [List.map_cons, List.lookup_cons, List.lookup_cons]
      by_cases hk : k = p
      · subst hk
        simp only [if_pos]
        by_cases hq : q = k
        · subst hq; simp
        · have : (q == k) = false := by simpa using hq
          simp only [this, if_neg hq]
          by_cases hm : k ∈ ts.map (·.1)
          · rw [ih hm, if_neg hq]
          · have : ts.map (fun x => if x.1 = k then (x.1, v) else x) = ts := by
              have : ∀ y ∈ ts, (if y.1 = k then (y.1, v) else y) = y := fun y hy => if_neg fun e => hm (List.mem_map.mpr ⟨y, hy, e⟩)
              rw [List.map_congr_left this, List.map_id']
            rw [this]
      · rw [if_neg hk]
        have hm : p ∈ ts.map (·.1) := by
          rcases List.mem_cons.mp h with e | e
          · exact absurd e.symm hk
          · exact e
        by_cases hq : q = k
        · subst hq
          simp [hk]
        · have : (q == k) = false := by simpa using hq
          simp only [this]
          exact ih hm
  · rw [putP_new h]
    induction ts with
    | nil =>
      rw [List.nil_append, List.lookup_cons]
      by_cases e : q = p
      · subst e; simp
      · have : (q == p) = false := by simpa using e
        rw [this, if_neg e]
    | cons x ts ih =>
      obtain ⟨k, d⟩ := x
      have hk : k ≠ p := fun e => h (by rw [e]; exact List.mem_cons_self)
      rw [List.cons_append, List.lookup_cons, List.lookup_cons]
      by_cases e : q = k
      · subst e
        simp [hk]
      · have : (q == k) = false := by simpa using e
        rw [this]
        exact ih fun hm => h (List.mem_cons_of_mem _ hm)
theorem lts_sum : ∀ {ys : List Str}, (∀ y ∈ ys, y ∈ lts) → (ys.map (·.length)).sum = ys.length
  | [], _ => rfl
  | y :: ys, h => by
    obtain ⟨i, _, rfl⟩ := mem_lts (h y List.mem_cons_self)
    rw [List.map_cons, List.sum_cons, lts_sum fun z hz => h z (List.mem_cons_of_mem _ hz)]
    simp [Str.length, ltr]
    omega
theorem atI_last {xs : List Str} {x : Str} : atI ((xs ++ [x]).map D.str) (-1) = some (.str x) := by
  unfold atI ixN
  have e : (-1 + ((xs.length : Int) + 1)).toNat = xs.length := by omega
  have l : (1 : Int) ≤ (xs.length : Int) + 1 := by omega
  simp [e, l]
theorem nodup_sub {α : Type} [DecidableEq α] : ∀ {l m : List α}, l.Nodup → (∀ x ∈ l, x ∈ m) → l.length ≤ m.length
  | [], m, _, _ => Nat.zero_le _
  | x :: l, m, h, hs => by
    rw [List.nodup_cons] at h
    have hx := hs x List.mem_cons_self
    have ih := nodup_sub (l := l) (m := m.erase x) h.2 fun y hy => (List.mem_erase_of_ne fun e : y = x => h.1 (by rw [← e]; exact hy)).mpr (hs y (List.mem_cons_of_mem _ hy))
    rw [List.length_erase_of_mem hx] at ih
    have : 0 < m.length := List.length_pos_of_mem hx
    rw [List.length_cons]
    omega
theorem atI_zero {α : Type} {x : α} {xs : List α} : atI (x :: xs) 0 = some x := by
  unfold atI ixN
  simp
theorem bad_mem (t : Str) : decide (cutS t none (some 3) ∈ [Str.ofString "own", Str.ofString "ext"]) = badN t := by
  have e1 : cod (Str.ofString "own") = [111, 119, 110] := by decide +kernel
  have e2 : cod (Str.ofString "ext") = [101, 120, 116] := by decide +kernel
  have e : cod (cutS t none (some 3)) = (cod t).take 3 := cod_cut (k := 3)
  unfold badN
  rw [← Bool.decide_or]
  congr 1
  rw [← e, ← e1, ← e2]
  simp only [List.mem_cons, List.not_mem_nil, or_false, eq_iff_iff]
  constructor
  · rintro (h | h) <;> rw [h] <;> simp
  · rintro (h | h)
    · exact .inl (cod_inj h)
    · exact .inr (cod_inj h)
theorem free_lts {xs : List Str} (h : xs.length < 26) : ∃ y r, lts.filter (fun y => decide (y ∉ xs)) = y :: r ∧ y ∈ lts ∧ y ∉ xs := by
  cases q : lts.filter (fun y => decide (y ∉ xs)) with
  | nil =>
    rw [List.filter_eq_nil_iff] at q
    have hs : lts ⊆ xs := fun y hy => by simpa using q y hy
    have := nodup_sub lts_nd hs
    rw [lts_len] at this
    omega
  | cons y r =>
    have : y ∈ lts.filter (fun y => decide (y ∉ xs)) := by rw [q]; exact List.mem_cons_self
    rw [List.mem_filter] at this
    exact ⟨y, r, rfl, this.1, by simpa using this.2⟩
/-- the texts that pass -/
def selS (p : Str → Bool) : D → Option D
  | .str y => if p y then some (D.str y) else none
  | _ => none
theorem filterMap_str {xs : List Str} {p : Str → Bool} : (xs.map D.str).filterMap (selS p) = (xs.filter p).map .str := by
  induction xs with
  | nil => rfl
  | cons x xs ih =>
    rw [List.map_cons, List.filterMap_cons, List.filter_cons]
    by_cases h : p x = true
    · simp [h, ih, selS]
    · simp [h, ih, selS]
end B
/-! BSt: sorting of texts and paths, slices, tables of things. -/
namespace B
open PySem PySem.Spec PyProof.Rows L2 PySem.StrLaws
theorem sizeL : sizeLine = 16777216 := by rw [sizeLine_eq]
section
variable {α : Type} {x y z : α} {xs : List α}
theorem at_0 : atI (x :: xs) 0 = some x := atI_zero
theorem at2_1 : atI (x :: y :: xs) 1 = some y := by
  have h : (1 : Int) < ((x :: y :: xs).length : Int) := by simp only [List.length_cons]; omega
  unfold atI ixN
  rw [if_pos (by decide), if_pos h]
  rfl
theorem at3_1 : atI [x, y, z] 1 = some y := at2_1
theorem at3_2 : atI [x, y, z] 2 = some z := by unfold atI ixN; simp
end
theorem stD_merge {g : Nat} {cs : List Int} : dMerge [(.str "great", .ptr g), (.str "cells", .lst (cs.map .int)), (.str "rest", .int 0), (.str "turn", .int 0)] = stD g cs 0 0 := by
  have e1 : dPut [] (.str "great") (.ptr g) = [(.str "great", .ptr g)] := rfl
  have e2 : dPut [(.str "great", .ptr g)] (.str "cells") (.lst (cs.map .int)) = [(.str "great", .ptr g), (.str "cells", .lst (cs.map .int))] := by simp only [dPut, keyE, D.key]; rfl
  have e3 : dPut [(.str "great", .ptr g), (.str "cells", .lst (cs.map .int))] (.str "rest") (.int 0) = [(.str "great", .ptr g), (.str "cells", .lst (cs.map .int)), (.str "rest", .int 0)] := by simp only [dPut, keyE, D.key]; rfl
  have e4 : dPut [(.str "great", .ptr g), (.str "cells", .lst (cs.map .int)), (.str "rest", .int 0)] (.str "turn") (.int 0) = stD g cs 0 0 := by simp only [dPut, keyE, D.key]; rfl
  simp only [dMerge, List.foldl_cons, List.foldl_nil, e1, e2, e3, e4]
/-! ### sorting -/
abbrev leS (x y : Str) : Bool := PySem.W.dataLe false PyData.str x y
abbrev leP (p q : Pth) : Bool := PySem.W.dataLe false (fun p : Pth => (enP p).py) p q
theorem le_trans {β : Type} (k : β → PyData) (a b c : β) (h1 : PySem.W.dataLe false k a b = true) (h2 : PySem.W.dataLe false k b c = true) : PySem.W.dataLe false k a c = true :=
  (PySem.W.sortLe_total _ false _).trans a b c h1 h2
theorem le_total {β : Type} (k : β → PyData) (a b : β) : (PySem.W.dataLe false k a b || PySem.W.dataLe false k b a) = true := by
  rcases (PySem.W.sortLe_total (PyProof.Rows.listOrd PyProof.Rows.itemOrd) false fun b => PySem.W.keyToks (k b)).total a b with h | h
  · rw [show PySem.W.dataLe false k a b = true from h]; rfl
  · rw [show PySem.W.dataLe false k b a = true from h]; simp
theorem le_anti {β : Type} (k : β → PyData) {a b : β} (h1 : PySem.W.dataLe false k a b = true) (h2 : PySem.W.dataLe false k b a = true) : PySem.W.keyToks (k a) = PySem.W.keyToks (k b) := by
  have g1 : (!(PyProof.Rows.listOrd PyProof.Rows.itemOrd).blt (PySem.W.keyToks (k b)) (PySem.W.keyToks (k a))) = true := h1
  have g2 : (!(PyProof.Rows.listOrd PyProof.Rows.itemOrd).blt (PySem.W.keyToks (k a)) (PySem.W.keyToks (k b))) = true := h2
  rw [Bool.not_eq_true'] at g1 g2
  exact (PyProof.Rows.listOrd PyProof.Rows.itemOrd).total _ _ g2 g1
theorem leS_anti {x y : Str} (h1 : leS x y = true) (h2 : leS y x = true) : x = y := by
  have e := le_anti PyData.str h1 h2
  have e : [Sum.inr (cod x)] = ([Sum.inr (cod y)] : List (Int ⊕ List Nat)) := e
  injection e with e _
  injection e with e
  exact cod_inj e
theorem srt_strs (xs : List Str) : srt (xs.map .str) = (xs.mergeSort leS).map .str := (List.map_mergeSort (f := D.str) (r := leS) (s := PySem.W.dataLe false D.py) (l := xs) fun _ _ _ _ => rfl).symm
theorem srt_enP (ps : List Pth) : srt (ps.map enP) = (ps.mergeSort leP).map enP := (List.map_mergeSort (f := enP) (r := leP) (s := PySem.W.dataLe false D.py) (l := ps) fun _ _ _ _ => rfl).symm
theorem sortS_sorted {xs : List Str} (h : xs.Pairwise fun x y => leS x y = true) : sortS xs = xs := List.mergeSort_of_pairwise h
theorem sortS_pair (xs : List Str) : (sortS xs).Pairwise fun x y => leS x y = true := List.pairwise_mergeSort (le_trans _) (le_total _) xs
/-- two sorted lists of the same texts are one -/
theorem sortS_perm {xs ys : List Str} (h : ys.Perm xs) (hs : xs.Pairwise fun x y => leS x y = true) : sortS ys = xs :=
  List.Perm.eq_of_pairwise (le := fun x y => leS x y = true) (fun a b _ _ => leS_anti) (sortS_pair ys) hs ((List.mergeSort_perm ys _).trans h)
theorem sortOk_strs {xs : List Str} (h : ∀ x ∈ xs, PyData.strOk x = true) (hl : xs.length ≤ sizeLine) : SortOk (xs.map .str) where
  pure := by rw [pureA_all, List.all_map, List.all_eq_true]; exact fun _ _ => rfl
  alike := fun d hd d' hd' => by
    rw [List.map_map] at hd hd'
    obtain ⟨x, _, rfl⟩ := List.mem_map.mp hd
    obtain ⟨y, _, rfl⟩ := List.mem_map.mp hd'
    rfl
  able := .inr fun d hd => by
    rw [List.map_map] at hd
    obtain ⟨x, _, rfl⟩ := List.mem_map.mp hd
    exact ⟨fun e => by simp [D.py] at e, fun zs e => by simp [D.py] at e⟩
  len := by rw [List.length_map]; exact hl
  depth := fun d hd => by
    obtain ⟨x, _, rfl⟩ := List.mem_map.mp hd
    simp [D.py, PyData.depth]
theorem alike_texts : ∀ xs ys : List Str, PySem.W.alikeAll (D.pyA (xs.map .str)) (D.pyA (ys.map .str)) = true
  | [], _ => by simp [D.pyA, PySem.W.alikeAll]
  | _ :: _, [] => by simp [D.pyA, PySem.W.alikeAll]
  | x :: xs, y :: ys => by
    simp only [List.map_cons, D.pyA, PySem.W.alikeAll, alike_texts xs ys, Bool.and_true]
    simp [D.py, PySem.W.alike]
theorem enP_py (p : Pth) : (enP p).py = .tuple (D.pyA (p.map .str)) := by rw [enP, D.py]
theorem sortOk_enP {ps : List Pth} (h : ∀ p ∈ ps, p ≠ [] ∧ ∀ x ∈ p, okN x = true) (hl : ps.length ≤ sizeLine) : SortOk (ps.map enP) where
  pure := by
    rw [pureA_all, List.all_map, List.all_eq_true]
    exact fun p hp => (okd_parts (f := false) 1 (enP p) (okd_enP (h p hp).2)).1
  alike := fun d hd d' hd' => by
    rw [List.map_map] at hd hd'
    obtain ⟨p, _, rfl⟩ := List.mem_map.mp hd
    obtain ⟨q, _, rfl⟩ := List.mem_map.mp hd'
    show PySem.W.alike (enP p).py (enP q).py = true
    rw [enP_py, enP_py, PySem.W.alike]
    exact alike_texts p q
  able := .inl fun d hd => by
    rw [List.map_map] at hd
    obtain ⟨p, hp, rfl⟩ := List.mem_map.mp hd
    cases p with
    | nil => exact absurd rfl (h [] hp).1
    | cons x p => exact ⟨_, _, by show (enP (x :: p)).py = _; rw [enP_py, List.map_cons, D.pyA]⟩
  len := by rw [List.length_map]; exact hl
  depth := fun d hd => by
    obtain ⟨p, hp, rfl⟩ := List.mem_map.mp hd
    have := (okd_parts (f := false) 1 (enP p) (okd_enP (h p hp).2)).2.2
    omega
/-! ### slices -/
theorem cutD_to {α : Type} {xs : List α} {k : Nat} : cutD xs none (some (k : Int)) = xs.take k := by
  unfold cutD
  simp only [HT.sIx_none, HT.sIx_nat, List.drop_zero, Nat.sub_zero]
  rw [← List.take_eq_take_min]
theorem cutD_last {α : Type} {xs : List α} : cutD xs none (some (-1)) = xs.dropLast := by
  unfold cutD
  have e : HT.sIx xs.length xs.length (some (-1)) = xs.length - 1 := by
    unfold HT.sIx
    show (if (-1 : Int) < 0 then _ else _) = _
    rw [if_pos (by decide)]
    omega
  rw [e, HT.sIx_none, List.drop_zero, Nat.sub_zero, List.dropLast_eq_take]
theorem enP_last (p : Pth) : D.tup (p.map D.str).dropLast = enP p.dropLast := by rw [enP, List.map_dropLast]
theorem enP_take (p : Pth) (k : Nat) : D.tup ((p.map D.str).take k) = enP (p.take k) := by rw [enP, List.map_take]
theorem enP_app (p q : Pth) : D.tup (p.map D.str ++ q.map D.str) = enP (p ++ q) := by rw [enP, List.map_append]
/-! ### == of paths -/
theorem eqP {ne : Bool} {p q : Pth} {Q : Sl → Prop} (hp : ∀ x ∈ p, okN x = true) (hq : ∀ x ∈ q, okN x = true) : dEqA ne (enP p) (enP q) Q ↔ Q (.fr (.bl (ne ^^ decide (p = q)))) := by
  have h1 : okd false 2 (enP p) = true := okd_enP hp
  have h2 : okd false 2 (enP q) = true := okd_enP hq
  by_cases e : p = q
  · rw [dEqA_same h1 h2 (by decide) (by rw [e]), decide_eq_true e]; cases ne <;> rfl
  · rw [dEqA_diff h1 h2 (by decide) fun z => e (enP_inj z), decide_eq_false e]; cases ne <;> rfl
/-- paths that pass -/
def deS : D → Option Str
  | .str x => some x
  | _ => none
theorem deS_all : ∀ p : Pth, (p.map D.str).filterMap deS = p
  | [] => rfl
  | x :: p => by rw [List.map_cons, List.filterMap_cons]; simp [deS, deS_all p]
def deP : D → Option Pth
  | .tup ds => some (ds.filterMap deS)
  | _ => none
theorem deP_enP (p : Pth) : deP (enP p) = some p := by
  show some ((p.map D.str).filterMap deS) = some p
  rw [deS_all]
def selP (f : Pth → Bool) (d : D) : Option D := (deP d).bind fun p => if f p then some (enP p) else none
theorem selP_en (f : Pth → Bool) (p : Pth) : selP f (enP p) = if f p then some (enP p) else none := by
  unfold selP; rw [deP_enP]; rfl
theorem filterMap_enP {ps : List Pth} {f : Pth → Bool} : (ps.map enP).filterMap (selP f) = (ps.filter f).map enP := by
  induction ps with
  | nil => rfl
  | cons p ps ih =>
    rw [List.map_cons, List.filterMap_cons, List.filter_cons, selP_en]
    by_cases h : f p = true
    · simp [h, ih]
    · simp [h, ih]
/-! ### sets of paths -/
/-- paths with their beginnings -/
structure Clo (k : Nat) (ps : List Pth) : Prop where
  nd : ps.Nodup
  ok : ∀ p ∈ ps, okP k p = true
  nb : ∀ p ∈ ps, ∀ x ∈ p, badN x = false
  cl : ∀ p ∈ ps, 2 ≤ p.length → p.dropLast ∈ ps
  len : ps.length ≤ 3
theorem Clo.names {k : Nat} {ps : List Pth} (h : Clo k ps) : ∀ p ∈ ps, ∀ x ∈ p, okN x = true := fun p hp => (okP_iff.mp (h.ok p hp)).2.2
theorem Clo.ne {k : Nat} {ps : List Pth} (h : Clo k ps) : ∀ p ∈ ps, p ≠ [] := fun p hp e => by
  have := (okP_iff.mp (h.ok p hp)).1
  rw [e] at this
  simp at this
/-! ### operators by the kinds of data -/
section
variable {ds es : List D} {kvs : KV2} {z y : Str} {ns : List Int} {i j : Int} {k l : Bool} {p q : Pth} {Q : Sl → Prop} {C : Int → Int → Prop} {f : Int → Int → D} {d : D} {lo hi : Option Int} {x : Str}
theorem dLen_l : dLen (.lst ds) Q = Q (.fr (.int ds.length)) := rfl
theorem dLen_t : dLen (.tup ds) Q = Q (.fr (.int ds.length)) := rfl
theorem dLen_d : dLen (.dic kvs) Q = Q (.fr (.int kvs.length)) := rfl
theorem dLen_r : dLen (.scr ns) Q = Q (.fr (.int ns.length)) := rfl
theorem dLen_s : dLen (.str z) Q = (z.length ≤ sizeLine ∧ Q (.fr (.int z.length))) := rfl
theorem dLen_P : dLen (enP p) Q = Q (.fr (.int p.length)) := by rw [enP, dLen_t, List.length_map]
theorem dSl_l : dSl (.lst ds) lo hi Q = Q (.ow (.lst (cutD ds lo hi))) := rfl
theorem dSl_t : dSl (.tup ds) lo hi Q = Q (.fr (.tup (cutD ds lo hi))) := rfl
theorem dSl_s : dSl (.str z) lo hi Q = (z.length ≤ sizeLine ∧ Q (.fr (.str (cutS z lo hi)))) := rfl
theorem dSl_Pl : dSl (enP p) none (some (-1)) Q = Q (.fr (enP p.dropLast)) := by rw [enP, dSl_t, cutD_last, enP_last]
theorem dSl_Pt {n : Nat} : dSl (enP p) none (some (n : Int)) Q = Q (.fr (enP (p.take n))) := by rw [enP, dSl_t, cutD_to, enP_take]
theorem dAdd_i : dAdd (.int i) (.int j) Q = Q (.fr (.int (i + j))) := rfl
theorem dAdd_s : dAdd (.str z) (.str y) Q = (z.length + y.length ≤ sizeLine ∧ Q (.fr (.str (z ++ y)))) := rfl
theorem dAdd_l : dAdd (.lst ds) (.lst es) Q = (ds.length + es.length ≤ sizeLine ∧ Q (.ow (.lst (ds ++ es)))) := rfl
theorem dAdd_t : dAdd (.tup ds) (.tup es) Q = (ds.length + es.length ≤ sizeLine ∧ Q (.fr (.tup (ds ++ es)))) := rfl
theorem dAdd_P1 : dAdd (enP p) (.tup [.str x]) Q = (p.length + 1 ≤ sizeLine ∧ Q (.fr (enP (p ++ [x])))) := by
  rw [enP, dAdd_t, List.length_map, enP, List.map_append]; rfl
theorem dAdd_P2 : dAdd (enP p) (.tup [.str x, .str y]) Q = (p.length + 2 ≤ sizeLine ∧ Q (.fr (enP (p ++ [x, y])))) := by
  rw [enP, dAdd_t, List.length_map, enP, List.map_append]; rfl
theorem dIxA_l : dIxA (.lst ds) (.int i) Q = ∃ d, atI ds i = some d ∧ Q (.fr d) := rfl
theorem dIxA_t : dIxA (.tup ds) (.int i) Q = ∃ d, atI ds i = some d ∧ Q (.fr d) := rfl
theorem dIxA_s : dIxA (.str z) (.int i) Q = (z.length ≤ sizeLine ∧ ∃ k, atI z.cps.toList i = some k ∧ Q (.fr (.str ⟨#[k]⟩))) := rfl
theorem dIxA_d : dIxA (.dic kvs) d Q = (keyFit d kvs = true ∧ ∃ e, dFind kvs d = some e ∧ Q (.fr e)) := rfl
theorem dIxA_P {ts : PD} : dIxA (.dic (mkP ts)) (enP p) Q = ∃ e, ts.lookup p = some e ∧ Q (.fr e) := by
  rw [dIxA_d, findP, fitP]; simp
theorem dIn_P {ts : PD} {ne : Bool} : dIn ne (enP p) (.dic (mkP ts)) Q = Q (.fr (.bl (ne ^^ (ts.lookup p).isSome))) := by
  show (keyFit (enP p) (mkP ts) = true ∧ _) = _
  rw [fitP, findP]; simp
theorem dInt1_i : dInt1 (.int i) Q ↔ Q (.fr (.int i)) := ⟨fun ⟨n, e, h⟩ => by cases e; exact h, fun h => ⟨i, rfl, h⟩⟩
theorem dTuple_l : dTuple (.lst ds) Q = Q (.fr (.tup ds)) := rfl
theorem dTuple_t : dTuple (.tup ds) Q = Q (.fr (.tup ds)) := rfl
theorem dListA_l : dListA (.lst ds) Q = Q (.ow (.lst ds)) := rfl
theorem dListA_t : dListA (.tup ds) Q = Q (.ow (.lst ds)) := rfl
theorem dListA_d : dListA (.dic kvs) Q = Q (.ow (.lst (kvs.map (·.1)))) := rfl
theorem dListA_r : dListA (.scr ns) Q = Q (.ow (.lst (ns.map .int))) := rfl
theorem dIsB_b {neg : Bool} : dIsB neg (.bl k) (.bl l) Q = Q (.fr (.bl (neg ^^ decide (k = l)))) := rfl
theorem dInt_i : dInt C f (.int i) (.int j) Q = (C i j ∧ Q (.fr (f i j))) := rfl
theorem dAll_l {bs : List Bool} : dAll (.lst (bs.map .bl)) Q ↔ Q (.fr (.bl (bs.all id))) := by
  constructor
  · rintro ⟨cs, e, h⟩
    injection e with e
    have : bs = cs := by
      have inj : ∀ a b : List Bool, a.map D.bl = b.map D.bl → a = b := by
        intro a
        induction a with
        | nil => intro b e; cases b with
          | nil => rfl
          | cons => cases e
        | cons x a ih => intro b e; cases b with
          | nil => cases e
          | cons y b => injection e with e1 e2; injection e1 with e1; rw [e1, ih b e2]
      exact inj _ _ e
    rw [this]; exact h
  · exact fun h => ⟨bs, rfl, h⟩
theorem isN_n : D.non.isNon = true := rfl
theorem isN_t : (D.tup ds).isNon = false := rfl
theorem isN_l : (D.lst ds).isNon = false := rfl
theorem it_P {ts : PD} : (D.dic (mkP ts)).items = some ((ts.map (·.1)).map enP) := by rw [it_d, mkP_keys]
end
theorem atI_map {α β : Type} {f : α → β} {xs : List α} {v : Int} {x : α} (h : atI xs v = some x) : atI (xs.map f) v = some (f x) := by
  unfold atI at h ⊢
  rw [List.length_map]
  cases q : ixN xs.length v with
  | none => rw [q] at h; cases h
  | some j =>
    rw [q] at h
    show (List.map f xs)[j]? = _
    rw [List.getElem?_map, show xs[j]? = some x from h]
    rfl
theorem okd_paths {f : Bool} {n : Nat} {qs : List Pth} (h : ∀ q ∈ qs, ∀ x ∈ q, okN x = true) : (qs.map enP).all (okd f (n + 1)) = true := by
  rw [List.all_map, List.all_eq_true]
  exact fun q hq => okd_enP (h q hq)
theorem eqNilP {ne : Bool} {qs : List Pth} {Q : Sl → Prop} (h : ∀ q ∈ qs, ∀ x ∈ q, okN x = true) : dEqA ne (.lst (qs.map enP)) (.lst []) Q ↔ Q (.fr (.bl (ne ^^ qs.isEmpty))) := by
  have h1 : okd false 3 (.lst (qs.map enP)) = true := okd_paths h
  have h2 : okd false 3 (.lst []) = true := rfl
  cases qs with
  | nil => rw [dEqA_same h1 h2 (by decide) rfl]; cases ne <;> rfl
  | cons q qs => rw [dEqA_diff h1 h2 (by decide) (by simp)]; cases ne <;> rfl
theorem filter_empty {α : Type} {l : List α} {p : α → Prop} [DecidablePred p] : (l.filter fun x => decide (p x)).isEmpty = !decide (∃ x ∈ l, p x) := by
  by_cases h : ∃ x ∈ l, p x
  · rw [decide_eq_true h]
    obtain ⟨x, hx, hp⟩ := h
    have : x ∈ l.filter fun x => decide (p x) := List.mem_filter.mpr ⟨hx, decide_eq_true hp⟩
    cases q : l.filter fun x => decide (p x) with
    | nil => rw [q] at this; cases this
    | cons => rfl
  · rw [decide_eq_false h]
    have : l.filter (fun x => decide (p x)) = [] := by
      rw [List.filter_eq_nil_iff]
      exact fun x hx hd => h ⟨x, hx, of_decide_eq_true hd⟩
    rw [this]; rfl
/-! ### sets of texts, plainly -/
theorem uqStep_props (acc : List Str) (k : Str) (h : acc.Nodup) : (uqStep acc k).Nodup ∧ ∀ x, x ∈ uqStep acc k ↔ x ∈ acc ∨ x = k := by
  unfold uqStep
  by_cases hk : k ∈ acc
  · rw [if_pos hk]
    exact ⟨h, fun x => ⟨.inl, fun z => z.elim id fun e => by rw [e]; exact hk⟩⟩
  · rw [if_neg hk]
    refine ⟨?_, fun x => by simp⟩
    rw [List.nodup_append]
    exact ⟨h, by simp, fun y hy z hz e => by
      have : z = k := by simpa using hz
      exact hk (by rw [← this, ← e]; exact hy)⟩
theorem uqFold_props : ∀ (xs acc : List Str), acc.Nodup → (xs.foldl uqStep acc).Nodup ∧ ∀ x, x ∈ xs.foldl uqStep acc ↔ x ∈ acc ∨ x ∈ xs
  | [], acc, h => ⟨h, fun x => by simp⟩
  | y :: ys, acc, h => by
    obtain ⟨h1, h2⟩ := uqStep_props acc y h
    obtain ⟨h3, h4⟩ := uqFold_props ys (uqStep acc y) h1
    refine ⟨h3, fun x => ?_⟩
    rw [List.foldl_cons, h4 x, h2 x, List.mem_cons, or_assoc]
theorem uq_nd (xs : List Str) : (uq xs).Nodup := (uqFold_props xs [] List.nodup_nil).1
theorem uq_mem (xs : List Str) (x : Str) : x ∈ uq xs ↔ x ∈ xs := by
  have := (uqFold_props xs [] List.nodup_nil).2 x
  simpa [uq] using this
theorem uqFold_nd : ∀ (xs acc : List Str), (acc ++ xs).Nodup → xs.foldl uqStep acc = acc ++ xs
  | [], acc, _ => by simp
  | y :: ys, acc, h => by
    have hy : y ∉ acc := fun hm => by
      rw [List.nodup_append] at h
      exact h.2.2 y hm y List.mem_cons_self rfl
    rw [List.foldl_cons, show uqStep acc y = acc ++ [y] from by rw [uqStep, if_neg hy], uqFold_nd ys (acc ++ [y]) (by rw [List.append_assoc]; exact h), List.append_assoc]
    rfl
theorem uq_of_nd {xs : List Str} (h : xs.Nodup) : uq xs = xs := by
  have := uqFold_nd xs [] (by simpa using h)
  simpa [uq] using this
/-! ### loops over lists of made data -/
theorem for_map {α : Type} (f : α → D) {t : Tgt} {body : BS} {Dn : EndsB} {X : QX} (xs : List α) (I : List α → En → Prop) {E : En} (h0 : I [] E)
    (step : ∀ pre x post E (K : En → Prop), xs = pre ++ x :: post → I pre E → (∀ E', I (pre ++ [x]) E' → K E') → t.set (f x) E fun E1 => body { Dn with nx := K, ct := K, bk := Dn.nx } X E1)
    (hd : ∀ E, I xs E → Dn.nx E) : forRun t body Dn X (xs.map f) E := by
  have go : ∀ post pre E, xs = pre ++ post → I pre E → forRun t body Dn X (post.map f) E := by
    intro post
    induction post with
    | nil =>
      intro pre E e h
      rw [List.append_nil] at e
      subst e
      exact hd E h
    | cons d post ih =>
      intro pre E e h
      exact step pre d post E _ e h fun E' h' => ih (pre ++ [d]) E' (by rw [e, List.append_assoc]; rfl) h'
  exact go xs [] E rfl h0
theorem lc_map {α : Type} (f : α → D) {t : Tgt} {tst : BQ} {elt : BO} {ws : List Nat} (xs : List α) (I : List α → List D → En → Prop) {E : En} {Q : List D → En → Prop} (h0 : I [] [] E) (hl : xs.length ≤ 16777216)
    (step : ∀ pre x post acc E (G : Option D → En → Prop), xs = pre ++ x :: post → I pre acc E → (∀ y E', (match y with | some y => I (pre ++ [x]) (acc ++ [y]) E' | none => I (pre ++ [x]) acc E') → G y E') → lcTurn t tst elt ws (f x) E G)
    (hd : ∀ acc E, I xs acc E → Q acc E) : lcRun t tst elt ws (xs.map f) [] E Q := by
  have go : ∀ post pre acc E, xs = pre ++ post → acc.length ≤ pre.length → I pre acc E → lcRun t tst elt ws (post.map f) acc E Q := by
    intro post
    induction post with
    | nil =>
      intro pre acc E e _ h
      rw [List.append_nil] at e
      subst e
      exact hd acc E h
    | cons d post ih =>
      intro pre acc E e ha h
      rw [List.map_cons, lcRun_cons]
      have el : pre.length + (post.length + 1) ≤ 16777216 := by
        have := hl
        rw [e, List.length_append, List.length_cons] at this
        exact this
      refine step pre d post acc E _ e h fun y E' hy => ?_
      cases y with
      | none => exact ih (pre ++ [d]) acc E' (by rw [e, List.append_assoc]; rfl) (by rw [List.length_append]; simp; omega) hy
      | some y => exact ⟨by rw [sizeL]; omega, ih (pre ++ [d]) (acc ++ [y]) E' (by rw [e, List.append_assoc]; rfl) (by simp; omega) hy⟩
  exact go xs [] [] E rfl (Nat.le_refl _) h0
/-! ### things -/
/-- the rows of a file, as they stand in a store -/
structure RowsOk (rs : List Str) : Prop where
  srt : rs.Pairwise fun x y => leS x y = true
  nd : rs.Nodup
  ok : ∀ x ∈ rs, okN x = true
  len : rs.length ≤ 10
def RowV (v : D) : Prop := v = .non ∨ ∃ rs : List Str, v = .tup (rs.map .str) ∧ RowsOk rs
structure Thg (ts : PD) : Prop where
  nd : (ts.map (·.1)).Nodup
  key : ∀ p ∈ ts.map (·.1), okP 4 p = true
  par : ∀ p ∈ ts.map (·.1), 2 ≤ p.length → ts.lookup p.dropLast = some .non
  val : ∀ p v, ts.lookup p = some v → RowV v
theorem look_none {ts : PD} {p : Pth} : ts.lookup p = none ↔ p ∉ ts.map (·.1) := by
  induction ts with
  | nil => simp
  | cons x ts ih =>
    obtain ⟨k, v⟩ := x
    rw [List.lookup_cons, List.map_cons, List.mem_cons, not_or]
    by_cases h : p = k
    · subst h; simp
    · have : (p == k) = false := by simpa using h
      rw [this]
      exact ih.trans ⟨fun z => ⟨h, z⟩, fun z => z.2⟩
theorem look_some {ts : PD} {p : Pth} {v : D} (h : ts.lookup p = some v) : p ∈ ts.map (·.1) := by
  by_cases hm : p ∈ ts.map (·.1)
  · exact hm
  · rw [look_none.mpr hm] at h; cases h
theorem look_app {ts : PD} {p q : Pth} {v : D} (h : p ∉ ts.map (·.1)) : (ts ++ [(p, v)]).lookup q = if q = p then some v else ts.lookup q := by
  rw [← putP_new h, putP_look]
theorem Thg.nil : Thg [] where
  nd := List.nodup_nil
  key := fun p h => by simp at h
  par := fun p h => by simp at h
  val := fun p v h => by cases h
theorem Thg.add {ts : PD} {p : Pth} {v : D} (h : Thg ts) (hn : p ∉ ts.map (·.1)) (ho : okP 4 p = true) (hp : 2 ≤ p.length → ts.lookup p.dropLast = some .non) (hv : RowV v) : Thg (ts ++ [(p, v)]) := by
  have hne : ∀ q : Pth, 2 ≤ q.length → q.dropLast ≠ q := fun q l e => by
    have := congrArg List.length e
    rw [List.length_dropLast] at this
    omega
  have keep : ∀ q : Pth, ts.lookup q = some .non → (ts ++ [(p, v)]).lookup q = some .non := fun q e => by
    rw [look_app hn, if_neg fun z : q = p => hn (by rw [← z]; exact look_some e)]
    exact e
  refine ⟨?_, fun q hq => ?_, fun q hq l => ?_, fun q w hw => ?_⟩
  · rw [List.map_append, List.nodup_append]
    refine ⟨h.nd, by simp, fun a ha b hb e => ?_⟩
    have : b = p := by simpa using hb
    exact hn (by rw [← this, ← e]; exact ha)
  · rw [List.map_append] at hq
    rcases List.mem_append.mp hq with m | m
    · exact h.key q m
    · have : q = p := by simpa using m
      rw [this]; exact ho
  · rw [List.map_append] at hq
    rcases List.mem_append.mp hq with m | m
    · exact keep _ (h.par q m l)
    · have : q = p := by simpa using m
      subst this
      exact keep _ (hp l)
  · rw [look_app hn] at hw
    split at hw
    · cases hw; exact hv
    · exact h.val q w hw
/-- a new thing in a table -/
theorem put_new {ts : PD} {p : Pth} {v : D} (h : p ∉ ts.map (·.1)) : dPut (mkP ts) (enP p) v = mkP (ts ++ [(p, v)]) := by rw [putP_mk, putP_new h]
/-! ### isinstance, all, any, dict comprehensions -/
theorem dIsi_of {ms : List String} {d : D} {n : String} {Q : Sl → Prop} (h : d.tyN = some n) : dIsi ms d Q = Q (.fr (.bl (ms.any (tyIs n)))) := by
  unfold dIsi D.isTy
  rw [h]; rfl
theorem isi_str {x : Str} {Q : Sl → Prop} : dIsi ["str"] (.str x) Q = Q (.fr (.bl true)) := by rw [dIsi_of (n := "str") rfl]; rfl
theorem isi_tup {x : List D} {Q : Sl → Prop} : dIsi ["tuple"] (.tup x) Q = Q (.fr (.bl true)) := by rw [dIsi_of (n := "tuple") rfl]; rfl
theorem isi_tupP {x : Pth} {Q : Sl → Prop} : dIsi ["tuple"] (enP x) Q = Q (.fr (.bl true)) := isi_tup
theorem isi_dic {x : KV2} {Q : Sl → Prop} : dIsi ["dict"] (.dic x) Q = Q (.fr (.bl true)) := by rw [dIsi_of (n := "dict") rfl]; rfl
theorem isi_bl {x : Bool} {Q : Sl → Prop} : dIsi ["bool"] (.bl x) Q = Q (.fr (.bl true)) := by rw [dIsi_of (n := "bool") rfl]; rfl
theorem isi_lt1 {x : List D} {Q : Sl → Prop} : dIsi ["list", "tuple"] (.lst x) Q = Q (.fr (.bl true)) := by rw [dIsi_of (n := "list") rfl]; rfl
theorem isi_lt2 {x : List D} {Q : Sl → Prop} : dIsi ["list", "tuple"] (.tup x) Q = Q (.fr (.bl true)) := by rw [dIsi_of (n := "tuple") rfl]; rfl
theorem fm_bl {ds : List D} {f : D → Bool} : ds.filterMap (fun d => some (D.bl (f d))) = (ds.map f).map .bl := by
  induction ds with
  | nil => rfl
  | cons d ds ih => rw [List.filterMap_cons]; simp [ih]
theorem dAll_f {ds : List D} {f : D → Bool} {Q : Sl → Prop} : dAll (.lst (ds.filterMap fun d => some (D.bl (f d)))) Q ↔ Q (.fr (.bl (ds.all f))) := by
  rw [fm_bl, dAll_l]
  simp [List.all_map, Function.comp_def]
theorem dAny_l {bs : List Bool} {Q : Sl → Prop} (h : Q (.fr (.bl (bs.any id)))) : dAny (.lst (bs.map .bl)) Q := ⟨bs, rfl, h⟩
theorem dAny_f {ds : List D} {f : D → Bool} {Q : Sl → Prop} (h : Q (.fr (.bl (ds.any f)))) : dAny (.lst (ds.filterMap fun d => some (D.bl (f d)))) Q := by
  rw [fm_bl]
  exact dAny_l (by simpa [List.any_map, Function.comp_def] using h)
theorem dcRun_cons {t : Tgt} {tst : BQ} {ky vl : BO} {ws : List Nat} {d : D} {ds : List D} {acc : KV2} {E : En} {Q : KV2 → En → Prop} :
    dcRun t tst ky vl ws (d :: ds) acc E Q = dcTurn t tst ky vl ws d E (fun o E' => match o with | some (y, z) => keyFit y acc = true ∧ acc.length < sizeLine ∧ dcRun t tst ky vl ws ds (dPut acc y z) E' Q | none => dcRun t tst ky vl ws ds acc E' Q) := rfl
/-- a dict comprehension whose keys are different paths -/
theorem dc_map {α : Type} (src : α → D) (kf : α → Pth) (vf : α → D) {t : Tgt} {tst : BQ} {ky vl : BO} {ws : List Nat} {E : En} {Q : KV2 → En → Prop} : ∀ {xs : List α} {acc : PD}, (acc.map (·.1) ++ xs.map kf).Nodup → acc.length + xs.length ≤ 16777216 →
    (∀ x ∈ xs, ∀ G : Option (D × D) → En → Prop, G (some (enP (kf x), vf x)) E → dcTurn t tst ky vl ws (src x) E G) → Q (mkP (acc ++ xs.map fun x => (kf x, vf x))) E → dcRun t tst ky vl ws (xs.map src) (mkP acc) E Q
  | [], acc, _, _, _, hQ => by simpa [dcRun] using hQ
  | x :: xs, acc, hn, hl, ht, hQ => by
    rw [List.map_cons, dcRun_cons]
    refine ht x List.mem_cons_self _ ?_
    have hk : kf x ∉ acc.map (·.1) := fun hm => by
      rw [List.nodup_append] at hn
      exact hn.2.2 _ hm (kf x) (by simp) rfl
    rw [List.length_cons] at hl
    refine ⟨fitP _ _, by rw [mkP_len, sizeL]; omega, ?_⟩
    rw [put_new hk]
    refine dc_map src kf vf (by simpa using hn) (by simp; omega) (fun y hy => ht y (List.mem_cons_of_mem _ hy)) ?_
    simpa using hQ
theorem all_tt {α : Type} (l : List α) : (l.all fun _ => true) = true := by induction l <;> simp_all
theorem dAll_tt {ds : List D} {Q : Sl → Prop} : dAll (.lst (ds.filterMap fun _ => some (D.bl true))) Q ↔ Q (.fr (.bl true)) := by rw [dAll_f, all_tt]
theorem dIn_s {ne : Bool} {i j : Str} {Q : Sl → Prop} : dIn ne (.str i) (.str j) Q = Q (.fr (.bl (ne ^^ inS i j))) := rfl
theorem dAny_ff {ds : List D} {Q : Sl → Prop} (h : Q (.fr (.bl false))) : dAny (.lst (ds.filterMap fun _ => some (D.bl false))) Q := by
  refine dAny_f ?_
  have : (ds.any fun _ => false) = false := by induction ds <;> simp_all
  rw [this]; exact h
theorem look_map {ps : List Pth} {f : Pth → D} {p : Pth} : (ps.map fun p => (p, f p)).lookup p = if p ∈ ps then some (f p) else none := by
  induction ps with
  | nil => simp
  | cons q ps ih =>
    rw [List.map_cons, List.lookup_cons]
    by_cases e : p = q
    · subst e; simp
    · have : (p == q) = false := by simpa using e
      rw [this, ih]
      simp [e]
/-- paths taken over, or left -/
def selPM (g : Pth → Option Pth) (d : D) : Option D := (deP d).bind fun p => (g p).map enP
theorem selPM_en (g : Pth → Option Pth) (p : Pth) : selPM g (enP p) = (g p).map enP := by
  unfold selPM; rw [deP_enP]; rfl
theorem filterMap_PM {ps : List Pth} {g : Pth → Option Pth} : (ps.map enP).filterMap (selPM g) = (ps.filterMap g).map enP := by
  induction ps with
  | nil => rfl
  | cons p ps ih =>
    rw [List.map_cons, List.filterMap_cons, List.filterMap_cons, selPM_en]
    cases h : g p with
    | none => simp [ih]
    | some q => simp [ih]
/-- a list or a tuple -/
def sq : Bool → List D → D
  | true, ds => .tup ds
  | false, ds => .lst ds
section
variable {b ne f : Bool} {n : Nat} {ds : List D} {x : D} {Q : Sl → Prop}
theorem it_q : (sq b ds).items = some ds := by cases b <;> rfl
theorem dLen_q : dLen (sq b ds) Q = Q (.fr (.int ds.length)) := by cases b <;> rfl
theorem dIn_q (hd : ds.all (okd f n) = true) (hx : okd f n x = true) (hn : n ≤ 60) : dIn ne x (sq b ds) Q ↔ Q (.fr (.bl (ne ^^ memB ds x))) := by
  cases b
  · exact dIn_lst hd hx hn
  · exact dIn_tup hd hx hn
end
theorem dIn_qP {b ne : Bool} {ps : List Pth} {p : Pth} {Q : Sl → Prop} (h : ∀ q ∈ ps, ∀ x ∈ q, okN x = true) (hp : ∀ x ∈ p, okN x = true) : dIn ne (enP p) (sq b (ps.map enP)) Q ↔ Q (.fr (.bl (ne ^^ decide (p ∈ ps)))) := by
  rw [dIn_q (f := false) (n := 1) (okd_paths h) (okd_enP hp) (by decide), memB_enP h hp]
theorem dIn_qS {b ne : Bool} {xs : List Str} {x : Str} {Q : Sl → Prop} (h : ∀ y ∈ xs, okN y = true) (hx : okN x = true) : dIn ne (.str x) (sq b (xs.map .str)) Q ↔ Q (.fr (.bl (ne ^^ decide (x ∈ xs)))) := by
  rw [dIn_q (f := false) (n := 0) (okd_strs fun y hy => okN_strOk (h y hy)) (okd_str (okN_strOk hx)) (by decide), memB_str (fun y hy => okN_strOk (h y hy)) (okN_strOk hx)]
theorem lc_pureM {α : Type} (src : α → D) (g : α → Option D) {t : Tgt} {tst : BQ} {elt : BO} {ws : List Nat} : ∀ {xs : List α} {acc : List D} {E : En} {Q : List D → En → Prop}, acc.length + xs.length ≤ 16777216 →
    (∀ x ∈ xs, ∀ G : Option D → En → Prop, G (g x) E → lcTurn t tst elt ws (src x) E G) → Q (acc ++ xs.filterMap g) E → lcRun t tst elt ws (xs.map src) acc E Q
  | [], acc, E, Q, _, _, hQ => by simpa [lcRun] using hQ
  | x :: xs, acc, E, Q, hl, hs, hQ => by
    rw [List.map_cons, lcRun_cons]
    refine hs x List.mem_cons_self _ ?_
    have hs' : ∀ e ∈ xs, ∀ G : Option D → En → Prop, G (g e) E → lcTurn t tst elt ws (src e) E G := fun e he => hs e (List.mem_cons_of_mem _ he)
    rw [List.length_cons] at hl
    cases hq : g x with
    | none =>
      rw [List.filterMap_cons_none hq] at hQ
      exact lc_pureM src g (by omega) hs' hQ
    | some y =>
      rw [List.filterMap_cons_some hq] at hQ
      refine ⟨by rw [sizeL]; omega, lc_pureM src g (by simp; omega) hs' ?_⟩
      rw [List.append_assoc]
      exact hQ
/-! ### dict(pairs) -/
theorem keyTup_enP (p : Pth) : keyTup (enP p) = true := by
  unfold keyTup
  rw [key_enP]
  simp only [enP, D.isTup, Bool.true_and, decide_eq_true_eq]
  rw [NestedKey.depth, depth_texts]
  omega
theorem merge_go : ∀ (ts acc : PD), (acc.map (·.1) ++ ts.map (·.1)).Nodup → (mkP ts).foldl (fun acc p => dPut acc p.1 p.2) (mkP acc) = mkP (acc ++ ts)
  | [], acc, _ => by simp [mkP]
  | x :: ts, acc, h => by
    have hk : x.1 ∉ acc.map (·.1) := fun hm => by
      rw [List.nodup_append] at h
      exact h.2.2 _ hm x.1 (by simp) rfl
    show (mkP ts).foldl _ (dPut (mkP acc) (enP x.1) x.2) = _
    rw [put_new hk, merge_go ts (acc ++ [(x.1, x.2)]) (by simpa using h)]
    simp
theorem merge_mk {ts : PD} (h : (ts.map (·.1)).Nodup) : dMerge (mkP ts) = mkP ts := by
  have := merge_go ts [] (by simpa using h)
  simpa [dMerge, mkP] using this
theorem dDict_mk {ts : PD} {Q : Sl → Prop} (h : (ts.map (·.1)).Nodup) (hl : ts.length ≤ 16777216) (q : Q (.ow (.dic (mkP ts)))) : dDict (.lst (ts.map fun x => D.tup [enP x.1, x.2])) Q := by
  refine ⟨mkP ts, ?_, ?_, by rw [mkP_len, sizeL]; exact hl, by rw [merge_mk h]; exact q⟩
  · congr 1
    simp [mkP, pairD, Function.comp_def]
  · rw [mkP, List.all_map, List.all_eq_true]
    exact fun x _ => keyTup_enP x.1
/-! ### the weight of data -/
theorem weight_strs : ∀ xs : List Str, (∀ x ∈ xs, okN x = true) → (D.tup (xs.map .str)).py.weight ≤ 9 * xs.length
  | [], _ => by simp [D.py, D.pyA, PyData.weight, PyData.weightAll]
  | x :: xs, h => by
    have ih := weight_strs xs fun y hy => h y (List.mem_cons_of_mem _ hy)
    have hx := (okN_len (h x List.mem_cons_self)).2
    simp only [D.py, List.map_cons, D.pyA, PyData.weight, PyData.weightAll, List.length_cons] at ih ⊢
    have : x.length = x.cps.size := rfl
    omega
theorem leaves_okd : ∀ (n : Nat) (d : D), okd true n d = true → d.py.leavesShort 8 = true
  | n, .non, _ => by simp [D.py, PyData.leavesShort]
  | n, .bl _, _ => by simp [D.py, PyData.leavesShort]
  | n, .int _, h => by cases n <;> cases h
  | n, .str s, h => by
    have h : PyData.strOk s = true := by cases n <;> simpa [okd] using h
    unfold PyData.strOk at h
    rw [Array.all_eq_true'] at h
    simp only [D.py, PyData.leavesShort, List.all_eq_true, decide_eq_true_eq]
    intro c hc
    have := h c (by simpa using hc)
    simp only [decide_eq_true_eq] at this
    omega
  | n + 1, .tup xs, h => by
    have h : xs.all (okd true n) = true := h
    rw [List.all_eq_true] at h
    have go : ∀ l : List D, (∀ d ∈ l, d.py.leavesShort 8 = true) → PyData.leavesShortAll 8 (D.pyA l) = true := by
      intro l
      induction l with
      | nil => intro _; simp [D.pyA, PyData.leavesShortAll]
      | cons d l ih => intro hl; rw [D.pyA, PyData.leavesShortAll, hl d List.mem_cons_self, ih fun e he => hl e (List.mem_cons_of_mem _ he)]; rfl
    rw [D.py, PyData.leavesShort]
    exact go xs fun d hd => leaves_okd n d (h d hd)
  | n + 1, .lst xs, h => by
    have h : xs.all (okd true n) = true := h
    rw [List.all_eq_true] at h
    have go : ∀ l : List D, (∀ d ∈ l, d.py.leavesShort 8 = true) → PyData.leavesShortAll 8 (D.pyA l) = true := by
      intro l
      induction l with
      | nil => intro _; simp [D.pyA, PyData.leavesShortAll]
      | cons d l ih => intro hl; rw [D.pyA, PyData.leavesShortAll, hl d List.mem_cons_self, ih fun e he => hl e (List.mem_cons_of_mem _ he)]; rfl
    rw [D.py, PyData.leavesShort]
    exact go xs fun d hd => leaves_okd n d (h d hd)
  | 0, .tup _, h => by cases h
  | 0, .lst _, h => by cases h
  | 0, .dic _, h => by cases h
  | n + 1, .dic _, h => by cases h
  | 0, .ty _, h => by cases h
  | n + 1, .ty _, h => by cases h
  | 0, .obj _ _, h => by cases h
  | n + 1, .obj _ _, h => by cases h
  | 0, .ptr _, h => by cases h
  | n + 1, .ptr _, h => by cases h
  | 0, .exc _ _, h => by cases h
  | n + 1, .exc _ _, h => by cases h
  | 0, .scr _, h => by cases h
  | n + 1, .scr _, h => by cases h
theorem show_okd : ∀ (n : Nat) (d : D), okd true n d = true → d.py.showable = true
  | n, .non, _ => by simp [D.py, PyData.showable]
  | n, .bl _, _ => by simp [D.py, PyData.showable]
  | n, .int _, h => by cases n <;> cases h
  | n, .str s, h => by simp [D.py, PyData.showable]
  | n + 1, .tup xs, h => by
    have h : xs.all (okd true n) = true := h
    rw [List.all_eq_true] at h
    have go : ∀ l : List D, (∀ d ∈ l, d.py.showable = true) → PyData.showableAll (D.pyA l) = true := by
      intro l
      induction l with
      | nil => intro _; simp [D.pyA, PyData.showableAll]
      | cons d l ih => intro hl; rw [D.pyA, PyData.showableAll, hl d List.mem_cons_self, ih fun e he => hl e (List.mem_cons_of_mem _ he)]; rfl
    rw [D.py, PyData.showable]
    exact go xs fun d hd => show_okd n d (h d hd)
  | n + 1, .lst xs, h => by
    have h : xs.all (okd true n) = true := h
    rw [List.all_eq_true] at h
    have go : ∀ l : List D, (∀ d ∈ l, d.py.showable = true) → PyData.showableAll (D.pyA l) = true := by
      intro l
      induction l with
      | nil => intro _; simp [D.pyA, PyData.showableAll]
      | cons d l ih => intro hl; rw [D.pyA, PyData.showableAll, hl d List.mem_cons_self, ih fun e he => hl e (List.mem_cons_of_mem _ he)]; rfl
    rw [D.py, PyData.showable]
    exact go xs fun d hd => show_okd n d (h d hd)
  | 0, .tup _, h => by cases h
  | 0, .lst _, h => by cases h
  | 0, .dic _, h => by cases h
  | n + 1, .dic _, h => by cases h
  | 0, .ty _, h => by cases h
  | n + 1, .ty _, h => by cases h
  | 0, .obj _ _, h => by cases h
  | n + 1, .obj _ _, h => by cases h
  | 0, .ptr _, h => by cases h
  | n + 1, .ptr _, h => by cases h
  | 0, .exc _ _, h => by cases h
  | n + 1, .exc _ _, h => by cases h
  | 0, .scr _, h => by cases h
  | n + 1, .scr _, h => by cases h
/-- a table of small plain data by paths: it can be shown -/
structure Small (ts : PD) : Prop where
  nd : (ts.map (·.1)).Nodup
  key : ∀ p ∈ ts.map (·.1), okP 4 p = true
  val : ∀ x ∈ ts, okd true 3 x.2 = true ∧ x.2.py.weight ≤ 200
  len : ts.length ≤ 100
theorem Small.repr {ts : PD} (h : Small ts) : (D.dic (mkP ts)).isRef = true ∧ (D.dic (mkP ts)).pure = true ∧ (D.dic (mkP ts)).py.showable = true ∧ (D.dic (mkP ts)).py.depth ≤ 60 ∧ (D.dic (mkP ts)).py.shown.length ≤ 16777216 := by
  have kn : ∀ x ∈ ts, ∀ y ∈ x.1, okN y = true := fun x hx => (okP_iff.mp (h.key x.1 (List.mem_map_of_mem hx))).2.2
  have go : ∀ l : PD, (∀ x ∈ l, (∀ y ∈ x.1, okN y = true) ∧ x.1.length ≤ 4 ∧ okd true 3 x.2 = true ∧ x.2.py.weight ≤ 200) →
      D.pureK (mkP l) = true ∧ PyData.showableKv (D.pyK (mkP l)) = true ∧ PyData.depthKv (D.pyK (mkP l)) ≤ 4 ∧ PyData.leavesShortKv 8 (D.pyK (mkP l)) = true ∧ PyData.weightKv (D.pyK (mkP l)) ≤ 300 * l.length := by
    intro l
    induction l with
    | nil => intro _; simp [mkP, D.pureK, D.pyK, PyData.showableKv, PyData.depthKv, PyData.leavesShortKv, PyData.weightKv]
    | cons x l ih =>
      intro hl
      obtain ⟨k1, k2, k3, k4⟩ := hl x List.mem_cons_self
      obtain ⟨i1, i2, i3, i4, i5⟩ := ih fun y hy => hl y (List.mem_cons_of_mem _ hy)
      have ok1 : okd true 1 (enP x.1) = true := okd_enP k1
      obtain ⟨a1, a2, a3⟩ := okd_parts 1 _ ok1
      obtain ⟨b1, b2, b3⟩ := okd_parts 3 _ k3
      have a4 := show_okd 1 _ ok1
      have b4 := show_okd 3 _ k3
      have a5 := leaves_okd 1 _ ok1
      have b5 := leaves_okd 3 _ k3
      have a6 : (enP x.1).py.weight ≤ 9 * x.1.length := weight_strs x.1 k1
      have e : mkP (x :: l) = (enP x.1, x.2) :: mkP l := rfl
      rw [e]
      simp only [D.pureK, D.pyK, PyData.showableKv, PyData.depthKv, PyData.leavesShortKv, PyData.weightKv, a1, b1, i1, a4, b4, i2, a5, b5, i4, Bool.and_self, true_and, List.length_cons]
      omega
  obtain ⟨g1, g2, g3, g4, g5⟩ := go ts fun x hx => ⟨kn x hx, (okP_iff.mp (h.key x.1 (List.mem_map_of_mem hx))).2.1, h.val x hx⟩
  have hl := h.len
  refine ⟨rfl, by rw [D.pure]; exact g1, by rw [D.py, PyData.showable]; exact g2, by rw [D.py, PyData.depth]; omega, ?_⟩
  have := PyData.shown_fits (B := 8) (by decide) (by decide) (d := (D.dic (mkP ts)).py) (by rw [D.py, PyData.leavesShort]; exact g4) (by rw [D.py, PyData.weight]; omega)
  rw [sizeL] at this
  exact this
/-! ### == of tables -/
theorem eqFit_mk {as bs : PD} {f : Bool} {n : Nat} (hn : n ≤ 60) (ha : ∀ x ∈ as, okd f n x.2 = true) (hb : ∀ x ∈ bs, okd f n x.2 = true) : eqFit (mkP as) (mkP bs) = true := by
  have t : ∀ l : PD, ((mkP l).all fun p => p.1.isTup) = true := fun l => by rw [mkP, List.all_map, List.all_eq_true]; exact fun _ _ => rfl
  have v : ∀ l : PD, (∀ x ∈ l, okd f n x.2 = true) → ((mkP l).all fun p => p.2.eqs) = true := fun l h => by
    rw [mkP, List.all_map, List.all_eq_true]
    exact fun x hx => okd_eqs (h x hx) hn
  unfold eqFit
  rw [t, t, v as ha, v bs hb]
  rfl
theorem eqv_mk {as bs : PD} {f : Bool} {n : Nat} (ha : ∀ x ∈ as, okd f n x.2 = true) (hl : as.length = bs.length) (hh : ∀ x ∈ as, bs.lookup x.1 = some x.2) : eqvD (mkP as) (mkP bs) = true := by
  unfold eqvD
  rw [mkP_len, mkP_len, hl, beq_self_eq_true, Bool.true_and, mkP, List.all_map, List.all_eq_true]
  intro x hx
  show hitD (mkP bs) (enP x.1, x.2) = true
  unfold hitD
  rw [findP, hh x hx]
  exact (eqv_iff n x.2 x.2 (ha x hx) (ha x hx)).mpr rfl
/-! ### a text that is shown has signs alone -/
theorem strOk_iff {x : Str} : PyData.strOk x = true ↔ ∀ c ∈ cod x, c < 0x110000 := by
  unfold PyData.strOk
  rw [Array.all_eq_true']
  simp only [decide_eq_true_eq, cod, Array.mem_toList_iff]
theorem strOk_app {x y : Str} (hx : PyData.strOk x = true) (hy : PyData.strOk y = true) : PyData.strOk (x ++ y) = true := by
  rw [strOk_iff] at hx hy ⊢
  intro c hc
  rw [cod_app] at hc
  rcases List.mem_append.mp hc with h | h
  · exact hx c h
  · exact hy c h
theorem strOk_join {s : Str} (hs : PyData.strOk s = true) : ∀ {xs : List Str}, (∀ x ∈ xs, PyData.strOk x = true) → PyData.strOk (Str.join s xs) = true
  | [], _ => by show PyData.strOk Str.empty = true; decide +kernel
  | [x], h => h x List.mem_cons_self
  | x :: y :: r, h => by
    show PyData.strOk (x ++ s ++ Str.join s (y :: r)) = true
    exact strOk_app (strOk_app (h x List.mem_cons_self) hs) (strOk_join hs fun z hz => h z (List.mem_cons_of_mem _ hz))
theorem char_lt (c : Char) : c.toNat < 0x110000 := by
  have h : c.toNat.isValidChar := c.valid
  rcases h with h | ⟨_, h⟩
  · exact Nat.lt_trans h (by decide)
  · exact h
theorem reprChar_ok {q c : Nat} (hc : c < 0x110000) : ∀ d ∈ Builtin.Str.reprChar q c, d < 0x110000 := by
  have hx : ∀ w : Nat, ∀ d ∈ List.replicate (w - ((Nat.toDigits 16 c).map Char.toNat).length) 48 ++ (Nat.toDigits 16 c).map Char.toNat, d < 0x110000 := fun w d hd => by
    rcases List.mem_append.mp hd with h | h
    · rw [(List.mem_replicate.mp h).2]; decide
    · obtain ⟨e, _, rfl⟩ := List.mem_map.mp h
      exact char_lt e
  intro d hd
  unfold Builtin.Str.reprChar at hd
  dsimp only at hd
  repeat' split at hd
  all_goals first
    | (simp only [List.mem_cons, List.not_mem_nil, or_false] at hd; omega)
    | (rcases List.mem_append.mp hd with h | h
       · (simp only [List.mem_cons, List.not_mem_nil, or_false] at h; omega)
       · exact hx _ d h)
theorem strOk_repr {x : Str} (h : PyData.strOk x = true) : PyData.strOk (reprText x) = true := by
  rw [strOk_iff] at h ⊢
  have go : ∀ (q : Nat) (l : List Nat) (acc : Array Nat), (∀ c ∈ l, c < 0x110000) → (∀ c ∈ acc.toList, c < 0x110000) → ∀ c ∈ (l.foldl (fun out c => out ++ (Builtin.Str.reprChar q c).toArray) acc).toList, c < 0x110000 := by
    intro q l
    induction l with
    | nil => intro acc _ ha; exact ha
    | cons a l ih =>
      intro acc hl ha
      refine ih _ (fun c hc => hl c (List.mem_cons_of_mem _ hc)) fun c hc => ?_
      rw [Array.toList_append] at hc
      rcases List.mem_append.mp hc with m | m
      · exact ha c m
      · exact reprChar_ok (hl a List.mem_cons_self) c (by simpa using m)
  have hq : reprQuote x < 0x110000 := by
    unfold reprQuote
    split <;> decide
  intro c hc
  unfold reprText at hc
  have hc : c ∈ ((x.cps.foldl (fun out c => out ++ (Builtin.Str.reprChar (reprQuote x) c).toArray) #[reprQuote x]).push (reprQuote x)).toList := hc
  rw [Array.toList_push, ← Array.foldl_toList] at hc
  rcases List.mem_append.mp hc with m | m
  · exact go _ _ _ h (fun d hd => by
      have : d = reprQuote x := by simpa using hd
      rw [this]; exact hq) c m
  · have : c = reprQuote x := by simpa using m
    rw [this]; exact hq
theorem strOk_list {ts : List Str} (h : ∀ t ∈ ts, PyData.strOk t = true) : PyData.strOk (listText ts) = true := by
  rw [listText_eq_join]
  exact strOk_app (strOk_app (by decide +kernel) (strOk_join (by decide +kernel) h)) (by decide +kernel)
theorem strOk_tuple {ts : List Str} (h : ∀ t ∈ ts, PyData.strOk t = true) : PyData.strOk (tupleText ts) = true := by
  unfold tupleText
  refine strOk_app (strOk_app (by decide +kernel) (strOk_join (by decide +kernel) h)) ?_
  split <;> decide +kernel
theorem strOk_dict {ts : List Str} (h : ∀ t ∈ ts, PyData.strOk t = true) : PyData.strOk (dictText ts) = true := by
  unfold dictText
  exact strOk_app (strOk_app (by decide +kernel) (strOk_join (by decide +kernel) h)) (by decide +kernel)
theorem shownA_mem : ∀ (l : List D) (t : Str), t ∈ PyData.shownAll (D.pyA l) → ∃ d ∈ l, t = d.py.shown
  | [], t, h => by simp [D.pyA, PyData.shownAll] at h
  | d :: l, t, h => by
    rw [D.pyA, PyData.shownAll] at h
    rcases List.mem_cons.mp h with e | m
    · exact ⟨d, List.mem_cons_self, e⟩
    · obtain ⟨e, he, e2⟩ := shownA_mem l t m
      exact ⟨e, List.mem_cons_of_mem _ he, e2⟩
theorem strOk_okd : ∀ (n : Nat) (d : D), okd true n d = true → PyData.strOk d.py.shown = true
  | n, .non, _ => by rw [D.py, PyData.shown]; decide +kernel
  | n, .bl b, _ => by rw [D.py, PyData.shown]; cases b <;> decide +kernel
  | n, .int _, h => by cases n <;> cases h
  | n, .str s, h => by
    have h : PyData.strOk s = true := by cases n <;> simpa [okd] using h
    rw [D.py, PyData.shown]
    exact strOk_repr h
  | n + 1, .tup xs, h => by
    have h : xs.all (okd true n) = true := h
    rw [List.all_eq_true] at h
    rw [D.py, PyData.shown]
    refine strOk_tuple fun t ht => ?_
    obtain ⟨d, hd, rfl⟩ := shownA_mem xs t ht
    exact strOk_okd n d (h d hd)
  | n + 1, .lst xs, h => by
    have h : xs.all (okd true n) = true := h
    rw [List.all_eq_true] at h
    rw [D.py, PyData.shown]
    refine strOk_list fun t ht => ?_
    obtain ⟨d, hd, rfl⟩ := shownA_mem xs t ht
    exact strOk_okd n d (h d hd)
  | 0, .tup _, h => by cases h
  | 0, .lst _, h => by cases h
  | 0, .dic _, h => by cases h
  | n + 1, .dic _, h => by cases h
  | 0, .ty _, h => by cases h
  | n + 1, .ty _, h => by cases h
  | 0, .obj _ _, h => by cases h
  | n + 1, .obj _ _, h => by cases h
  | 0, .ptr _, h => by cases h
  | n + 1, .ptr _, h => by cases h
  | 0, .exc _ _, h => by cases h
  | n + 1, .exc _ _, h => by cases h
  | 0, .scr _, h => by cases h
  | n + 1, .scr _, h => by cases h
theorem Small.text {ts : PD} (h : Small ts) : PyData.strOk (D.dic (mkP ts)).py.shown = true := by
  rw [D.py, PyData.shown]
  refine strOk_dict fun t ht => ?_
  have go : ∀ l : PD, (∀ x ∈ l, (∀ y ∈ x.1, okN y = true) ∧ okd true 3 x.2 = true) → ∀ t ∈ PyData.shownKv (D.pyK (mkP l)), PyData.strOk t = true := by
    intro l
    induction l with
    | nil => intro _ t ht; simp [mkP, D.pyK, PyData.shownKv] at ht
    | cons x l ih =>
      intro hl t ht
      have e : mkP (x :: l) = (enP x.1, x.2) :: mkP l := rfl
      rw [e, D.pyK, PyData.shownKv] at ht
      rcases List.mem_cons.mp ht with e2 | m
      · obtain ⟨k1, k2⟩ := hl x List.mem_cons_self
        rw [e2]
        exact strOk_app (strOk_app (strOk_okd 1 _ (okd_enP k1)) (by decide +kernel)) (strOk_okd 3 _ k2)
      · exact ih (fun y hy => hl y (List.mem_cons_of_mem _ hy)) t m
  exact go ts (fun x hx => ⟨(okP_iff.mp (h.key x.1 (List.mem_map_of_mem hx))).2.2, (h.val x hx).1⟩) t ht
end B
/-! BXc: exceptions: classes with an __init__ of their own over ValueError's, raised and as values; isinstance and fields of an exception that is held. -/
namespace PySem.W
open PySem PySem.Spec PySem.Calls PyProof.Rows
section
variable {prog : Program} {w : World} {A : Around} {E : Value → Shared → Prop} {s : Shared} {K : Frag} {x D : Addr} {ox : Obj} {od : Option Obj}
theorem findObj_dataO {C : Addr} {name : Str} {a g : Value} (hc : (clsIn K C).isSome = true) (ha : findIn K (.ref C) name = some (some a)) (hg : specialIn K a "__get__" = some (some g)) (ht : takesIn K a = some true) : findObj K C od name = some (.bind g a) := by
  obtain ⟨cd, hc⟩ := Option.isSome_iff_exists.mp hc
  unfold findObj
  rw [hc, Option.bind_some, ha, Option.bind_some]
  simp [hg, ht]
theorem kin_classO {Q : Option Value → Shared → Prop} (C : L2.ExcC K D)
    (X : K.In s.heap) (I : InstAt s.heap x ox D od) (h : Q (some (.ref D)) { s with toks := s.toks + 1 }) : wpAny (model prog w) A (getAttr? (.ref x) "__class__") Q E s := by
  obtain ⟨hga, hgt, hsub, hdct, ha, hn, htk, hm⟩ := C
  have hf : findObj K D od "__class__" = some (.bind (.builtin "getset_descriptor.__get__") (.builtin "object.__class__")) := findObj_dataO (by obtain ⟨cd, hc, _⟩ := any_some hdct; rw [hc]; rfl) ha hn htk
  obtain ⟨hp, g, d, t, os⟩ := s
  have L0 := I.type (M := model prog w)
  have L1 := looks_findIn (M := model prog w) X hga
  have L2 := looks_findIn (M := model prog w) X hgt
  have L3 := looks_find (M := model prog w) X I hf
  have sub : Looks (model prog w) hp (isInstance (.ref x) (.type "BaseException")) true := L0.andThen (looks_subIn X hsub)
  have hx0 : (false && onTheHeap (Value.builtin "BaseException.__getattribute__")) = false := rfl
  have hx2 : (Value.builtin "BaseException.__getattribute__" == Value.builtin "object.__getattribute__") = false := by decide +kernel
  have hx1 : (onTheHeap (Value.ref D) && Value.builtin "BaseException.__getattribute__" == Value.builtin "object.__getattribute__") = false := by rw [hx2]; rfl
  unfold getAttr? getAttrBy? getAttrBy
  refine wpAny_bind (wpAny_mkText (wpAny_bind (wpAny_attempt (wpAny_holding (wpAny_bind (L0.at (wpAny_bind (L1.at ?_))))))))
  show wpAny _ _ (if (onTheHeap (Value.ref D) && Value.builtin "BaseException.__getattribute__" == Value.builtin "object.__getattribute__") = true then _ else _) _ _ _
  rw [hx1, if_neg Bool.false_ne_true]
  unfold getAttrByItsOwn hookBefore
  refine wpAny_bind ?_
  rw [if_pos (show onTheHeap (Value.ref D) = true from rfl)]
  refine L2.at ?_
  refine wpAny_bind (wpAny_attempt (wpAny_holding ?_))
  unfold callGetattribute
  rw [hx0, if_neg Bool.false_ne_true]
  unfold boundAndCalled
  rw [PySem.F.excAttr_ValueError.ga.bind (.ref x)]
  refine wpAny_bind (wpAny_pure ?_)
  show wpAny _ _ (call (.builtin "BaseException.__getattribute__") [.ref x, .str "__class__" t]) _ _ _
  refine wpAny_call (codeAny_call_builtin PySem.F.excAttr_ValueError.ga.plain PySem.F.entry_bexc_ga ?_)
  refine @check_slot (model prog w) _ _ ⟨hp, g, d, t + 1, os⟩ "BaseException.__getattribute__" "BaseException" "__getattribute__" (.ref x) [.str "__class__" t] [] _ (by decide +kernel) (by decide +kernel) sub (PySem.F.args_bexc_ga (.ref x) (.str "__class__" t)) ?_
  unfold Builtin.«object.__getattribute__»
  refine wpAny_bind (wpAny_of_eq (a := ((Value.ref x : Value), [Value.str "__class__" t])) (by first | rfl | (simp only [slotArgs]; rfl)) ?_)
  refine wpAny_bind (wpAny_pure (wpAny_bind (L0.at (wpAny_bind (L3.at ?_)))))
  show wpAny _ _ (holding [Value.builtin "object.__class__"] (call (.builtin "getset_descriptor.__get__") [.builtin "object.__class__", .ref x, .ref D]) >>= ret) _ _ _
  refine wpAny_bind (wpAny_holding (wpAny_call (class_get (s := ⟨hp, g, d, t + 1, os⟩) (ox := ox) (od := od) X I hm ?_)))
  refine wpAny_pure ?_
  show wpAny _ _ (handedOut (.ref D)) _ _ _
  rw [handedOut_of (v := .ref D) rfl]
  first
    | exact wpAny_pure (wpAny_pure h)
    | exact wpAny_pure h
    | exact wpAny_pure (wpAny_bind (wpAny_pure (wpAny_pure h)))
theorem kitx_excO (C : L2.ExcC K D) : KitX K (.ref x) (.ref D) (fun h => ∃ ox od, InstAt h x ox D od) where
  ty := fun _ _ _ ⟨_, _, I⟩ => I.type
  it := fun _ _ X _ => by
    obtain ⟨cdD, hcD, _⟩ := any_some C.hd
    unfold clsIn at hcD
    split at hcD
    · rename_i c' d' cd' sl' ho
      intro A' Q' E' s' k q
      unfold isType loadHead
      exact wpAny_bind (wpAny_loadPart (k _ _ (X _ _ ho)) (wpAny_pure q))
    · cases hcD
  ne := fun h tp dd its n sl X htp => by
    obtain ⟨cdD, hcD, _⟩ := any_some C.hd
    refine Bool.eq_false_iff.mpr fun q => ?_
    have e : D = tp := Value.ref.inj (beq_iff_eq.mp q)
    subst e
    unfold clsIn at hcD
    split at hcD
    · rename_i c' d' cd' sl' ho
      have z := (X _ _ ho).symm.trans htp
      cases z
    · cases hcD
  ca := fun X ⟨_, _, I⟩ k => kin_classO C X I k
end
end PySem.W
namespace B
open PySem PySem.Spec PyProof.Rows L2
/-! ### S.__init__(self, ..) of a class S of the text whose __init__ is ValueError's -/
structure SInit (K : PySem.W.Frag) (S : Addr) : Prop where
  rd : PySem.W.readsIn K S (.type "type") = true
  sp : PySem.W.specialIn K (.ref S) "__getattribute__" = some (some (.builtin "type.__getattribute__"))
  fc : PySem.W.findCls K (.ref S) (.type "type") "__init__" = some (.val (.builtin "ValueError.__init__"))
section
variable {X : Cx} {e : Expr} {es : List Expr} {ta : TA} {p1 p2 pos : Pos}
theorem pe_sinit {x : Str} {S : Addr} {pl : Sem Bool} (hg : Gl X x) (hm : X.mg x = some (.ref S)) (T : SInit X.K S) (ha : PA X (e :: es) ta) (hdb : (x == ("__debug__" : Str)) = false := by decide)
    (hc : eval (.Call (.Attribute (.Name x p1) "__init__" p2) (e :: es) [] pos) X.env = (do
      let ov ← eval (.Name x p1) X.env
      standAt p2.atName
      let (f, first) ← holding [ov] (getMethod ov "__init__" pl)
      callWith pos f first (backTo pos (starEach (e :: es) X.env)) (backToKw pos (keywordEach [] X.env))) := by rfl)
    (he : starEach (e :: es) X.env = (false, eval e X.env) :: starEach es X.env := by rfl) (hpl : (backTo pos (starEach es X.env)).any (·.1) = false := by rfl) :
    PE X (.Call (.Attribute (.Name x p1) "__init__" p2) (e :: es) [] pos) (tVeI X.K ta) := by
  refine ⟨fun pins s σ H Q I h => ?_⟩
  refine PySem.W.methodCall_KW (ld_glob I hg hm ?_ hdb) hc
  refine PySem.W.method_cls I.kIn T.sp (PySem.W.cls_value I.kIn T.rd T.fc (by decide +kernel) ?_)
  show wpAny _ _ (callWith pos (Value.builtin "ValueError.__init__") [] (backTo pos (starEach (e :: es) X.env)) []) _ _ _
  refine PyProof.Rows.callWith_method1 (thn (ha.run pos pins _ σ H _ (I.tok _) h) fun us s1 ⟨vs, H1, I1, r1, a, C, ws, ev, hl, T, ea, q⟩ => ?_) he hpl
  subst ev
  cases r1 with
  | @cons _ u0 _ ur ra rw' =>
    obtain rfl : u0 = Value.ref a := ra
    have hlen : ur.length ≤ sizeLine := by
      rw [← Paired.length rw', sizeLine_eq]
      omega
    exact oinit_ok T I1 ea hlen fun s' J => ⟨.non, H1, J, rfl, q⟩
end
/-- what such an __init__ does: the field f is set to what is passed -/
def spXI (K : PySem.W.Frag) (f : Str) : Sp := fun vs H Q _ => ∃ (a C : Addr) (v : V), vs = [.ref a, v] ∧ OexC K C ∧ PySem.W.findIn K (.ref C) f = some none ∧ H a = some (exo a C none) ∧
  ∀ dx, H dx = none → dx ≠ a → Q .non (upd (upd H dx (exd dx [(f, v)])) a (exo a C (some dx)))
def HasX (P : Program) (w : World) (K : PySem.W.Frag) (mg : Str → Option Value) (base : Heap) (d : He.DefD) (ps : List Str) (f : Str) : Prop :=
  ∃ fd, FunD K d.name d.qual d.params d.body d.scope (d.dvs K) (d.kws K) (He.fAd K d.at_) fd ∧ FnOk P w K mg base (L2.CX P w) 1 (He.fAd K d.at_) fd ps (spXI K f)
def tXI (K : PySem.W.Frag) (m f : Str) : TS := tSeq (tDrop (tVeI K (tCons (tVar 0) (tCons (tC (.str m)) tNil)))) (tOst K f (tVar 0) (tVar 1))
section
variable {P : Program} {w : World} {K : PySem.W.Frag} {mg : Str → Option Value} {base : Heap}
theorem hasX {d : He.DefD} {N : List Str} {m f : Str} (F : ∃ fd, FunD K d.name d.qual d.params d.body d.scope (d.dvs K) (d.kws K) (He.fAd K d.at_) fd) (S : FnScope N N d.scope) (hN : N.length = 2)
    (hb : ∀ (cdv : Value) (A : Around) (outer : List Env) (s : Shared) (H : Hp) (E : XK), PSs (cxOf (L2.CX P w) P w K mg base N d.qual d.scope (He.fAd K d.at_) cdv A outer s H E) d.body (tXI K m f)) :
    HasX P w K mg base d N f := by
  obtain ⟨fd, F⟩ := F
  refine ⟨fd, F, FunD.ok F S (fun vs H Q E ⟨a, C, v, e, _⟩ => by rw [e, hN]; rfl) fun cdv A outer s H vs Q E hr ⟨a, C, v, e, T, hno, ha, q⟩ => ⟨_, hb cdv A outer s H E, ?_⟩⟩
  subst e
  have e0 : L2.start N [V.ref a, v] = [some (.ref a), some v] := by unfold L2.start; rw [hN]; rfl
  rw [e0]
  refine ⟨.ref a, rfl, a, C, [.str m], rfl, by simp, T, ha, ?_⟩
  refine ⟨v, rfl, .ref a, rfl, a, C, rfl, T, hno, .inl ⟨ha, fun dx h1 h2 => q dx h1 h2⟩⟩
end
/-! ### such an exception is made -/
/-- what the head tells of the class x of an exception with the field f -/
structure XCls (K : PySem.W.Frag) (C fI : Addr) (f : Str) : Prop where
  oex : OexC K C
  ini : PySem.W.findIn K (.ref C) "__init__" = some (some (.ref fI))
  ity : PySem.W.typeIn K (.ref fI) = some (.type "function")
  no : PySem.W.findIn K (.ref C) f = some none
section
variable {X : Cx} {pins : List (Addr × Obj)} {σ : L2.St} {H1 : Hp} {s1 : Shared}
theorem xmake {C fI : Addr} {fd : FuncData} {ps : List Str} {f : Str} {u : Value} {v : V} {Q : Value → Shared → Prop} (T : XCls X.K C fI f) (F1 : FnOk X.prog X.w X.K X.mg X.base (L2.CX X.prog X.w) 1 fI fd ps (spXI X.K f)) (hb : Binds X.K fd ps []) (hl : ps.length = 2) (hr : Room 2 X.A)
    (I1 : Inv X pins σ H1 s1) (ru : RelV v u)
    (h : ∀ a dx s', H1 a = none → H1 dx = none → dx ≠ a → Inv X pins σ (upd (upd H1 dx (exd dx [(f, v)])) a (exo a C (some dx))) s' → Q (.ref a) s') : wpAny (model X.prog X.w) X.A (call (.ref C) [u]) Q X.xe s1 := by
  obtain ⟨nm, q, N, bs, bm, sn, sub, ab, col, dd, k0, k1, k2, k3, k5, hC, hbm⟩ := T.oex.cls
  obtain ⟨hp, g, dr, tk, os⟩ := s1
  have hsz : hp.objs.size ≤ hp.objs.size + 1 := Nat.le_succ _
  have hn : H1 (hp.objs.size + 1) = none := I1.hok.fresh hsz
  have kk : ∀ b o, hp.get? b = some o → ((hp.push (PySem.W.kdv_tup [u])).push (PySem.HandSPX.excO C hp.objs.size)).get? b = some o := fun b o e => Heap.get?_push_of_some _ (Heap.get?_push_of_some _ e)
  have hget : ((hp.push (PySem.W.kdv_tup [u])).push (PySem.HandSPX.excO C hp.objs.size)).get? (hp.objs.size + 1) = some (PySem.HandSPX.excO C hp.objs.size) := by heap_get
  have I2 : Inv X pins σ (upd H1 (hp.objs.size + 1) (exo (hp.objs.size + 1) C none)) ⟨(hp.push (PySem.W.kdv_tup [u])).push (PySem.HandSPX.excO C hp.objs.size), g, dr, tk, os⟩ :=
    I1.laid (t' := tk) (a := hp.objs.size + 1) (o := exo (hp.objs.size + 1) C none) (h' := (hp.push (PySem.W.kdv_tup [u])).push (PySem.HandSPX.excO C hp.objs.size)) kk hsz (exo_ok hget)
  have r2 : Vals [V.ref (hp.objs.size + 1), v] [Value.ref (hp.objs.size + 1), u] := .cons rfl (.cons ru .nil)
  refine wpAny_call (PySem.HandSPX.call_own F.excBase_ValueError (fun Y => PySem.HandSPX.refsVE_contains Y bm hbm) (I1.kIn _ _ hC) (PySem.W.looks_findIn I1.kIn T.ini) (fun self => PySem.W.bind_fn I1.kIn self T.ity) (by rw [sizeLine_eq]; simp)
    (codeAny_mono (F1.run _ X.stack _ _ ⟨[Value.ref (hp.objs.size + 1), u], []⟩ [Value.ref (hp.objs.size + 1), u] _ (fun v' H2 => v' = .non ∧ ∃ dx, H1 dx = none ∧ dx ≠ hp.objs.size + 1 ∧ H2 = upd (upd H1 dx (exd dx [(f, v)])) (hp.objs.size + 1) (exo (hp.objs.size + 1) C (some dx))) (fun _ _ _ => False) ((hr.make C [u] []).mono (Nat.le_refl 1)) (I2.env0.make C [u] []) (hb _ [Value.ref (hp.objs.size + 1), u] I2.kIn (by rw [hl]; rfl)) r2 ?_) fun r s' hq' => ?_))
  · refine ⟨hp.objs.size + 1, C, v, rfl, T.oex, T.no, upd_same, fun dx h1 h2 => ⟨rfl, dx, by rw [upd_ne h2] at h1; exact h1, h2, ?_⟩⟩
    funext b
    unfold upd
    split <;> rfl
  · cases r with
    | error er => exact passL pins σ _ _ er s' I2 hq'
    | ok fl =>
      cases fl with
      | ret u' =>
        obtain ⟨v', H2, I3, rv, ev, dx, h1, h2, eH⟩ := I2.after hq'
        subst ev
        subst eH
        exact ⟨rv, h _ dx s' hn h1 h2 I3⟩
      | next => exact False.elim hq'
      | brk => exact False.elim hq'
      | cont => exact False.elim hq'
end
end B
/-! BXd: exceptions over data: raise C(e), C(e) as a value, isinstance(x, C), x.f. -/
namespace B
open PySem PySem.Spec PyProof.Rows L2
section
variable {L : Lb} {N : Nh} {F H : Hp} {E : En} {σ : L2.St}
/-- a new object is frozen at once -/
theorem Ok.newF {p : Addr} {o : HO} (ok : Ok L N F E σ H) (hp : H p = none) : Ok L N (upd F p o) E σ (upd H p o) ∧ Same F (upd F p o) := by
  have nF : F p = none := by
    cases q : F p with
    | none => rfl
    | some y => have := ok.sub p y q; rw [hp] at this; cases this
  have sF : Same F (upd F p o) := same_upd nF
  refine ⟨ok.ext (same_upd hp) sF (fun a u h => ?_) fun a h1 h2 => ?_, sF⟩
  · by_cases q : a = p
    · subst q; rw [upd_same] at h ⊢; exact h
    · rw [upd_ne q] at h ⊢; exact ok.sub a u h
  · by_cases q : a = p
    · subst q; exact hp
    · rw [upd_ne q] at h2; exact absurd h1 h2
theorem repF_one {f : Str} {d : D} {v : V} (h : Rep L F d v) : RepF L F [(f, d)] [(f, v)] := by
  rw [RepF]
  exact ⟨v, [], rfl, h, by rw [RepF]⟩
end
section
variable {X : Cx} {pins : List (Addr × Obj)} {σ : L2.St} {H : Hp} {s : Shared}
theorem Inv.recast {a : Addr} {o : HO} {φ : Heap → Prop} (I : Inv X pins σ H s) (h : H a = some (.ext φ)) (new : ObjOk X.prog X.w (upd H a o) s.heap a o) : Inv X pins σ (upd H a o) s := by
  obtain ⟨_, ⟨ob, ho⟩, _⟩ := I.hok a _ h
  obtain ⟨hp, g, d, t, os⟩ := s
  exact I.write (t' := t) (x := a) (e := a) (o := o) (by rw [h]; exact True.intro) (.inl rfl) (fun _ _ _ z => z) ⟨_, ho⟩ new
theorem exk_ok {P : Program} {w : World} {H : Hp} {h : Heap} {a : Addr} {cls : Value} {d : Option Addr} {oe : Obj} {vs : Array Value} (e : h.get? a = some oe) (z : Zc cls d oe) (hd : oe.data = .fields vs) : ObjOk P w H h a (exk a cls d) :=
  ⟨⟨oe, vs, e, z, hd⟩, ⟨_, e⟩, fun h1 h2 ⟨o, us, q1, q2, q3⟩ k => ⟨o, us, k _ q1, q2, q3⟩⟩
theorem exk_at {P : Program} {w : World} {H : Hp} {h : Heap} {a : Addr} {cls : Value} {d : Option Addr} (hok : HOk P w H h) (e : H a = some (exk a cls d)) : ∃ (oe : Obj) (vs : Array Value), h.get? a = some oe ∧ Zc cls d oe ∧ oe.data = .fields vs :=
  (hok a _ e).1
/-- a new exception with its dict as frozen things -/
theorem Inv.cool {a dx C : Addr} {f : Str} {v : V} (I : Inv X pins σ (upd (upd H dx (exd dx [(f, v)])) a (exo a C (some dx))) s) (hne : dx ≠ a) : Inv X pins σ (upd (upd H dx (.xd [(f, v)])) a (exk a (.ref C) (some dx))) s := by
  have e1 : (upd (upd H dx (exd dx [(f, v)])) a (exo a C (some dx))) dx = some (exd dx [(f, v)]) := by rw [upd_ne hne, upd_same]
  have J := Inv.recast (o := .xd [(f, v)]) I e1 (by
    obtain ⟨mA, h1, h2⟩ := exd_at I.hok e1
    exact ⟨mA, h1, h2⟩)
  have e2 : (upd (upd (upd H dx (exd dx [(f, v)])) a (exo a C (some dx))) dx (.xd [(f, v)])) a = some (exo a C (some dx)) := by rw [upd_ne (Ne.symm hne), upd_same]
  have J2 := Inv.recast (o := exk a (.ref C) (some dx)) J e2 (by
    obtain ⟨t1, h1⟩ := exo_at J.hok e2
    exact exk_ok h1 ⟨rfl, rfl⟩ rfl)
  have e3 : upd (upd (upd (upd H dx (exd dx [(f, v)])) a (exo a C (some dx))) dx (.xd [(f, v)])) a (exk a (.ref C) (some dx)) = upd (upd H dx (.xd [(f, v)])) a (exk a (.ref C) (some dx)) := by
    funext b
    by_cases h1 : b = a
    · rw [h1, upd_same, upd_same]
    · by_cases h2 : b = dx
      · rw [upd_ne h1, upd_ne h1, h2, upd_same, upd_same]
      · rw [upd_ne h1, upd_ne h2, upd_ne h1, upd_ne h2, upd_ne h1, upd_ne h2]
  rw [e3] at J2
  exact J2
end
section
variable {b : Bx} {Nm : List Str} {tb : List (Nat × Str)} {gl : List Str} {k : Nat} {fI : Addr} {fd : FuncData} {ps : List Str} {x c f : Str} {p pos pos' : Pos} {e : Expr} {t : BO}
/-- raise C(e) -/
def bRaise (c f : Str) (t : BO) : BS := fun _ X E => t E (fun d E' => X ⟨c, [(f, d)]⟩ E') X
theorem bs_raise (g : Gd b Nm tb gl k) (hk : 2 ≤ k) (T : XCls b.X.K (b.cl c) fI f) (F1 : FnOk b.X.prog b.X.w b.X.K b.X.mg b.X.base (L2.CX b.X.prog b.X.w) 1 fI fd ps (spXI b.X.K f)) (hb : Binds b.X.K fd ps []) (exC : PySem.W.subIn b.X.K (.ref (b.cl c)) (.type "BaseException") = some true)
    (hg : Gl b.X x) (hm : b.X.mg x = some (.ref (b.cl c))) (ha : BV b e t) (hdb : (x == ("__debug__" : Str)) = false := by decide) (he : starEach [e] b.X.env = (false, eval e b.X.env) :: starEach [] b.X.env := by rfl) :
    BSt b (.Raise (some (.Call (.Name x p) [e] [] pos)) none pos') (bRaise c f t) :=
  ps_weak (ps_raise g.calm g.tk (pmk_oex T.oex T.ini T.ity F1 (g.rm.mono hk) hb .nil passL hg hm (ba_cons ha ba_nil he) hdb he rfl)) fun D σ H ⟨N, F, E, DB, XB, ok, ht, h1, h2, h3, h4, hX⟩ =>
    ⟨N, F, E, fun ds E' => match ds with | [d] => XB ⟨c, [(f, d)]⟩ E' | _ => False, XB, ok, ht, fun F' E' ds vs H1 sF ok1 rp q => by
      match ds, q with
      | [d], q =>
        rw [RepA] at rp
        obtain ⟨v, r, e1, rv, rr⟩ := rp
        rw [RepA] at rr
        subst rr
        subst e1
        refine ⟨by simp, fun a ha => ⟨a, b.cl c, v, rfl, T.oex, T.no, upd_same, fun dx n1 n2 => ⟨rfl, dx, [(f, v)], upd_same, by rw [upd_ne n2, upd_same], by rw [upd_ne n2] at n1; exact n1, ?_⟩⟩⟩
        rw [upd_ne n2] at n1
        have eH : upd (del (upd (upd (upd H1 a (exo a (b.cl c) none)) dx (exd dx [(f, v)])) a (exo a (b.cl c) (some dx))) a) dx (.xd [(f, v)]) = upd H1 dx (.xd [(f, v)]) := by
          funext y
          by_cases e1 : y = dx
          · rw [e1, upd_same, upd_same]
          · rw [upd_ne e1, upd_ne e1]
            by_cases e2 : y = a
            · rw [e2, del_same, ha]
            · rw [del_ne e2, upd_ne e2, upd_ne e1, upd_ne e2]
        rw [eH]
        obtain ⟨ok2, s2⟩ := ok1.newF (o := .xd [(f, v)]) n1
        exact hX (upd F' dx (.xd [(f, v)])) E' ⟨c, [(f, d)]⟩ (.ref (b.cl c)) (some dx) σ (upd H1 dx (.xd [(f, v)])) (sF.trans s2) ok2 ⟨rfl, .inr ⟨dx, _, rfl, upd_same, repF_one (Rep.mono s2 d v rv)⟩⟩ q, hX⟩
/-- C(e) as a value -/
def bXv (c f : Str) (t : BO) : BO := fun E Q X => t E (fun d E' => Q (.exc c [(f, d)]) E') X
theorem bv_xval (g : Gd b Nm tb gl k) (hk : 2 ≤ k) (T : XCls b.X.K (b.cl c) fI f) (F1 : FnOk b.X.prog b.X.w b.X.K b.X.mg b.X.base (L2.CX b.X.prog b.X.w) 1 fI fd ps (spXI b.X.K f)) (hb : Binds b.X.K fd ps []) (hl : ps.length = 2)
    (hg : Gl b.X x) (hm : b.X.mg x = some (.ref (b.cl c))) (ha : BV b e t) (hdb : (x == ("__debug__" : Str)) = false := by decide) (he : starEach [e] b.X.env = (false, eval e b.X.env) :: starEach [] b.X.env := by rfl) :
    BV b (.Call (.Name x p) [e] [] pos) (bXv c f t) := by
  refine ⟨fun pins s σ H Q I ⟨N, F, E, QB, XB, ok, ht, hQ, hX⟩ => ?_⟩
  refine wpAny_Call_Name_kw (ld_glob I hg hm ?_ hdb)
  refine PySem.W.callWith_K (h₀ := b.X.base) I.ok.mod.kin T.oex.kC (thn (BAs.runB (QB := fun ds E' => match ds with | [d] => QB (.exc c [(f, d)]) E' | _ => False) (ba_cons ha ba_nil he) I ok ht hX) fun us s1 ⟨vs, H1, F', E', ds, I1, r, s', ok', rp, q⟩ => ⟨I1.kIn, ?_⟩) he rfl
  match ds, q with
  | [d], q =>
    rw [RepA] at rp
    obtain ⟨v, r', e1, rv, rr⟩ := rp
    rw [RepA] at rr
    subst rr
    subst e1
    cases r with
    | cons ru rn =>
      cases rn
      refine xmake T F1 hb hl (g.rm.mono hk) I1 ru fun a dx s2 n1 n2 ne J => ⟨.ref a, _, Inv.cool J ne, rfl, ?_⟩
      obtain ⟨ok2, s2⟩ := ok'.newF (o := .xd [(f, v)]) n2
      obtain ⟨ok3, s3⟩ := ok2.newF (p := a) (o := exk a (.ref (b.cl c)) (some dx)) (by rw [upd_ne (Ne.symm ne)]; exact n1)
      refine hQ _ E' _ _ _ ((s'.trans s2).trans s3) ok3 ?_ q
      rw [Rep]
      exact ⟨a, some dx, rfl, upd_same, .inr ⟨dx, _, rfl, by rw [upd_ne ne, upd_same], repF_one (Rep.mono s3 d v (Rep.mono s2 d v rv))⟩⟩
/-- .. of a class without an __init__ of its own -/
def bXv0 (c : Str) (t : BO) : BO := fun E Q X => t E (fun _ E' => Q (.exc c []) E') X
theorem bv_xval0 {bmB : List Value} {BB newId initId : String} (FB : ExcBaseFacts BB newId initId bmB) (q : PySem.W.excIn b.X.K (b.cl c) bmB newId = true) (kC : PySem.W.keepIn b.X.K (.ref (b.cl c)) = true)
    (hg : Gl b.X x) (hm : b.X.mg x = some (.ref (b.cl c))) (ha : BV b e t) (hdb : (x == ("__debug__" : Str)) = false := by decide) (he : starEach [e] b.X.env = (false, eval e b.X.env) :: starEach [] b.X.env := by rfl) :
    BV b (.Call (.Name x p) [e] [] pos) (bXv0 c t) := by
  refine ⟨fun pins s σ H Q I ⟨N, F, E, QB, XB, ok, ht, hQ, hX⟩ => ?_⟩
  refine wpAny_Call_Name_kw (ld_glob I hg hm ?_ hdb)
  refine PySem.W.callWith_K (h₀ := b.X.base) I.ok.mod.kin kC ?_ he (by rfl)
  rw [he]
  show wpAny _ _ (spliced ((false, eval e b.X.env) :: backTo pos (starEach [] b.X.env))) _ _ s
  refine Calls.spliced_cons (thn (BV.runB ha I ok ht hX) fun u s1 ⟨v, H1, F', E', d, I1, r1, s', ok', rv, q1⟩ => ?_)
  refine Calls.spliced_nil ⟨I1.kIn, ?_⟩
  show wpAny _ _ (call (.ref (b.cl c)) [u]) _ _ _
  obtain ⟨bm, Nn, nm, qn, bs, hdct, sn, sub, ab, col, dd, k0, k1, k2, k3, k5, mN, hC, hN, hni, T⟩ := exc_obj I1.kIn q
  refine wpAny_call_exc_subT FB T hC hN hni (fun h' a hm => ?_) (by show 1 ≤ sizeLine; rw [sizeLine_eq]; omega)
  have hn : H1 a = none := I1.hok.gone hm.new
  obtain ⟨t, ht, _, _⟩ := hm.there
  have J := I1.un (t' := s1.toks) (H' := upd H1 a (exk a (.ref (b.cl c)) none)) ⟨fun b o e _ _ _ => hm.keeps b o e, fun b o e _ _ _ => ⟨o.slots, hm.keeps b o e⟩, fun b o e n _ => by rw [upd_ne (fun z => by rw [z, hm.new] at e; cases e)]; exact n, fun b o e _ => ⟨o, hm.keeps b o e⟩,
    fun b xs e => by rw [upd_ne (ne_of_none e hn)]; exact e, fun b o u e => by rw [upd_ne (ne_of_none e hn)]; exact e, fun b ps e => ⟨#[], by rw [upd_ne (ne_of_none e hn), e]; simp⟩⟩ (fun b u e => by
      by_cases hb : b = a
      · subst hb; rw [upd_same] at e; cases e; exact exk_ok ht ⟨rfl, rfl⟩ rfl
      · rw [upd_ne hb] at e
        exact (I1.hok b u e).stay (fun c v _ q => hm.keeps c v q) (fun c q => by rw [upd_ne (ne_of_none q hn)]; exact q) fun c xs q => by rw [upd_ne (ne_of_none q hn)]; exact q)
  obtain ⟨ok2, s2⟩ := ok'.newF (o := exk a (.ref (b.cl c)) none) hn
  refine ⟨.ref a, _, J, rfl, hQ _ E' _ _ _ (s'.trans s2) ok2 ?_ q1⟩
  rw [Rep]
  exact ⟨a, none, rfl, upd_same, .inl ⟨rfl, rfl⟩⟩
/-- raise C(e), C without an __init__ of its own -/
def bRaise0 (c : Str) (t : BO) : BS := fun _ X E => t E (fun _ E' => X ⟨c, []⟩ E') X
theorem bs_raise0 {bmB : List Value} {BB newId initId : String} (FB : ExcBaseFacts BB newId initId bmB) (g : Gd b Nm tb gl k) (q : PySem.W.excIn b.X.K (b.cl c) bmB newId = true) (kC : PySem.W.keepIn b.X.K (.ref (b.cl c)) = true) (exC : PySem.W.subIn b.X.K (.ref (b.cl c)) (.type "BaseException") = some true) (tyC : PySem.W.typeIn b.X.K (.ref (b.cl c)) = some (.type "type"))
    (hg : Gl b.X x) (hm : b.X.mg x = some (.ref (b.cl c))) (ha : BV b e t) (hdb : (x == ("__debug__" : Str)) = false := by decide) (he : starEach [e] b.X.env = (false, eval e b.X.env) :: starEach [] b.X.env := by rfl) :
    BSt b (.Raise (some (.Call (.Name x p) [e] [] pos)) none pos') (bRaise0 c t) :=
  ps_weak (ps_raise g.calm g.tk (SkE.pmk_own1 FB q hm kC (raises_own exC tyC) hg ha he hdb)) fun D σ H ⟨N, F, E, DB, XB, ok, ht, h1, h2, h3, h4, hX⟩ =>
    ⟨N, F, E, _, XB, ok, ht, fun F' E' d v H1 sF ok1 rv q => hX F' E' ⟨c, []⟩ (.ref (b.cl c)) none σ H1 sF ok1 ⟨rfl, .inl ⟨rfl, rfl⟩⟩ q, hX⟩
/-! ### isinstance(x, C), x an exception -/
def rIsX (K : PySem.W.Frag) (cv : Value) : List V → Hp → VK → Prop := fun xs H Q => ∃ (a C : Addr) (tv : V) (d : Option Addr) (k : Bool), xs = [.ref a, tv] ∧ (∀ u, RelV tv u → u = cv) ∧ H a = some (exk a (.ref C) d) ∧ (∀ dx, d = some dx → ∃ ws, H dx = some (.xd ws)) ∧ ExcC K C ∧
  PySem.W.kitOne K (.ref C) cv = some k ∧ Q (.bl k) H
theorem instX {X : Cx} {pins : List (Addr × Obj)} {σ : L2.St} {H : Hp} {s : Shared} {a C : Addr} {d : Option Addr} (I : Inv X pins σ H s) (ha : H a = some (exk a (.ref C) d)) (hd : ∀ dx, d = some dx → ∃ ws, H dx = some (.xd ws)) :
    ∃ ox od, PySem.W.InstAt s.heap a ox C od := by
  obtain ⟨oe, vs, e1, ⟨z1, z2⟩, e3⟩ := exk_at I.hok ha
  cases d with
  | none => exact ⟨oe, none, e1, z1, by unfold PySem.W.notCls; rw [e3] <;> rfl, by rw [z2]; exact True.intro⟩
  | some dx =>
    obtain ⟨ws, hw⟩ := hd dx rfl
    obtain ⟨mA, hns, _⟩ := I.hok dx _ hw
    obtain ⟨od, ho, _⟩ := lookIn_ns hns
    exact ⟨oe, some od, e1, z1, by unfold PySem.W.notCls; rw [e3] <;> rfl, by rw [z2]; exact ho⟩
theorem call_isX {X : Cx} {cv : Value} : CallR X (.builtin "isinstance") (rIsX X.K cv) := by
  intro pins s σ H xs us Q I r ⟨a, C, tv, d, k, e, hcv, ha, hd, T, hk, q⟩
  subst e
  obtain ⟨u1, u2, rfl, r1, r2⟩ := vals2 r
  obtain rfl : u1 = Value.ref a := r1
  obtain rfl := hcv _ r2
  exact PySem.W.kia_one (PySem.W.kitx_excO T) I.kIn (instX I ha hd) hk (fun z => nomatch z) fun tk => ⟨.bl k, H, I.kept (t' := tk) fun _ _ z => z, rfl, q⟩
def bIsX (cat : Str → Option Bool) (t : BO) : BT := fun E Q X => t E (fun d E' => match d with
  | .exc c _ => (match cat c with
    | some k => Q (.fr (.bl k)) E'
    | none => False)
  | _ => False) X
theorem rep_exc_at {L : Lb} {F H : Hp} {c : Str} {fs : List (Str × D)} {v : V} (s : Same F H) (r : Rep L F (.exc c fs) v) : ∃ (a : Addr) (d : Option Addr), v = .ref a ∧ H a = some (exk a (.ref (L.cl c)) d) ∧ (∀ dx, d = some dx → ∃ ws, H dx = some (.xd ws)) ∧ ((d = none ∧ fs = []) ∨ ∃ dx ws, d = some dx ∧ F dx = some (.xd ws) ∧ RepF L F fs ws) := by
  rw [Rep] at r
  obtain ⟨a, d, e, h, q⟩ := r
  refine ⟨a, d, e, s _ _ h, fun dx ed => ?_, q⟩
  rcases q with ⟨q1, _⟩ | ⟨dy, ws, q1, q2, _⟩
  · rw [ed] at q1; cases q1
  · rw [ed] at q1
    cases q1
    exact ⟨ws, s _ _ q2⟩
theorem be_isx {cat : Str → Option Bool} {ce : Expr} {tv : V} {cv : Value} (hg : Gl b.X "isinstance") (hm : b.X.mg "isinstance" = none) (hT : PE b.X ce (tC tv)) (hcv : ∀ u, RelV tv u → u = cv)
    (hcat : ∀ c k, cat c = some k → ExcC b.X.K (b.cl c) ∧ PySem.W.kitOne b.X.K (.ref (b.cl c)) cv = some k) (ha : BOp b e t)
    (h1 : starEach [e, ce] b.X.env = (false, eval e b.X.env) :: starEach [ce] b.X.env := by rfl)
    (h2 : starEach [ce] b.X.env = (false, eval ce b.X.env) :: starEach [] b.X.env := by rfl) (hpl : (backTo pos (starEach [ce] b.X.env)).any (·.1) = false := by rfl) : BE b (.Call (.Name "isinstance" p) [e, ce] [] pos) (bIsX cat t) :=
  pe_weak (pe_callB (call_isX (cv := cv)) hg hm PyProof.Rows.boot_isinstance (pa_cons ha (pa_cons hT pa_nil h2) h1) (by decide) (by decide) h1 hpl) fun σ H Q ⟨N, F, E, QB, XB, ok, ht, hQ, hX⟩ =>
    ⟨N, F, E, _, XB, ok, ht, fun F1 E1 d v H1 s1 ok1 r1 q1 => by
      cases d with
      | exc c fs =>
        have q1 : (match cat c with
          | some k => QB (.fr (.bl k)) E1
          | none => False) := q1
        cases ec : cat c with
        | none => rw [ec] at q1; exact q1.elim
        | some k =>
          rw [ec] at q1
          obtain ⟨T, hk⟩ := hcat c k ec
          have r1 : Rep b.lb F1 (.exc c fs) v := r1
          obtain ⟨a, dd, rfl, h1, h2, _⟩ := rep_exc_at ok1.sub r1
          exact ⟨a, b.cl c, tv, dd, k, rfl, hcv, h1, h2, T, hk, hQ F1 E1 _ _ H1 s1 (ok1.push rep_bl) q1⟩
      | _ => exact q1.elim, hX⟩
/-- x.f, x an exception -/
def bXf (okc : Str → Bool) (fl : Str) (t : BO) : BO := fun E Q X => t E (fun d E' => match d with
  | .exc c fs => okc c = true ∧ (match fs.lookup fl with
    | some y => Q y E'
    | none => False)
  | _ => False) X
theorem bv_xf {okc : Str → Bool} {fl : Str} (hok : ∀ c, okc c = true → XfC b.X.K (b.cl c) ∧ PySem.W.findIn b.X.K (.ref (b.cl c)) fl = some none) (he : BV b e t) (hb : attributeBase e fl b.X.env (eval e b.X.env) = eval e b.X.env := by rfl) :
    BV b (.Attribute e fl pos) (bXf okc fl t) := by
  refine ⟨fun pins s σ H Q I ⟨N, F, E, QB, XB, ok, ht, hQ, hX⟩ => ?_⟩
  refine attr_of hb (thn (BV.runB he I ok ht hX) fun u s1 ⟨v, H1, F1, E1, d, I1, rv, s', ok1, rd, q⟩ => ?_)
  cases d with
  | exc c fs =>
    obtain ⟨q1, q⟩ := q
    obtain ⟨T, hno⟩ := hok c q1
    cases el : fs.lookup fl with
    | none => rw [el] at q; exact q.elim
    | some y =>
      rw [el] at q
      obtain ⟨a, dd, e1, h1, h2, h3⟩ := rep_exc_at ok1.sub rd
      subst e1
      obtain rfl : u = Value.ref a := rv
      rcases h3 with ⟨_, e3⟩ | ⟨dx, ws, e3, e4, e5⟩
      · rw [e3] at el; cases el
      · subst e3
        obtain ⟨z, l, rz⟩ := repF_lookup e5 el
        obtain ⟨mA, hns, hr⟩ := I1.hok dx _ (ok1.sub _ _ e4)
        obtain ⟨od, ho, hl⟩ := lookIn_ns hns
        obtain ⟨u, hu, ru⟩ := RelO.some_of (v := z) (o := mA fl) (by rw [← l]; exact hr fl)
        obtain ⟨oe, vs, g1, ⟨z1, z2⟩, g3⟩ := exk_at I1.hok h1
        have J : PySem.W.InstAt s1.heap a oe (b.cl c) (some od) := ⟨g1, z1, by unfold PySem.W.notCls; rw [g3] <;> rfl, by rw [z2]; exact ho⟩
        exact HandSPX.exc_get I1.kIn J T.ga T.gg T.exC (PySem.W.findObj_own T.hdC hno rfl (by rw [hl, hu])) (handed_of ru) ⟨z, H1, I1.tok _, ru, hQ F1 E1 y z H1 s' ok1 rz q⟩
  | _ => exact q.elim
end
end B
/-! BXt: try: .. except C as n: .., the exception a frozen datum in the suite and behind it. -/
namespace B
open PySem PySem.Spec PyProof.Rows L2
section
variable {X : Cx} {pins : List (Addr × Obj)} {σ : L2.St} {H : Hp} {sI s s' : Shared} {B : Heap}
theorem Inv.suiteK (I : Inv X pins σ H s) (a : Addr) : Inv (X.suite a (X.pn ++ pins)) [] σ H s :=
  ⟨I.ok.suite _ _, I.os, I.bare, I.base, I.loc, I.cell, I.free, I.freeC, fun p hp => I.pin p (by rw [List.append_nil] at hp; exact hp), I.hok, I.len⟩
theorem Inv.unsuiteK {a : Addr} {pn' : List (Addr × Obj)} (I : Inv (X.suite a (X.pn ++ pins)) pn' σ H s) (ok : X.Ok) : Inv X pins σ H s :=
  ⟨ok, I.os, I.bare, I.base, I.loc, I.cell, I.free, I.freeC, fun p hp => I.pin p (List.mem_append_left _ hp), I.hok, I.len⟩
/-- back on the ground, the exception's own object laid among what is tracked -/
theorem Inv.landedK {a : Addr} {cls : Value} {d : Option Addr} {oe : Obj} {vs : Array Value} (I : Inv X pins σ H sI) (nb : ∀ b o, sI.heap.get? b = some o → b ∉ frs X.stack → B.get? b = some o) (st : B.StaysIn s'.heap) (up : sI.heap.UpToSlots s'.heap) (os : s'.os = sI.os) (ag : AllBare s'.gens)
    (na : H a = none) (ns : sI.heap.get? a = none) (he : s'.heap.get? a = some oe) (hz : Zc cls d oe) (hd : oe.data = .fields vs) : Inv X pins σ (upd H a (exk a cls d)) s' := by
  have nf : ∀ b ∈ frs X.stack, ∀ o, sI.heap.get? b = some o → ∃ sl, s'.heap.get? b = some { o with slots := sl } := fun b hb o e => by
    obtain ⟨_, o', e', hd⟩ := I.stack.mem hb
    rw [e] at e'; cases e'
    exact up b o e hd
  have ne : ∀ {b : Addr} {o : Obj}, sI.heap.get? b = some o → b ≠ a := fun {b o} e z => by rw [z, ns] at e; cases e
  have nt : ∀ {b : Addr} {o : HO}, H b = some o → b ≠ a := fun {b o} e z => by rw [z, na] at e; cases e
  have hok : HOk X.prog X.w (upd H a (exk a cls d)) s'.heap := fun b o q => by
    by_cases hb : b = a
    · subst hb
      rw [upd_same] at q
      cases q
      exact exk_ok he hz hd
    · rw [upd_ne hb] at q
      exact (((I.inGround nb).kept st) b o q).stay (fun c v _ r => r) (fun c r => by rw [upd_ne (nt r)]; exact r) fun c xs r => by rw [upd_ne (nt r)]; exact r
  have J := I.call (ch := []) (h' := s'.heap) (g' := s'.gens) (t' := s'.toks) (d' := s'.drawn) (H' := upd H a (exk a cls d))
    ⟨fun b o e _ hb _ => st b o (nb b o e hb), fun b o e _ hb _ => nf b hb o e, fun b o e n _ => by rw [upd_ne (ne e)]; exact n, fun b o e _ => by
      by_cases hb : b ∈ frs X.stack
      · obtain ⟨sl, q⟩ := nf b hb o e
        exact ⟨_, q⟩
      · exact ⟨o, st b o (nb b o e hb)⟩, fun b xs e => by rw [upd_ne (nt e)]; exact e, fun b o u e => by rw [upd_ne (nt e)]; exact e, fun b ps e => ⟨#[], by rw [upd_ne (nt e), e]; simp⟩⟩
    hok ag (fun _ z => nomatch z)
  obtain ⟨a1, a2, a3, a4, a5⟩ := s'
  have e5 : a5 = sI.os := os
  subst e5
  exact J
end
/-- what the clause 'except x as n' wishes of an exception of the body: slot i is n's -/
def wTk (K : PySem.W.Frag) (c : Value) (i : Nat) (ts : TS) (Wout : WX) (D : Ends) : WX := fun cls d σ H =>
  ∃ b, PySem.W.exmOne K cls c = some b ∧ (b = true → ∀ a, H a = none → ts { nx := fun σ' H' => D.nx (σ'.set i none) H', rt := D.rt, bk := fun σ' H' => D.bk (σ'.set i none) H', ct := fun σ' H' => D.ct (σ'.set i none) H' } (σ.set i (some (.ref a))) (upd H a (exk a cls d))) ∧
    (b = false → Wout cls d σ H)
section
variable {X : Cx} {x n : Str} {c : Value} {i : Nat} {body suite : List Stmt} {b₀ : Stmt} {np pos pos' : Pos} {tb : WX → TS} {ts : TS} {Wout : WX}
theorem ps_try_k (hs : X.stack = X.env :: X.outer) (hf : X.env.frame = some X.env.locals) (hN : X.N.Nodup) (hi : X.N[i]? = some n) (hln : X.env.kindOf n = some .local) (hc : Names X x c) (tk : Takes X Wout)
    (hb : ∀ (W : WX) (pn : List (Addr × Obj)) (xe : Value → Shared → Prop), Takes (X.tr pn xe) W → PassesOwn (model X.prog X.w) X.A X.env xe → PSs (X.tr pn xe) body (tb W))
    (hsu : ∀ (a : Addr) (pn : List (Addr × Obj)), PSs (X.suite a pn) (b₀ :: suite) ts) :
    PS X (.Try body [.ExceptHandler (some (.Name x np)) (some n) (b₀ :: suite) pos'] [] [] pos) (fun D σ H => tb (wTk X.K c i ts Wout D) D σ H) := by
  refine ⟨fun pins s σ H D I h => ?_⟩
  have ok := I.ok
  have hfr : X.A.frames = some (X.env :: X.outer) := by rw [ok.frames, hs]
  have hloc : Loc X.env.scope n := .inl hln
  refine wpAny_Try_except ?_
  refine wpAny_mono ((hb (wTk X.K c i ts Wout D) (X.pn ++ pins) (fun e s₁ => wpAny (model X.prog X.w) X.A (noteFrame e X.env) (fun _ s₂ => wpAny (model X.prog X.w) X.A (setFlight e none) (fun _ s₃ =>
    wpAny (model X.prog X.w) X.A (handleBy e X.env [.ExceptHandler (some (.Name x np)) (some n) (b₀ :: suite) pos']) (SP X pins D) X.xe s₃) X.xe s₂) X.xe s₁) (fun u s' xx => ?_) PassesOwn.looking).run [] s σ H D (I.toTry _) h) (fun f s1 hsp => ?_) (fun e s1 he => he)
  · -- the catch
    obtain ⟨a, B, sI, pins', σ', H', cls, d, rfl, J', nb, up, sky, na, os, ag, b, hb1, hyes, hno⟩ := xx
    have J : Inv X pins σ' H' sI := J'.ofTry ok
    have sky' : Sky B (X.env :: X.outer) a (Zc cls d) X.env.locals s'.heap := by rw [← hs]; exact sky
    show wpAny (model X.prog X.w) X.A (noteFrame (.ref a) X.env) _ _ _
    refine Sky.land Zc.steady hfr hf sky' fun h3 fl3 up3 => ?_
    have J3 : Inv X pins σ' H' { s' with heap := h3 } := J.landed nb fl3.1 (up.trans up3) os ag
    obtain ⟨oe3, vs3, he3, hz3, hd3⟩ := fl3.there
    have nfr : a ∉ frs (X.env :: X.outer) := fun hm => by
      obtain ⟨_, o', e', hnf⟩ := fl3.2.2.1.mem hm
      rw [he3] at e'; cases e'
      exact hnf _ hd3
    have nB : B.get? a = none := fl3.2.1
    have nsI : sI.heap.get? a = none := by
      cases e : sI.heap.get? a with
      | none => rfl
      | some o =>
        have z := nb a o e (by rw [hs]; exact nfr)
        rw [nB] at z; cases z
    have S3 := Inv.suiteK J3 a
    refine wpAny_handleBy_cons (codeAny_handlers_test ?_) (by intro q; cases q)
    have LT : PySem.W.Looks (model X.prog X.w) h3 (typeOf (.ref a)) cls := fun A Q E s k q => wpAny_typeOf_ref (k _ _ he3) (by rw [hz3.1]; exact q)
    have LM := PySem.W.exm_one (M := model X.prog X.w) (J3.kIn) LT hb1
    have test : ∀ {Q : Value → Shared → Prop} {E : Value → Shared → Prop}, Q c { s' with heap := h3 } → wpAny (model X.prog X.w) (X.A.mark (some (.ref a))) (eval (.Name x np) X.env) Q E { s' with heap := h3 } := fun {Q E} q => by
      obtain ⟨hg, hdbg, hm | ⟨hm, hv, hnn⟩⟩ := hc
      · exact ld_glob (X := X.suite a (X.pn ++ pins)) S3 hg hm q hdbg
      · exact ld_blt (X := X.suite a (X.pn ++ pins)) S3 hg hm hv q hnn hdbg
    refine test (LM.here ?_)
    cases b with
    | true =>
      refine codeAny_handlers_suite_as ?_
      refine HandSPX.lands_againZ fl3 fun h4 fl4 up4 => ?_
      obtain ⟨oe4, vs4, he4, hz4, hd4⟩ := fl4.there
      have J4 : Inv X pins σ' (upd H' a (exk a cls d)) { s' with heap := h4 } := Inv.landedK J nb fl4.1 ((up.trans up3).trans up4) os ag na nsI he4 hz4 hd4
      have S4 := Inv.suiteK J4 a
      refine store_ok (X := X.suite a (X.pn ++ pins)) (v := .ref a) S4 hN hi hloc rfl (fun s5 S5 => ?_) (.inr hln)
      refine wpAny_mono ((hsu a (X.pn ++ pins)).run [] s5 _ _ _ S5 (hyes rfl a na)) (fun f s6 hsp => ?_) (fun _ _ z => False.elim z)
      have end_ : ∀ {σ6 : L2.St} {H6 : Hp} {Q : Shared → Prop}, Inv (X.suite a (X.pn ++ pins)) [] σ6 H6 s6 → (∀ s7, Inv X pins (σ6.set i none) H6 s7 → Q s7) →
          wpAny (model X.prog X.w) X.A (do bindName X.env n .none; unbindBehindTheSuite X.env n pos') (fun _ s7 => Q s7) X.xe s6 := fun {σ6 H6 Q} S6 hq => gone_ok (Inv.unsuiteK S6 ok) hN hi hln hq
      cases f with
      | next =>
        obtain ⟨σ6, H6, S6, q6⟩ := hsp
        exact end_ S6 fun s7 J7 => ⟨_, _, J7, q6⟩
      | brk =>
        obtain ⟨σ6, H6, S6, q6⟩ := hsp
        exact end_ S6 fun s7 J7 => ⟨_, _, J7, q6⟩
      | cont =>
        obtain ⟨σ6, H6, S6, q6⟩ := hsp
        exact end_ S6 fun s7 J7 => ⟨_, _, J7, q6⟩
      | ret u =>
        obtain ⟨v6, σ6, H6, S6, r6, q6⟩ := hsp
        exact end_ S6 fun s7 J7 => ⟨_, _, _, J7, r6, q6⟩
    | false =>
      show wpAny _ X.A (handleBy (.ref a) X.env []) _ _ _
      refine wpAny_handleBy_nil ?_
      obtain ⟨k1, k2, k3, oe, vs, T, oT, ts', he, hz, hd, h1, hr⟩ := id fl3
      unfold PySem.passOn
      refine wpAny_bind (wpAny_field he hd h1 ?_)
      rw [if_neg (show ¬ ((Value.ref T == Value.none) = true) from by simp)]
      have fin : wpAny (model X.prog X.w) X.A (setFlight (.ref a) X.env.frame) (fun _ s4 => wpAny (model X.prog X.w) X.A (throw (.ref a) : Sem Flow) (SP X pins D) X.xe s4) X.xe { s' with heap := h3 } := by
        rw [hf]
        refine HandSPX.setFlight_upZ fl3 fun h4 hh4 up4 => wpAny_throw (tk _ _ ?_)
        exact ⟨a, B, sI, pins, σ', H', cls, d, rfl, J, nb, (up.trans up3).trans up4, .inr (.inr (by rw [hs]; exact hh4)), na, os, ag, hno rfl⟩
      first
        | exact wpAny_bind (wpAny_pure (wpAny_bind fin))
        | exact wpAny_bind fin
  · cases f with
    | next =>
      obtain ⟨σ', H', J', q⟩ := hsp
      exact wpAny_execs_nil ⟨σ', H', J'.ofTry ok, q⟩
    | brk =>
      obtain ⟨σ', H', J', q⟩ := hsp
      exact ⟨σ', H', J'.ofTry ok, q⟩
    | cont =>
      obtain ⟨σ', H', J', q⟩ := hsp
      exact ⟨σ', H', J'.ofTry ok, q⟩
    | ret u =>
      obtain ⟨v, σ', H', J', r, q⟩ := hsp
      exact ⟨v, σ', H', J'.ofTry ok, r, q⟩
end
section
variable {b : Bx} {Nm : List Str} {tb : List (Nat × Str)} {gl : List Str} {k : Nat}
theorem Gd.tr (g : Gd b Nm tb gl k) {W : WX} {pn : List (Addr × Obj)} {xe : Value → Shared → Prop} (tk : Takes (b.X.tr pn xe) W) (ps : PassesOwn (model b.X.prog b.X.w) b.X.A b.X.env xe) : Gd ⟨b.X.tr pn xe, b.cl, W⟩ Nm tb gl k :=
  ⟨g.calm, g.rm, g.gd, tk, ps, g.nm, g.nd, g.vis, g.gls⟩
/-- try: t / except x as n: u -/
def bTryAs (i : Nat) (cat : Str → Option Bool) (t u : BS) : BS := fun D X E => t D (fun x E' => match cat x.c with
  | some true => u { nx := fun E2 => D.nx ⟨E2.r.set i .un, E2.m⟩, rt := D.rt, bk := fun E2 => D.bk ⟨E2.r.set i .un, E2.m⟩, ct := fun E2 => D.ct ⟨E2.r.set i .un, E2.m⟩ } (fun _ _ => False) ⟨E'.r.set i (.fr (.exc x.c x.fs)), E'.m⟩
  | some false => X x E'
  | none => False) E
/-- an except suite's context -/
abbrev Bx.suite (b : Bx) (a : Addr) (pn : List (Addr × Obj)) : Bx := ⟨b.X.suite a pn, b.cl, fun _ _ _ _ => False⟩
theorem bs_tryAs (g : Gd b Nm tb gl k) (j : Nat) {i : Nat} {n x : Str} {c : Value} {cat : Str → Option Bool} {body suite : List Stmt} {b₀ : Stmt} {np pos pos' : Pos} {t u : BS} (hs : b.X.stack = b.X.env :: b.X.outer) (hf : b.X.env.frame = some b.X.env.locals)
    (hc : Names b.X x c) (hcat : ∀ c' k, cat c' = some k → PySem.W.exmOne b.X.K (.ref (b.cl c')) c = some k)
    (hb : ∀ (W : WX) (pn : List (Addr × Obj)) (xe : Value → Shared → Prop), Gd ⟨b.X.tr pn xe, b.cl, W⟩ Nm tb gl k → BSs ⟨b.X.tr pn xe, b.cl, W⟩ body t) (hsu : ∀ (a : Addr) (pn : List (Addr × Obj)), BSs (b.suite a pn) (b₀ :: suite) u)
    (h : tb[j]? = some (i, n) := by rfl) (hln : b.X.env.kindOf n = some .local := by rfl) :
    BSt b (.Try body [.ExceptHandler (some (.Name x np)) (some n) (b₀ :: suite) pos'] [] [] pos) (bTryAs i cat t u) :=
  ps_weak (ps_try_k (i := i) (tb := fun W => lowS ⟨b.X, b.cl, W⟩ t) (ts := lowS (b.suite 0 []) u) hs hf g.nn (by rw [g.nm]; exact (g.vis _ (List.mem_of_getElem? h)).1) hln hc g.tk (fun W pn xe tk ps => hb W pn xe (g.tr tk ps)) fun a pn => hsu a pn) fun D σ H ⟨N, F, E, DB, XB, ok, ht, h1, h2, h3, h4, hX⟩ =>
    ⟨N, F, E, DB, _, ok, ht, h1, h2, h3, h4, fun F' E' y cls od σ' H' sF ok' xr q => by
      obtain ⟨xr1, xr2⟩ := xr
      have q : (match cat y.c with
        | some true => u { nx := fun E2 => DB.nx ⟨E2.r.set i .un, E2.m⟩, rt := DB.rt, bk := fun E2 => DB.bk ⟨E2.r.set i .un, E2.m⟩, ct := fun E2 => DB.ct ⟨E2.r.set i .un, E2.m⟩ } (fun _ _ => False) ⟨E'.r.set i (.fr (.exc y.c y.fs)), E'.m⟩
        | some false => XB y E'
        | none => False) := q
      subst xr1
      cases ec : cat y.c with
      | none => rw [ec] at q; exact q.elim
      | some v =>
        rw [ec] at q
        refine ⟨v, hcat _ _ ec, fun ev a ha => ?_, fun ev => ?_⟩
        · subst ev
          obtain ⟨ok2, s2⟩ := ok'.newF (o := exk a (.ref (b.cl y.c)) od) ha
          have rp : Rep b.lb (upd F' a (exk a (.ref (b.cl y.c)) od)) (.exc y.c y.fs) (.ref a) := by
            rw [Rep]
            refine ⟨a, od, rfl, upd_same, ?_⟩
            rcases xr2 with ⟨e1, e2⟩ | ⟨dx, ws, e1, e2, e3⟩
            · exact .inl ⟨e1, e2⟩
            · exact .inr ⟨dx, ws, e1, s2 _ _ e2, RepF.mono s2 _ _ e3⟩
          have ok3 := (ok2.push rp).store (i := i) (fun _ => Sl.noConfusion)
          have s3 := sF.trans s2
          exact ⟨N, _, ⟨E'.r.set i (.fr (.exc y.c y.fs)), E'.m⟩, _, fun _ _ => False, ok3, q, fun F2 E2 σ2 H2 s4 ok4 q4 => h1 F2 ⟨E2.r.set i .un, E2.m⟩ (σ2.set i none) H2 (s3.trans s4) ok4.unset q4, fun F2 E2 y v σ2 H2 s4 => h2 F2 E2 y v σ2 H2 (s3.trans s4),
            fun F2 E2 σ2 H2 s4 ok4 q4 => h3 F2 ⟨E2.r.set i .un, E2.m⟩ (σ2.set i none) H2 (s3.trans s4) ok4.unset q4, fun F2 E2 σ2 H2 s4 ok4 q4 => h4 F2 ⟨E2.r.set i .un, E2.m⟩ (σ2.set i none) H2 (s3.trans s4) ok4.unset q4, fun _ _ _ _ _ _ _ _ _ _ z => z.elim⟩
        · subst ev
          exact hX F' E' y _ od σ' H' sF ok' ⟨rfl, xr2⟩ q⟩
end
end B
/-! BXk: an exception class of the text called with keywords. -/
namespace PySem
namespace HandSPX
open PySem.W PySem.Calls PyProof.Rows
section
variable {M : Model} {A : Around} {E : Value → Shared → Prop} {h : Heap} {g : Array GenState} {d : Drawn} {t : Nat} {os : OsState}
variable {nm q : Str} {C N : Addr} {bs bm bmB : List Value} {hdct : Bool} {sn : List Str} {sub : List Value} {ab : Bool} {col : Option Bool} {dd : Option Addr} {k0 k1 k2 k3 k5 : Option Value} {B newId initId : String}
theorem xk_check (F : ExcBaseFacts B newId initId bmB) (hT : ∀ X : String, bm.contains (.type X) = bmB.contains (.type X)) {rest : List Value} {kw : List (Str × Value)} {Q : Unit → Shared → Prop}
    (hC : h.get? C = some (excClassObj nm q C N bs bm hdct sn sub ab col dd k0 k1 k2 k3 k5 newId)) (hq : Q () ⟨h, g, d, t, os⟩) : wpAny M A (checkBuiltinCall newId ⟨.ref C :: rest, kw⟩) Q E ⟨h, g, d, t, os⟩ := by
  have hcont : (Value.ref C :: bm).contains (.type B) = true := by rw [List.contains_cons, hT, F.hasB, Bool.or_true]
  have hstar := F.noStar
  simp only [checkBuiltinCall, F.newKind, F.newSplit, F.newRow]
  repeat (first | refine wpAny_loadPart_at hC ?_ | (refine wpAny_isSubtype_exc hC ?_; rw [hcont]) | refine wpAny_staticBase_exc hC ?_ | refine wpAny_madeBy_exc hC ?_ | simp only [bne_self_eq_false, Bool.false_eq_true, if_false] | wp_step)
  exact hq
end
section
variable {prog : Program} {w : World} {A : Around} {E : Value → Shared → Prop} {R : Result → Shared → Prop} {h : Heap} {g : Array GenState} {d : Drawn} {t : Nat} {os : OsState}
variable {nm q : Str} {C N : Addr} {bs bm bmB : List Value} {hdct : Bool} {sn : List Str} {sub : List Value} {ab : Bool} {col : Option Bool} {dd : Option Addr} {k0 k1 k2 k3 k5 : Option Value} {B newId initId : String}
theorem xk_new (F : ExcBaseFacts B newId initId bmB) (hT : ∀ X : String, bm.contains (.type X) = bmB.contains (.type X)) {rest : List Value} {kw : List (Str × Value)}
    (hC : h.get? C = some (excClassObj nm q C N bs bm hdct sn sub ab col dd k0 k1 k2 k3 k5 newId))
    (hq : R (.ok (.ret (.ref (h.objs.size + 1)))) ⟨(h.push { cls := .type "tuple", data := .seq rest.toArray }).push
      { cls := .ref C, data := .fields #[.ref h.objs.size, .none, .none, .none, .bool false, .none] }, g, d, t, os⟩) (hrest : rest.length ≤ sizeLine) :
    codeAny (model prog w) A (.builtin newId ⟨.ref C :: rest, kw⟩) R ⟨h, g, d, t, os⟩ := by
  have hends := F.ends
  have hcB : (Value.ref C :: bm).contains (.type B) = true := by rw [List.contains_cons, hT, F.hasB, Bool.or_true]
  have hcA : (Value.ref C :: bm).contains (.type "AttributeError") = false := by rw [List.contains_cons, hT, F.noAttr]; rfl
  have hcN : (Value.ref C :: bm).contains (.type "NameError") = false := by rw [List.contains_cons, hT, F.noName]; rfl
  refine codeAny_builtinAt F.entry ?_
  unfold Builtin.«BaseException.__new__»
  refine wpAt_bind ?_
  show wpAt _ _ _ (stack >>= _) _ _ _
  refine wpAt_bind (wpAt_stack fun p below => wpAt_of_wpAny ?_)
  wp_walk
  refine wpAt_of_wpAny ?_
  rw [F.owner]
  repeat (first | with_reducible refine wpAny_madeHere_exc F.canon hC ?_ | with_reducible refine wpAny_loadPart_at hC ?_ | (with_reducible refine wpAny_isSubtype_exc hC ?_; first | rw [hcB] | rw [hcA] | rw [hcN]) | wp_step)
  show R _ _
  rw [Heap.size_push]
  exact hq

theorem xk_type (F : ExcBaseFacts B newId initId bmB) (hT : ∀ X : String, bm.contains (.type X) = bmB.contains (.type X)) {rest : List Value} {kw : List (Str × Value)} {fI : Addr} {Q : Fin → Shared → Prop}
    (hC : h.get? C = some (excClassObj nm q C N bs bm hdct sn sub ab col dd k0 k1 k2 k3 k5 newId))
    (hi : W.Looks (model prog w) h (typeLookup (.ref C) "__init__") (some (.ref fI))) (hb : ∀ self, W.Looks (model prog w) h (bindSpecial (.ref fI) self) (.ref fI, [self])) (hrest : rest.length ≤ sizeLine)
    (hq : codeAny (model prog w) A (.call (.ref fI) ⟨.ref (h.objs.size + 1) :: rest, kw⟩)
      (fun r s' => match r with | .ok (.ret v) => v = .none ∧ Q (.done (.ret (.ref (h.objs.size + 1)))) s' | .ok _ => False | .error e => E e s')
      ⟨(h.push (W.kdv_tup rest)).push (excO C h.objs.size), g, d, t, os⟩) :
    wpAny (model prog w) A (Builtin.«type.__call__» ⟨.ref C :: rest, kw⟩) Q E ⟨h, g, d, t, os⟩ := by
  repeat (first | with_reducible refine wpAny_loadPart_at hC ?_ | with_reducible refine wpAny_madeBy_exc hC ?_ | wp_step)
  refine codeAny_call_builtin_code (Code.quiet_builtin _ F.quiet) (xk_check F hT hC ?_)
  refine xk_new F hT hC ?_ hrest
  show wpAny _ _ _ _ _ _
  have k : ∀ b o, h.get? b = some o → ((h.push (W.kdv_tup rest)).push (excO C h.objs.size)).get? b = some o := fun b o e => Heap.get?_push_of_some _ (Heap.get?_push_of_some _ e)
  have hC₁ := k _ _ hC
  have hget : ((h.push (W.kdv_tup rest)).push (excO C h.objs.size)).get? (h.objs.size + 1) = some (excO C h.objs.size) := by heap_get
  have hcC : (Value.ref C :: bm).contains (.ref C) = true := by simp
  have i1 := hi.keeps k
  have b1 := (hb (.ref (h.objs.size + 1))).keeps k
  unfold isInstance
  repeat (first | with_reducible refine wpAny_loadPart_at hget ?_ | (with_reducible refine wpAny_isSubtype_exc hC₁ ?_; rw [hcC]) | wp_step)
  show wpAny _ _ (typeLookup (.ref C) _) _ _ _
  refine i1.at ?_
  refine wpAny_holding (wpAny_bind (b1.at ?_))
  refine wpAny_bind (wpAny_call (codeAny_mono hq fun r s' z => ?_))
  rcases r with e | (v | _ | _ | _) <;> first | exact z | exact z.elim | skip
  obtain ⟨rfl, z⟩ := z
  first
    | exact wpAny_pure (wpAny_pure z)
    | (wp_walk; exact z)

theorem xk_call (F : ExcBaseFacts B newId initId bmB) (hT : ∀ X : String, bm.contains (.type X) = bmB.contains (.type X)) {rest : List Value} {kw : List (Str × Value)} {fI : Addr}
    (hC : h.get? C = some (excClassObj nm q C N bs bm hdct sn sub ab col dd k0 k1 k2 k3 k5 newId))
    (hi : W.Looks (model prog w) h (typeLookup (.ref C) "__init__") (some (.ref fI))) (hb : ∀ self, W.Looks (model prog w) h (bindSpecial (.ref fI) self) (.ref fI, [self])) (hrest : rest.length ≤ sizeLine)
    (hq : codeAny (model prog w) (A.under (.builtin "type.__call__" ⟨.ref C :: rest, kw⟩)) (.call (.ref fI) ⟨.ref (h.objs.size + 1) :: rest, kw⟩) (W.InitBack (h.objs.size + 1) R)
      ⟨(h.push (W.kdv_tup rest)).push (excO C h.objs.size), g, d, t, os⟩) :
    codeAny (model prog w) A (.call (.ref C) ⟨rest, kw⟩) R ⟨h, g, d, t, os⟩ := by
  have f1 := tc_lookup
  have f2 := tc_bind (.ref C)
  have hTy : (⟨h, g, d, t, os⟩ : Shared).TypeIs (.ref C) "type" := ⟨_, hC, rfl⟩
  refine codeAny_of_tree ?_
  show wpAny _ _ (callAny (.ref C) _) _ _ _
  repeat (any_goals (first | assumption | with_reducible refine wpAny_loadPart_at hC ?_ | wp_step))
  refine ⟨rfl, ?_⟩
  refine codeAny_call_builtin_at (Code.quiet_builtin _ (by decide +kernel)) entry_typeCall (wpAny_check_type_call_sub hC (xk_type F hT hC hi hb hrest ?_))
  refine codeAny_mono hq fun r s' z => ?_
  rcases r with e | (v | _ | _ | _) <;> exact z

end
end HandSPX
end PySem
namespace B
open PySem PySem.Spec PyProof.Rows L2
section
variable {X : Cx} {pins : List (Addr × Obj)} {σ : L2.St} {H1 : Hp} {s1 : Shared}
/-- C(n = u): as xmake, the field's parameter named -/
theorem xmakeK {C fI : Addr} {fd : FuncData} {ps : List Str} {f n : Str} {u : Value} {v : V} {Q : Value → Shared → Prop} (T : XCls X.K C fI f) (F1 : FnOk X.prog X.w X.K X.mg X.base (L2.CX X.prog X.w) 1 fI fd ps (spXI X.K f))
    (hb : ∀ (s : Shared) (q u : Value), X.K.In s.heap → BindsTo s fd ⟨[q], [(n, u)]⟩ (ps.zip [q, u])) (hr : Room 2 X.A) (I1 : Inv X pins σ H1 s1) (ru : RelV v u)
    (h : ∀ a dx s', H1 a = none → H1 dx = none → dx ≠ a → Inv X pins σ (upd (upd H1 dx (exd dx [(f, v)])) a (exo a C (some dx))) s' → Q (.ref a) s') : wpAny (model X.prog X.w) X.A (call (.ref C) [] [(n, u)]) Q X.xe s1 := by
  obtain ⟨nm, q, N, bs, bm, sn, sub, ab, col, dd, k0, k1, k2, k3, k5, hC, hbm⟩ := T.oex.cls
  obtain ⟨hp, g, dr, tk, os⟩ := s1
  have hsz : hp.objs.size ≤ hp.objs.size + 1 := Nat.le_succ _
  have hn : H1 (hp.objs.size + 1) = none := I1.hok.fresh hsz
  have kk : ∀ b o, hp.get? b = some o → ((hp.push (PySem.W.kdv_tup [])).push (PySem.HandSPX.excO C hp.objs.size)).get? b = some o := fun b o e => Heap.get?_push_of_some _ (Heap.get?_push_of_some _ e)
  have hget : ((hp.push (PySem.W.kdv_tup [])).push (PySem.HandSPX.excO C hp.objs.size)).get? (hp.objs.size + 1) = some (PySem.HandSPX.excO C hp.objs.size) := by heap_get
  have I2 : Inv X pins σ (upd H1 (hp.objs.size + 1) (exo (hp.objs.size + 1) C none)) ⟨(hp.push (PySem.W.kdv_tup [])).push (PySem.HandSPX.excO C hp.objs.size), g, dr, tk, os⟩ :=
    I1.laid (t' := tk) (a := hp.objs.size + 1) (o := exo (hp.objs.size + 1) C none) (h' := (hp.push (PySem.W.kdv_tup [])).push (PySem.HandSPX.excO C hp.objs.size)) kk hsz (exo_ok hget)
  have r2 : Vals [V.ref (hp.objs.size + 1), v] [Value.ref (hp.objs.size + 1), u] := .cons rfl (.cons ru .nil)
  refine wpAny_call (PySem.HandSPX.xk_call F.excBase_ValueError (fun Y => PySem.HandSPX.refsVE_contains Y bm hbm) (I1.kIn _ _ hC) (PySem.W.looks_findIn I1.kIn T.ini) (fun self => PySem.W.bind_fn I1.kIn self T.ity) (by rw [sizeLine_eq]; simp)
    (codeAny_mono (F1.run _ X.stack _ _ ⟨[Value.ref (hp.objs.size + 1)], [(n, u)]⟩ [Value.ref (hp.objs.size + 1), u] _ (fun v' H2 => v' = .non ∧ ∃ dx, H1 dx = none ∧ dx ≠ hp.objs.size + 1 ∧ H2 = upd (upd H1 dx (exd dx [(f, v)])) (hp.objs.size + 1) (exo (hp.objs.size + 1) C (some dx))) (fun _ _ _ => False) ((hr.make C [] [(n, u)]).mono (Nat.le_refl 1)) (I2.env0.make C [] [(n, u)]) (hb _ _ u I2.kIn) r2 ?_) fun r s' hq' => ?_))
  · refine ⟨hp.objs.size + 1, C, v, rfl, T.oex, T.no, upd_same, fun dx h1 h2 => ⟨rfl, dx, by rw [upd_ne h2] at h1; exact h1, h2, ?_⟩⟩
    funext b
    unfold upd
    split <;> rfl
  · cases r with
    | error er => exact passL pins σ _ _ er s' I2 hq'
    | ok fl =>
      cases fl with
      | ret u' =>
        obtain ⟨v', H2, I3, rv, ev, dx, h1, h2, eH⟩ := I2.after hq'
        subst ev
        subst eH
        exact ⟨rv, h _ dx s' hn h1 h2 I3⟩
      | next => exact False.elim hq'
      | brk => exact False.elim hq'
      | cont => exact False.elim hq'
end
section
variable {b : Bx} {Nm : List Str} {tb : List (Nat × Str)} {gl : List Str} {k : Nat} {fI : Addr} {fd : FuncData} {ps : List Str} {x c f n : Str} {p pos pos' kpos : Pos} {e : Expr} {t : BO}
theorem bv_xvalK (g : Gd b Nm tb gl k) (hk : 2 ≤ k) (T : XCls b.X.K (b.cl c) fI f) (F1 : FnOk b.X.prog b.X.w b.X.K b.X.mg b.X.base (L2.CX b.X.prog b.X.w) 1 fI fd ps (spXI b.X.K f))
    (hb : ∀ (s : Shared) (q u : Value), b.X.K.In s.heap → BindsTo s fd ⟨[q], [(n, u)]⟩ (ps.zip [q, u])) (hg : Gl b.X x) (hm : b.X.mg x = some (.ref (b.cl c))) (ha : BV b e t) (hdb : (x == ("__debug__" : Str)) = false := by decide)
    (hall : (backToKw pos (keywordEach [⟨some n, e, kpos⟩] b.X.env)).all (·.1.isSome) = true := by rfl) (hks : (backToKw pos (keywordEach [⟨some n, e, kpos⟩] b.X.env)).filterMap (·.1) = [n] := by rfl)
    (hpl : ((backTo pos (starEach [] b.X.env)).any (·.1) || (backToKw pos (keywordEach [⟨some n, e, kpos⟩] b.X.env)).any (·.1.isNone)) = false := by rfl) :
    BV b (.Call (.Name x p) [] [⟨some n, e, kpos⟩] pos) (bXv c f t) := by
  refine ⟨fun pins s σ H Q I ⟨N, F, E, QB, XB, ok, ht, hQ, hX⟩ => ?_⟩
  refine wpAny_Call_Name_kw (ld_glob I hg hm ?_ hdb)
  refine PySem.W.callWith_KW0 (first := []) (h₀ := b.X.base) I.ok.mod.kin T.oex.kC hall (thn (BKs.runB (QB := fun ds E' => match ds with | [d] => QB (.exc c [(f, d)]) E' | _ => False) (bk_cons ha bk_nil) I ok ht hX) fun us s1 ⟨vs, H1, F', E', ds, I1, r, s', ok', rp, q⟩ => ⟨I1.kIn, ?_⟩) hpl
  rw [hks]
  match ds, q with
  | [d], q =>
    rw [RepA] at rp
    obtain ⟨v, r', e1, rv, rr⟩ := rp
    rw [RepA] at rr
    subst rr
    subst e1
    cases r with
    | cons ru rn =>
      cases rn
      refine xmakeK T F1 hb (g.rm.mono hk) I1 ru fun a dx s2 n1 n2 ne J => ⟨.ref a, _, Inv.cool J ne, rfl, ?_⟩
      obtain ⟨ok2, s2⟩ := ok'.newF (o := .xd [(f, v)]) n2
      obtain ⟨ok3, s3⟩ := ok2.newF (p := a) (o := exk a (.ref (b.cl c)) (some dx)) (by rw [upd_ne (Ne.symm ne)]; exact n1)
      refine hQ _ E' _ _ _ ((s'.trans s2).trans s3) ok3 ?_ q
      rw [Rep]
      exact ⟨a, some dx, rfl, upd_same, .inr ⟨dx, _, rfl, by rw [upd_ne ne, upd_same], repF_one (Rep.mono s3 d v (Rep.mono s2 d v rv))⟩⟩
end
end B
namespace B
open PySem PySem.Spec PyProof.Rows
/-- a zip object that handed out f0 -/
def ZObj (TI TO : Addr) (f0 : Value) (g : Bool) : Obj := { cls := .type "zip", dict := none, data := .fields #[f0, .bool g, .bool false, .ref TI, .ref TO], slots := #[] }
section
variable {prog : Program} {w : World} {A : Around} {E : Value → Shared → Prop} {s : Shared}
theorem wpAny_alive {M : Model} {a : Addr} {Q : Option Obj → Shared → Prop} (h : Q (s.heap.get? a) s) : wpAny M A (loadIfAlive a) Q E s := fun Γ p hΓ => by
  show Sem.wp _ _ (Sem.loadIfAlive a .pure) _ _ _ _
  rw [Sem.wp_loadIfAlive]
  exact h
theorem zip_next2 {z TI TO i1 i2 l1 l2 T : Addr} {g : Bool} {oT : Obj} {k1 k2 : Nat} {xs ys : Array Value} {x y : Value} {Q : Value → Shared → Prop} (D : ZipApart z TI TO i1 i2 l1 l2)
    (hz : s.heap.get? z = some (ZObj TI TO (rawInt T) g)) (hT : s.heap.get? T = some oT) (hTI : IsPair s.heap TI (.ref i1) (.ref i2))
    (h1 : s.heap.IsListIter i1 l1 k1) (h2 : s.heap.IsListIter i2 l2 k2) (hl1 : s.heap.IsList l1 xs) (hl2 : s.heap.IsList l2 ys) (hx : xs[k1]? = some x) (hy : ys[k2]? = some y)
    (hQ : ∀ h', h'.get? z = some (ZObj TI TO (rawInt T) true) → h'.IsListIter i1 l1 (k1 + 1) → h'.IsListIter i2 l2 (k2 + 1) → IsPair h' s.heap.objs.size x y → h'.objs.size = s.heap.objs.size + 1 →
      (∀ c o, c ≠ z → c ≠ i1 → c ≠ i2 → s.heap.get? c = some o → h'.get? c = some o) → Q (.ref s.heap.objs.size) { s with heap := h' }) :
    wpAny (model prog w) A (Builtin.«zip.__next__» ⟨[.ref z], []⟩) (fun fin s' => ∃ v, fin = .done (.ret v) ∧ Q v s') E s := by
  show wpAny _ _ (field (.ref z) 2 >>= _) _ _ _
  refine wpAny_bind (wpAny_field hz rfl (x := .bool false) rfl ?_)
  show wpAny _ _ (field (.ref z) 3 >>= _) _ _ _
  refine wpAny_bind (wpAny_field hz rfl (x := .ref TI) rfl ?_)
  refine wpAny_bind (wpAny_seqItems hTI rfl ?_)
  show wpAny _ _ (Builtin.SmallTypes.ownedTupleIsFree (.ref z) >>= _) _ _ _
  refine wpAny_bind ?_
  unfold Builtin.SmallTypes.ownedTupleIsFree
  refine wpAny_bind (wpAny_field hz rfl (x := rawInt T) rfl ?_)
  show wpAny _ _ (loadIfAlive (Int.toNat (T : Int)) >>= _) _ _ _
  refine wpAny_bind (wpAny_alive ?_)
  rw [Int.toNat_natCast, hT]
  simp only [Option.isNone_some, Bool.false_eq_true, if_false]
  refine wpAny_bind (wpAny_field hz rfl (x := .bool g) rfl ?_)
  have mid : ∀ {α : Type} {m : Sem α} {Q' : α → Shared → Prop}, (∀ h₁ : Heap, h₁.get? z = some (ZObj TI TO (rawInt T) true) → (∀ c o, c ≠ z → s.heap.get? c = some o → h₁.get? c = some o) → h₁.objs.size = s.heap.objs.size → wpAny (model prog w) A m Q' E { s with heap := h₁ }) →
      wpAny (model prog w) A (if (Value.bool g != Value.bool true) = true then do setField (Value.ref z) 1 (Value.bool true); m else m) Q' E s := fun {α m Q'} k => by
    cases g with
    | true =>
      rw [if_neg (by simp)]
      exact k s.heap hz (fun _ _ _ e => e) rfl
    | false =>
      rw [if_pos (by simp)]
      exact wpAny_bind (wpAny_setField_rec hz (by simp) fun h₁ hz₁ hs₁ => k h₁ hz₁ (fun c o hc e => hs₁.extBut _ _ hc e) hs₁.1)
  refine mid fun h₁ hz₁ hk₁ hn₁ => wpAny_pure ?_
  rw [if_neg Bool.false_ne_true]
  simp only [List.forIn_toArray, List.forIn_cons, List.forIn_nil]
  have a1 : h₁.IsListIter i1 l1 k1 := h1.at fun o e => hk₁ _ o D.i1z e
  have a2 : h₁.IsListIter i2 l2 k2 := h2.at fun o e => hk₁ _ o D.i2z e
  have b1 : h₁.IsList l1 xs := hl1.at fun o e => hk₁ _ o D.l1z e
  have b2 : h₁.IsList l2 ys := hl2.at fun o e => hk₁ _ o D.l2z e
  refine wpAny_bind (wpAny_bind (wpAny_bind (wpAny_holding ?_)))
  show wpAny _ _ (Builtin.SmallTypes.nextOf (.ref i1) >>= _) _ _ _
  refine wpAny_bind (wpAny_nextOf_list_item a1 b1 hx fun h₂ c1 s₂ => wpAny_pure ?_)
  refine wpAny_pure (wpAny_bind (wpAny_bind (wpAny_holding ?_)))
  show wpAny _ _ (Builtin.SmallTypes.nextOf (.ref i2) >>= _) _ _ _
  refine wpAny_bind (wpAny_nextOf_list_item (a2.extBut s₂.extBut D.i12.symm) (b2.extBut s₂.extBut D.l2i1) hy fun h₃ c2 s₃ => wpAny_pure ?_)
  refine wpAny_pure (wpAny_pure ?_)
  show wpAny _ _ (newTuple [x, y] >>= fun t => ret t) _ _ _
  refine wpAny_bind (wpAny_newTuple ?_)
  have hn : h₃.objs.size = s.heap.objs.size := by rw [s₃.1, s₂.1, hn₁]
  have hz₃ : h₃.get? z = some (ZObj TI TO (rawInt T) true) := s₃.extBut _ _ D.i2z.symm (s₂.extBut _ _ D.i1z.symm hz₁)
  refine wpAny_pure ⟨_, rfl, ?_⟩
  show Q (.ref h₃.objs.size) _
  rw [hn]
  refine hQ _ (Heap.get?_push_of_some _ hz₃) ((c1.extBut s₃.extBut D.i12).at fun o e => Heap.get?_push_of_some _ e) (c2.at fun o e => Heap.get?_push_of_some _ e) ?_ (by rw [Heap.size_push, hn]) fun c o h1 h2 h3 e =>
    Heap.get?_push_of_some _ (s₃.extBut _ _ h3 (s₂.extBut _ _ h2 (hk₁ c o h1 e)))
  have := Heap.get?_push_size h₃ (o := ({ cls := .type "tuple", data := .seq #[x, y] } : Obj)) rfl
  rw [hn] at this
  exact this
theorem zip_end2 (hh : A.handled = none) {z TI TO i1 i2 l1 l2 T : Addr} {g : Bool} {oT : Obj} {k1 k2 : Nat} {xs ys : Array Value} {Q : Fin → Shared → Prop} (D : ZipApart z TI TO i1 i2 l1 l2)
    (hz : s.heap.get? z = some (ZObj TI TO (rawInt T) g)) (hT : s.heap.get? T = some oT) (hTI : IsPair s.heap TI (.ref i1) (.ref i2))
    (h1 : s.heap.IsListIter i1 l1 k1) (h2 : s.heap.IsListIter i2 l2 k2) (hl1 : s.heap.IsList l1 xs) (hl2 : s.heap.IsList l2 ys) (hend : xs[k1]? = none ∨ ys[k2]? = none)
    (hE : ∀ h' e, (∀ c o, c ≠ z → c ≠ i1 → c ≠ i2 → s.heap.get? c = some o → h'.get? c = some o) → (∃ o, h'.get? e = some o ∧ o.cls = .type "StopIteration") → E (.ref e) { s with heap := h' }) :
    wpAny (model prog w) A (Builtin.«zip.__next__» ⟨[.ref z], []⟩) Q E s := by
  show wpAny _ _ (field (.ref z) 2 >>= _) _ _ _
  refine wpAny_bind (wpAny_field hz rfl (x := .bool false) rfl ?_)
  show wpAny _ _ (field (.ref z) 3 >>= _) _ _ _
  refine wpAny_bind (wpAny_field hz rfl (x := .ref TI) rfl ?_)
  refine wpAny_bind (wpAny_seqItems hTI rfl ?_)
  show wpAny _ _ (Builtin.SmallTypes.ownedTupleIsFree (.ref z) >>= _) _ _ _
  refine wpAny_bind ?_
  unfold Builtin.SmallTypes.ownedTupleIsFree
  refine wpAny_bind (wpAny_field hz rfl (x := rawInt T) rfl ?_)
  show wpAny _ _ (loadIfAlive (Int.toNat (T : Int)) >>= _) _ _ _
  refine wpAny_bind (wpAny_alive ?_)
  rw [Int.toNat_natCast, hT]
  simp only [Option.isNone_some, Bool.false_eq_true, if_false]
  refine wpAny_bind (wpAny_field hz rfl (x := .bool g) rfl ?_)
  have mid : ∀ {α : Type} {m : Sem α} {Q' : α → Shared → Prop}, (∀ h₁ : Heap, h₁.get? z = some (ZObj TI TO (rawInt T) true) → (∀ c o, c ≠ z → s.heap.get? c = some o → h₁.get? c = some o) → h₁.objs.size = s.heap.objs.size → wpAny (model prog w) A m Q' E { s with heap := h₁ }) →
      wpAny (model prog w) A (if (Value.bool g != Value.bool true) = true then do setField (Value.ref z) 1 (Value.bool true); m else m) Q' E s := fun {α m Q'} k => by
    cases g with
    | true =>
      rw [if_neg (by simp)]
      exact k s.heap hz (fun _ _ _ e => e) rfl
    | false =>
      rw [if_pos (by simp)]
      exact wpAny_bind (wpAny_setField_rec hz (by simp) fun h₁ hz₁ hs₁ => k h₁ hz₁ (fun c o hc e => hs₁.extBut _ _ hc e) hs₁.1)
  refine mid fun h₁ hz₁ hk₁ hn₁ => wpAny_pure ?_
  rw [if_neg Bool.false_ne_true]
  simp only [List.forIn_toArray, List.forIn_cons, List.forIn_nil]
  have a1 : h₁.IsListIter i1 l1 k1 := h1.at fun o e => hk₁ _ o D.i1z e
  have a2 : h₁.IsListIter i2 l2 k2 := h2.at fun o e => hk₁ _ o D.i2z e
  have b1 : h₁.IsList l1 xs := hl1.at fun o e => hk₁ _ o D.l1z e
  have b2 : h₁.IsList l2 ys := hl2.at fun o e => hk₁ _ o D.l2z e
  refine wpAny_bind (wpAny_bind (wpAny_bind (wpAny_holding ?_)))
  show wpAny _ _ (Builtin.SmallTypes.nextOf (.ref i1) >>= _) _ _ _
  cases hx : xs[k1]? with
  | none =>
    refine wpAny_bind (wpAny_nextOf_list_end hh a1 b1 hx fun h₂ e s₂ he => ?_)
    exact hE h₂ e (fun c o h1 h2 _ x => s₂ _ _ h2 (hk₁ c o h1 x)) he
  | some x =>
    have hy : ys[k2]? = none := by rcases hend with h | h; rw [hx] at h; cases h; exact h
    refine wpAny_bind (wpAny_nextOf_list_item a1 b1 hx fun h₂ c1 s₂ => wpAny_pure ?_)
    refine wpAny_pure (wpAny_bind (wpAny_bind (wpAny_holding ?_)))
    show wpAny _ _ (Builtin.SmallTypes.nextOf (.ref i2) >>= _) _ _ _
    refine wpAny_bind (wpAny_nextOf_list_end hh (a2.extBut s₂.extBut D.i12.symm) (b2.extBut s₂.extBut D.l2i1) hy fun h₃ e s₃ he => ?_)
    exact hE h₃ e (fun c o h1 h2 h3 x => s₃ _ _ h3 (s₂.extBut _ _ h2 (hk₁ c o h1 x))) he
theorem pyNext_zip2 {z TI TO i1 i2 l1 l2 T : Addr} {g : Bool} {oT : Obj} {k1 k2 : Nat} {xs ys : Array Value} {x y : Value} {Q : Option Value → Shared → Prop} (D : ZipApart z TI TO i1 i2 l1 l2)
    (hz : s.heap.get? z = some (ZObj TI TO (rawInt T) g)) (hT : s.heap.get? T = some oT) (hTI : IsPair s.heap TI (.ref i1) (.ref i2))
    (h1 : s.heap.IsListIter i1 l1 k1) (h2 : s.heap.IsListIter i2 l2 k2) (hl1 : s.heap.IsList l1 xs) (hl2 : s.heap.IsList l2 ys) (hx : xs[k1]? = some x) (hy : ys[k2]? = some y)
    (hQ : ∀ h', h'.get? z = some (ZObj TI TO (rawInt T) true) → h'.IsListIter i1 l1 (k1 + 1) → h'.IsListIter i2 l2 (k2 + 1) → IsPair h' s.heap.objs.size x y → h'.objs.size = s.heap.objs.size + 1 →
      (∀ c o, c ≠ z → c ≠ i1 → c ≠ i2 → s.heap.get? c = some o → h'.get? c = some o) → Q (some (.ref s.heap.objs.size)) { s with heap := h' }) : wpAny (model prog w) A (pyNext (.ref z)) Q E s := by
  have ty : s.TypeIs (.ref z) "zip" := ⟨_, hz, rfl⟩
  unfold pyNext
  exact wpAny_bind (wpAny_attempt (wpAny_callSpecial?_slot (name := Str.ofString "__next__") ty F.slot_zip_next
    (wpAny_call_entry F.slot_zip_next ty F.entry_zip_next (zip_next2 D hz hT hTI h1 h2 hl1 hl2 hx hy fun h' a1 a2 a3 a4 a5 a6 => wpAny_pure (hQ h' a1 a2 a3 a4 a5 a6)) (F.args_zip_next_1 _))))
theorem pyNext_zip2_end {z TI TO i1 i2 l1 l2 T : Addr} {g : Bool} {oT : Obj} {k1 k2 : Nat} {xs ys : Array Value} {Q : Option Value → Shared → Prop} (hh : A.handled = none) (D : ZipApart z TI TO i1 i2 l1 l2)
    (hz : s.heap.get? z = some (ZObj TI TO (rawInt T) g)) (hT : s.heap.get? T = some oT) (hTI : IsPair s.heap TI (.ref i1) (.ref i2))
    (h1 : s.heap.IsListIter i1 l1 k1) (h2 : s.heap.IsListIter i2 l2 k2) (hl1 : s.heap.IsList l1 xs) (hl2 : s.heap.IsList l2 ys) (hend : xs[k1]? = none ∨ ys[k2]? = none)
    (hQ : ∀ h', (∀ c o, c ≠ z → c ≠ i1 → c ≠ i2 → s.heap.get? c = some o → h'.get? c = some o) → Q none { s with heap := h' }) : wpAny (model prog w) A (pyNext (.ref z)) Q E s := by
  have ty : s.TypeIs (.ref z) "zip" := ⟨_, hz, rfl⟩
  unfold pyNext
  refine wpAny_bind (wpAny_attempt (wpAny_callSpecial?_slot (name := Str.ofString "__next__") ty F.slot_zip_next
    (wpAny_call_entry F.slot_zip_next ty F.entry_zip_next (zip_end2 (A := A.in1) hh D hz hT hTI h1 h2 hl1 hl2 hend fun h' e hk he => ?_) (F.args_zip_next_1 _))))
  obtain ⟨o, ho, hc⟩ := he
  refine wpAny_bind (wpAny_isInstance (T := "StopIteration") (b := true) ⟨o, ho, hc⟩ isSubtype_stop ?_)
  exact wpAny_pure (hQ _ hk)
/-- a zip over two lists, i items handed out -/
structure ZRun (h : Heap) (z TI TO i1 i2 l1 l2 : Addr) (xs ys : Array Value) (i : Nat) : Prop where
  zo : IsZip h z TI TO .none ∨ ∃ (T : Addr) (g : Bool) (oT : Obj), h.get? z = some (ZObj TI TO (rawInt T) g) ∧ h.get? T = some oT ∧ T ≠ z ∧ T ≠ TO ∧ T ≠ i1 ∧ T ≠ i2
  ti : IsPair h TI (.ref i1) (.ref i2)
  to : ∃ a b, IsPair h TO a b
  it1 : h.IsListIter i1 l1 i
  it2 : h.IsListIter i2 l2 i
  li1 : h.IsList l1 xs
  li2 : h.IsList l2 ys
theorem ZRun.keep {h h' : Heap} {z TI TO i1 i2 l1 l2 : Addr} {xs ys : Array Value} {i : Nat} (r : ZRun h z TI TO i1 i2 l1 l2 xs ys i) (S : Addr) (hS : S ≠ z ∧ S ≠ TI ∧ S ≠ TO ∧ S ≠ i1 ∧ S ≠ i2 ∧ S ≠ l1 ∧ S ≠ l2) (k : ∀ b o, b ≠ S → h.get? b = some o → h'.get? b = some o) (kS : ∀ o, h.get? S = some o → ∃ o', h'.get? S = some o') : ZRun h' z TI TO i1 i2 l1 l2 xs ys i := by
  obtain ⟨s1, s2, s3, s4, s5, s6, s7⟩ := hS
  refine ⟨?_, k _ _ (Ne.symm s2) r.ti, ?_, r.it1.at fun o e => k _ o (Ne.symm s4) e, r.it2.at fun o e => k _ o (Ne.symm s5) e, r.li1.at fun o e => k _ o (Ne.symm s6) e, r.li2.at fun o e => k _ o (Ne.symm s7) e⟩
  · rcases r.zo with z0 | ⟨T, g, oT, e1, e2, e3⟩
    · exact .inl (k _ _ (Ne.symm s1) z0)
    · by_cases q : T = S
      · subst q
        obtain ⟨o', ho⟩ := kS oT e2
        exact .inr ⟨T, g, o', k _ _ (Ne.symm s1) e1, ho, e3⟩
      · exact .inr ⟨T, g, oT, k _ _ (Ne.symm s1) e1, k _ _ q e2, e3⟩
  · obtain ⟨a, b, e⟩ := r.to
    exact ⟨a, b, k _ _ (Ne.symm s3) e⟩
theorem ZRun.next {z TI TO i1 i2 l1 l2 : Addr} (D : ZipApart z TI TO i1 i2 l1 l2) {xs ys : Array Value} {i : Nat} {x y : Value} {Q : Option Value → Shared → Prop} (r : ZRun s.heap z TI TO i1 i2 l1 l2 xs ys i) (hx : xs[i]? = some x) (hy : ys[i]? = some y)
    (hQ : ∀ h', ZRun h' z TI TO i1 i2 l1 l2 xs ys (i + 1) → IsPair h' s.heap.objs.size x y → h'.objs.size = s.heap.objs.size + 1 → (∀ c o, c ≠ z → c ≠ TO → c ≠ i1 → c ≠ i2 → s.heap.get? c = some o → h'.get? c = some o) → Q (some (.ref s.heap.objs.size)) { s with heap := h' }) :
    wpAny (model prog w) A (pyNext (.ref z)) Q E s := by
  have lt : ∀ {c : Addr} {o : Obj}, s.heap.get? c = some o → s.heap.objs.size ≠ c := fun {c o} e => Nat.ne_of_gt (Heap.lt_size e)
  obtain ⟨a, b, hto⟩ := r.to
  have li1 : s.heap.objs.size ≠ i1 := by obtain ⟨_, e, _⟩ := r.it1; exact lt e
  have li2 : s.heap.objs.size ≠ i2 := by obtain ⟨_, e, _⟩ := r.it2; exact lt e
  rcases r.zo with z0 | ⟨T, g, oT, e1, e2, t1, t2, t3, t4⟩
  · refine wpAny_pyNext_zip_item D z0 r.ti hto r.it1 r.it2 r.li1 r.li2 hx hy fun h' a1 a2 a3 a4 a5 a6 hk => ?_
    exact hQ h' ⟨.inr ⟨_, _, _, a1, a5, lt z0, lt hto, li1, li2⟩, hk _ _ D.TIz D.TITO D.TIi1 D.TIi2 r.ti, ⟨_, _, a2⟩, a3, a4, r.li1.at fun o e => hk _ o D.l1z D.l1TO D.l1i1 D.l1i2 e, r.li2.at fun o e => hk _ o D.l2z D.l2TO D.l2i1 D.l2i2 e⟩ a5 a6 hk
  · refine pyNext_zip2 D e1 e2 r.ti r.it1 r.it2 r.li1 r.li2 hx hy fun h' a1 a3 a4 a5 a6 hk => ?_
    exact hQ h' ⟨.inr ⟨T, _, oT, a1, hk _ _ t1 t3 t4 e2, t1, t2, t3, t4⟩, hk _ _ D.TIz D.TIi1 D.TIi2 r.ti, ⟨_, _, hk _ _ D.TOz D.TOi1 D.TOi2 hto⟩, a3, a4, r.li1.at fun o e => hk _ o D.l1z D.l1i1 D.l1i2 e, r.li2.at fun o e => hk _ o D.l2z D.l2i1 D.l2i2 e⟩ a5 a6
      fun c o h1 _ h3 h4 e => hk c o h1 h3 h4 e
theorem ZRun.end_ {z TI TO i1 i2 l1 l2 : Addr} (hh : A.handled = none) (D : ZipApart z TI TO i1 i2 l1 l2) {xs ys : Array Value} {i : Nat} {Q : Option Value → Shared → Prop} (r : ZRun s.heap z TI TO i1 i2 l1 l2 xs ys i) (hend : xs[i]? = none ∨ ys[i]? = none)
    (hQ : ∀ h', (∀ c o, c ≠ z → c ≠ TO → c ≠ i1 → c ≠ i2 → s.heap.get? c = some o → h'.get? c = some o) → Q none { s with heap := h' }) : wpAny (model prog w) A (pyNext (.ref z)) Q E s := by
  obtain ⟨a, b, hto⟩ := r.to
  rcases r.zo with z0 | ⟨T, g, oT, e1, e2, t1, t2, t3, t4⟩
  · exact wpAny_pyNext_zip_end hh D z0 r.ti hto r.it1 r.it2 r.li1 r.li2 hend hQ
  · exact pyNext_zip2_end hh D e1 e2 r.ti r.it1 r.it2 r.li1 r.li2 hend fun h' hk => hQ h' fun c o h1 _ h3 h4 e => hk c o h1 h3 h4 e
/-- the pairs made so far -/
structure ZGot (h : Heap) (xs ys : Array Value) (N0 : Nat) (ts : List Addr) : Prop where
  lo : ∀ t ∈ ts, N0 ≤ t
  nd : ts.Nodup
  at_ : ∀ (j : Nat) (t : Addr), ts[j]? = some t → ∃ x y, xs[j]? = some x ∧ ys[j]? = some y ∧ IsPair h t x y
theorem zdrain {z TI TO i1 i2 l1 l2 : Addr} {R : Result → Shared → Prop} (hh : A.handled = none) (D : ZipApart z TI TO i1 i2 l1 l2) {xs ys : Array Value} {S : Addr} {res : Value} {N0 : Nat} (hS : S ≠ z ∧ S ≠ TI ∧ S ≠ TO ∧ S ≠ i1 ∧ S ≠ i2 ∧ S ≠ l1 ∧ S ≠ l2) (hN : z < N0 ∧ TO < N0 ∧ i1 < N0 ∧ i2 < N0 ∧ S < N0) (hn : min xs.size ys.size ≤ sizeLine) :
    ∀ (k i : Nat) (s : Shared) (acc : Array Value) (c : Nat) (ts : List Addr), min xs.size ys.size - i = k → i ≤ min xs.size ys.size → ZRun s.heap z TI TO i1 i2 l1 l2 xs ys i → s.heap.get? S = some { cls := .type "list", dict := none, data := .seq acc c, slots := #[] } →
      acc.toList = ts.map Value.ref → ts.length = i → ZGot s.heap xs ys N0 ts → N0 ≤ s.heap.objs.size →
      (∀ h' acc' c' ts', (∀ b o, b ≠ S → b ≠ z → b ≠ TO → b ≠ i1 → b ≠ i2 → s.heap.get? b = some o → h'.get? b = some o) → h'.get? S = some { cls := .type "list", dict := none, data := .seq acc' c', slots := #[] } → acc'.toList = ts'.map Value.ref →
        ts'.length = min xs.size ys.size → ZGot h' xs ys N0 ts' → R (.ok (.ret res)) { s with heap := h' }) →
      codeAny (model prog w) A (.builtin "list.extend.loop" ⟨[.ref S, .ref z, res], []⟩) R s := by
  have nS : ∀ {t : Addr}, N0 ≤ t → t ≠ S ∧ t ≠ z ∧ t ≠ TO ∧ t ≠ i1 ∧ t ≠ i2 := fun {t} h => by
    obtain ⟨h1, h2, h3, h4, h5⟩ := hN
    exact ⟨Nat.ne_of_gt (Nat.lt_of_lt_of_le h5 h), Nat.ne_of_gt (Nat.lt_of_lt_of_le h1 h), Nat.ne_of_gt (Nat.lt_of_lt_of_le h2 h), Nat.ne_of_gt (Nat.lt_of_lt_of_le h3 h), Nat.ne_of_gt (Nat.lt_of_lt_of_le h4 h)⟩
  intro k
  induction k with
  | zero =>
    intro i s acc c ts hk hi r hSo ha hl hg hsz hR
    refine codeAny_builtin F.entry_extend_loop ?_
    rw [Around.under_plainId F.plain_extend_loop _]
    show wpAny _ A.in1 (pyNext (.ref z) >>= _) _ _ s
    refine wpAny_bind (r.end_ (A := A.in1) hh D ?_ fun h' hk' => ?_)
    · have : xs.size ≤ i ∨ ys.size ≤ i := by omega
      exact this.imp (fun h => Array.getElem?_eq_none h) fun h => Array.getElem?_eq_none h
    · refine wpAny_pure (hR h' acc c ts (fun b o _ h1 h2 h3 h4 e => hk' b o h1 h2 h3 h4 e) (hk' S _ hS.1 hS.2.2.1 hS.2.2.2.1 hS.2.2.2.2.1 hSo) ha (by omega) ⟨hg.lo, hg.nd, fun j t e => ?_⟩)
      obtain ⟨x, y, e1, e2, e3⟩ := hg.at_ j t e
      obtain ⟨_, n2, n3, n4, n5⟩ := nS (hg.lo t (List.mem_of_getElem? e))
      exact ⟨x, y, e1, e2, hk' _ _ n2 n3 n4 n5 e3⟩
  | succ k ih =>
    intro i s acc c ts hk hi r hSo ha hl hg hsz hR
    have hx : i < xs.size := by omega
    have hy : i < ys.size := by omega
    have hasz : acc.size = i := by rw [← Array.length_toList, ha, List.length_map, hl]
    refine codeAny_builtin F.entry_extend_loop ?_
    rw [Around.under_plainId F.plain_extend_loop _]
    show wpAny _ A.in1 (pyNext (.ref z) >>= _) _ _ s
    refine wpAny_bind (r.next D (Array.getElem?_eq_getElem hx) (Array.getElem?_eq_getElem hy) fun h' r' hp hsz' hk' => ?_)
    have hSo' := hk' S _ hS.1 hS.2.2.1 hS.2.2.2.1 hS.2.2.2.2.1 hSo
    show wpAny _ A.in1 (updateSeq S (·.push (.ref s.heap.objs.size)) >>= _) _ _ _
    refine wpAny_bind ?_
    refine wpAny_updateSeq hSo' rfl (wpAny_pure ⟨plainId_quiet F.plain_extend_loop _, ?_⟩) (by rw [hasz]; omega) (by show (acc.push _).size ≤ sizeLine + 1; rw [Array.size_push, hasz]; omega)
    have oth : ∀ b o, b ≠ S → h'.get? b = some o → (h'.update S (Obj.mapSeq (·.push (.ref s.heap.objs.size)))).get? b = some o := fun b o hb e => (Heap.get?_update_other _ _ (Ne.symm hb)).trans e
    have nT := nS hsz
    have hg' : ZGot (h'.update S (Obj.mapSeq (·.push (.ref s.heap.objs.size)))) xs ys N0 (ts ++ [s.heap.objs.size]) := ⟨fun t ht => by
        rcases List.mem_append.mp ht with ht | ht
        · exact hg.lo t ht
        · rw [List.mem_singleton.mp ht]; exact hsz, by
        rw [List.nodup_append]
        refine ⟨hg.nd, by simp, fun t ht u hu => ?_⟩
        rw [List.mem_singleton.mp hu]
        obtain ⟨j, hj⟩ := List.mem_iff_getElem?.mp ht
        obtain ⟨x, y, _, _, e3⟩ := hg.at_ j t hj
        exact Nat.ne_of_lt (Heap.lt_size e3), fun j t e => by
        rcases app_low e with ⟨hlt, e⟩ | ⟨e1, e2⟩
        · obtain ⟨x, y, e1, e2, e3⟩ := hg.at_ j t e
          obtain ⟨n1, n2, n3, n4, n5⟩ := nS (hg.lo t (List.mem_of_getElem? e))
          exact ⟨x, y, e1, e2, oth _ _ n1 (hk' _ _ n2 n3 n4 n5 e3)⟩
        · rw [e1, e2, hl]
          exact ⟨_, _, Array.getElem?_eq_getElem hx, Array.getElem?_eq_getElem hy, oth _ _ nT.1 hp⟩⟩
    refine ih (i + 1) _ (acc.push (.ref s.heap.objs.size)) _ (ts ++ [s.heap.objs.size]) (by omega) (by omega) (r'.keep S hS oth fun _ _ => ⟨_, Heap.get?_update_self _ hSo' rfl⟩) (Heap.get?_update_self _ hSo' rfl) (by simp [ha]) (by simp [hl]) hg' (by
      show N0 ≤ (h'.update S _).objs.size
      have : (h'.update S (Obj.mapSeq (·.push (.ref s.heap.objs.size)))).objs.size = h'.objs.size := by simp [Heap.update]
      omega) fun h'' acc' c' ts' q1 q2 q3 q4 q5 => ?_
    exact hR h'' acc' c' ts' (fun b o b1 b2 b3 b4 b5 e => q1 b o b1 b2 b3 b4 b5 (oth b o b1 (hk' b o b2 b3 b4 b5 e))) q2 q3 q4 q5
theorem zip_no_len : typeLookup (.type "zip") "__len__" = pure none := by rw [typeLookup_type, builtinLookup_eq_fast]; kernel_rfl
theorem zip_no_hint : typeLookup (.type "zip") "__length_hint__" = pure none := by rw [typeLookup_type, builtinLookup_eq_fast]; kernel_rfl
theorem call_listZip {z TI TO i1 i2 l1 l2 : Addr} {xs ys : Array Value} {Q : Value → Shared → Prop} (hh : A.handled = none) (D : ZipApart z TI TO i1 i2 l1 l2) (r : ZRun s.heap z TI TO i1 i2 l1 l2 xs ys 0) (hz : IsZip s.heap z TI TO .none) (hn : min xs.size ys.size ≤ sizeLine)
    (hN : z < s.heap.objs.size ∧ TI < s.heap.objs.size ∧ TO < s.heap.objs.size ∧ i1 < s.heap.objs.size ∧ i2 < s.heap.objs.size ∧ l1 < s.heap.objs.size ∧ l2 < s.heap.objs.size)
    (hQ : ∀ h' acc' c' ts', (∀ b o, b ≠ z → b ≠ TO → b ≠ i1 → b ≠ i2 → s.heap.get? b = some o → h'.get? b = some o) → h'.get? s.heap.objs.size = some { cls := .type "list", dict := none, data := .seq acc' c', slots := #[] } → acc'.toList = ts'.map Value.ref →
        ts'.length = min xs.size ys.size → ZGot h' xs ys (s.heap.objs.size + 1) ts' → Q (.ref s.heap.objs.size) { s with heap := h' }) :
    wpAny (model prog w) A (call (.type "list") [.ref z]) Q E s := by
  obtain ⟨n1, n2, n3, n4, n5, n6, n7⟩ := hN
  have hS : s.heap.objs.size ≠ z ∧ s.heap.objs.size ≠ TI ∧ s.heap.objs.size ≠ TO ∧ s.heap.objs.size ≠ i1 ∧ s.heap.objs.size ≠ i2 ∧ s.heap.objs.size ≠ l1 ∧ s.heap.objs.size ≠ l2 :=
    ⟨Nat.ne_of_gt n1, Nat.ne_of_gt n2, Nat.ne_of_gt n3, Nat.ne_of_gt n4, Nat.ne_of_gt n5, Nat.ne_of_gt n6, Nat.ne_of_gt n7⟩
  refine callType_codes (Q₁ := fun obj s₁ => obj = .ref s.heap.objs.size ∧ s₁ = { s with heap := s.heap.push { cls := .type "list", data := .seq #[] } }) F.called_list (F.typeCall_list_1 _) F.entry_list_init
    (code_list_new _ ⟨rfl, rfl⟩) fun obj s₁ h₁ => ?_
  obtain ⟨rfl, rfl⟩ := h₁
  have hS1 : (s.heap.push { cls := .type "list", data := .seq #[] }).get? s.heap.objs.size = some { cls := .type "list", data := .seq #[] } := Heap.get?_push_size _ rfl
  refine ⟨⟨_, hS1, rfl⟩, F.args_list_init_2 _ _, ?_⟩
  show wpAny _ A.in1.in1 (Builtin.List.listItems (.ref s.heap.objs.size) >>= fun old => Builtin.List.listUpdate (.ref s.heap.objs.size) (fun _ => #[]) >>= fun _ => letGo old.toList.reverse >>= fun _ => Builtin.List.listExtendWith (.ref s.heap.objs.size) (.ref z) .none) _ _ _
  refine wpAny_bind ?_
  unfold Builtin.List.listItems
  refine wpAny_bind (wpAny_seqItems hS1 rfl (wpAny_pure ?_))
  show wpAny _ A.in1.in1 (updateSeq s.heap.objs.size (fun _ => #[]) >>= fun _ => letGo (#[] : Array Value).toList.reverse >>= fun _ => Builtin.List.listExtendWith (.ref s.heap.objs.size) (.ref z) .none) _ _ _
  refine wpAny_bind (wpAny_updateSeq hS1 rfl ?_)
  have hS2 := Heap.get?_update_self (Obj.mapSeq (fun _ => (#[] : Array Value))) hS1 rfl
  refine wpAny_bind (wpAny_letGo ?_)
  unfold Builtin.List.listExtendWith
  have up : ∀ (h : Heap) (f : Obj → Obj), (∀ b o, s.heap.get? b = some o → h.get? b = some o) → ∀ b o, s.heap.get? b = some o → (h.update s.heap.objs.size f).get? b = some o := fun h f q b o e =>
    (Heap.get?_update_other _ _ (Ne.symm (Nat.ne_of_lt (Heap.lt_size e)))).trans (q b o e)
  have k1 : ∀ b o, s.heap.get? b = some o → (s.heap.push { cls := .type "list", data := .seq #[] }).get? b = some o := fun b o e => Heap.get?_push_of_some _ e
  have k2 := up _ (Obj.mapSeq (fun _ => (#[] : Array Value))) k1
  have zty : ∀ {h : Heap}, (∀ b o, s.heap.get? b = some o → h.get? b = some o) → ({ s with heap := h } : Shared).TypeIs (.ref z) "zip" := fun {h} q => ⟨_, q _ _ hz, rfl⟩
  refine wpAny_bind (wpAny_typeOf (zty k2) ?_)
  have h1 : Builtin.List.listSameRef (.ref s.heap.objs.size) (.ref z) = false := by simp [Builtin.List.listSameRef, hS.1]
  have h2 : (Value.type "zip" == Value.type "list") = false := by decide
  have h3 : (Value.type "zip" == Value.type "tuple") = false := by decide
  simp only [h1, h2, h3, Bool.or_false, Bool.false_eq_true, if_false]
  refine wpAny_bind (wpAny_pyIter_zip (s := { s with heap := _ }) (k2 _ _ hz) ?_)
  refine wpAny_bind (wpAny_holding ?_)
  unfold Builtin.List.listLengthHint
  refine wpAny_bind (wpAny_specialOf (zty k2) zip_no_len ?_)
  show wpAny _ A.in1.in1 (specialOf (Value.ref z) (Str.ofString "__length_hint__") >>= _) _ _ _
  refine wpAny_bind (wpAny_specialOf (zty k2) zip_no_hint ?_)
  refine wpAny_pure ?_
  show wpAny _ A.in1.in1 (rule "list.extend.makes-room" >>= fun _ => Builtin.List.listTouch (.ref s.heap.objs.size) >>= fun _ =>
    again (.builtin "list.extend.loop" ⟨[.ref s.heap.objs.size, .ref z, .none], []⟩)) _ _ _
  refine wpAny_bind (wpAny_rule ?_)
  refine wpAny_bind ?_
  show wpAny _ A.in1.in1 (updateSeq s.heap.objs.size (·.push .none) >>= fun _ => updateSeq s.heap.objs.size (·.pop)) _ _ _
  refine wpAny_bind (wpAny_updateSeq hS2 rfl ?_)
  have hS3 := Heap.get?_update_self (Obj.mapSeq (·.push Value.none)) hS2 rfl
  refine wpAny_updateSeq (hz := by seq_fits) hS3 rfl ?_
  have hS4 := Heap.get?_update_self (Obj.mapSeq (·.pop)) hS3 rfl
  have k4 := up _ (Obj.mapSeq (·.pop)) (up _ (Obj.mapSeq (·.push Value.none)) k2)
  refine wpAny_pure ⟨plainId_quiet F.plain_extend_loop _, ?_⟩
  have r4 : ZRun _ z TI TO i1 i2 l1 l2 xs ys 0 := r.keep s.heap.objs.size hS (fun b o _ e => k4 b o e) fun o e => absurd (Heap.lt_size e) (Nat.lt_irrefl _)
  have lt1 : ∀ {a : Nat}, a < s.heap.objs.size → a < s.heap.objs.size + 1 := fun h => Nat.lt_succ_of_lt h
  refine zdrain (A := A.in1) hh D hS ⟨lt1 n1, lt1 n3, lt1 n4, lt1 n5, Nat.lt_succ_self _⟩ hn _ 0 _ _ _ [] rfl (Nat.zero_le _) r4 hS4 (by rfl) rfl ⟨fun t ht => (by cases ht), List.nodup_nil, fun j t e => (by simp at e)⟩ ?_ fun h' acc' c' ts' q1 q2 q3 q4 q5 => ⟨rfl, hQ h' acc' c' ts' (fun b o b2 b3 b4 b5 e => q1 b o (Nat.ne_of_lt (Heap.lt_size e)) b2 b3 b4 b5 (k4 b o e)) q2 q3 q4 q5⟩
  show s.heap.objs.size + 1 ≤ _
  have : ∀ (h : Heap) (f : Obj → Obj), (h.update s.heap.objs.size f).objs.size = h.objs.size := fun h f => by simp [Heap.update]
  rw [this, this, this, Heap.size_push]
  exact Nat.le_refl _
end
end B
/-! BZp2: list(zip(xs, ys)) over data; many new objects at once. -/
namespace B
open PySem PySem.Spec PyProof.Rows L2
/-- new objects beside H -/
def addH (H : Hp) : List (Addr × HO) → Hp
  | [] => H
  | (a, o) :: r => upd (addH H r) a o
theorem addH_of {H : Hp} {b : Addr} : ∀ {l : List (Addr × HO)}, b ∉ l.map (·.1) → addH H l b = H b
  | [], _ => rfl
  | (a, o) :: r, h => by
    rw [List.map_cons, List.mem_cons, not_or] at h
    show upd (addH H r) a o b = H b
    rw [upd_ne h.1, addH_of h.2]
theorem addH_at {H : Hp} {b : Addr} {o : HO} : ∀ {l : List (Addr × HO)}, (l.map (·.1)).Nodup → (b, o) ∈ l → addH H l b = some o
  | [], _, h => by cases h
  | (a, u) :: r, nd, h => by
    rw [List.map_cons, List.nodup_cons] at nd
    show upd (addH H r) a u b = some o
    rcases List.mem_cons.mp h with e | h
    · cases e
      exact upd_same
    · have : b ≠ a := fun e => nd.1 (e ▸ List.mem_map.mpr ⟨_, h, rfl⟩)
      rw [upd_ne this, addH_at nd.2 h]
theorem addH_same {H : Hp} {l : List (Addr × HO)} (h : ∀ x ∈ l, H x.1 = none) : Same H (addH H l) := fun a o e => by
  rw [addH_of]
  · exact e
  · intro hm
    obtain ⟨x, hx, ex⟩ := List.mem_map.mp hm
    rw [← ex, h x hx] at e; cases e
section
variable {X : Cx} {pins : List (Addr × Obj)} {σ : L2.St} {H : Hp} {s : Shared} {h' : Heap}
theorem Inv.many {l : List (Addr × HO)} (I : Inv X pins σ H s) (k : ∀ b o, s.heap.get? b = some o → h'.get? b = some o) (nw : ∀ x ∈ l, s.heap.objs.size ≤ x.1) (nd : (l.map (·.1)).Nodup) (new : ∀ x ∈ l, ObjOk X.prog X.w (addH H l) h' x.1 x.2) :
    Inv X pins σ (addH H l) { s with heap := h' } := by
  have nH : ∀ x ∈ l, H x.1 = none := fun x hx => I.hok.fresh (nw x hx)
  have ne : ∀ {b : Addr} {o : Obj}, s.heap.get? b = some o → b ∉ l.map (·.1) := fun {b o} e hm => by
    obtain ⟨x, hx, ex⟩ := List.mem_map.mp hm
    have h1 := Heap.lt_size e
    have h2 := nw x hx
    rw [ex] at h2
    exact absurd (Nat.lt_of_lt_of_le h1 h2) (Nat.lt_irrefl _)
  have sm := addH_same nH
  have J := I.un (t' := s.toks) (h' := h') (H' := addH H l) ⟨fun b o e _ _ _ => k b o e, fun b o e _ _ _ => ⟨o.slots, k b o e⟩, fun b o e n _ => by rw [addH_of (ne e)]; exact n, fun b o e _ => ⟨o, k b o e⟩, fun b xs e => sm _ _ e, fun b o u e => sm _ _ e, fun b ps e => ⟨#[], by rw [sm _ _ e]; simp⟩⟩ (fun b u e => by
    by_cases hb : b ∈ l.map (·.1)
    · obtain ⟨x, hx, ex⟩ := List.mem_map.mp hb
      subst ex
      rw [addH_at nd hx] at e
      cases e
      exact new x hx
    · rw [addH_of hb] at e
      exact (I.hok b u e).stay (fun c v _ q => k c v q) (fun c q => sm _ _ q) fun c xs q => sm _ _ q)
  exact J
end
section
variable {L : Lb} {N : Nh} {F H : Hp} {E : En} {σ : L2.St}
theorem Ok.many {l : List (Addr × HO)} (ok : Ok L N F E σ H) (nd : (l.map (·.1)).Nodup) (nH : ∀ x ∈ l, H x.1 = none) : Ok L N (addH F l) E σ (addH H l) ∧ Same F (addH F l) := by
  have nF : ∀ x ∈ l, F x.1 = none := fun x hx => by
    cases q : F x.1 with
    | none => rfl
    | some y => have := ok.sub _ y q; rw [nH x hx] at this; cases this
  have sF := addH_same nF
  refine ⟨ok.ext (addH_same nH) sF (fun a u h => ?_) fun a h1 h2 => ?_, sF⟩
  · by_cases hb : a ∈ l.map (·.1)
    · obtain ⟨x, hx, ex⟩ := List.mem_map.mp hb
      subst ex
      rw [addH_at nd hx] at h ⊢
      exact h
    · rw [addH_of hb] at h ⊢
      exact ok.sub a u h
  · by_cases hb : a ∈ l.map (·.1)
    · obtain ⟨x, hx, ex⟩ := List.mem_map.mp hb
      subst ex
      exact nH x hx
    · rw [addH_of hb] at h2
      exact absurd h1 h2
theorem repA_nth : ∀ {ds : List D} {vs : List V} {j : Nat} {d : D}, RepA L F ds vs → ds[j]? = some d → ∃ v, vs[j]? = some v ∧ Rep L F d v
  | [], vs, j, d, _, e => by simp at e
  | d0 :: ds, vs, 0, d, h, e => by
    rw [RepA] at h
    obtain ⟨v, r, e1, h1, _⟩ := h
    subst e1
    simp at e
    subst e
    exact ⟨v, rfl, h1⟩
  | d0 :: ds, vs, j + 1, d, h, e => by
    rw [RepA] at h
    obtain ⟨v, r, e1, _, h2⟩ := h
    subst e1
    obtain ⟨v', q1, q2⟩ := repA_nth (j := j) h2 (by simpa using e)
    exact ⟨v', by simpa using q1, q2⟩
theorem repA_of : ∀ {ds : List D} {vs : List V}, ds.length = vs.length → (∀ (j : Nat) d v, ds[j]? = some d → vs[j]? = some v → Rep L F d v) → RepA L F ds vs
  | [], vs, h, _ => by
    rw [RepA]
    cases vs with
    | nil => rfl
    | cons v vs => simp at h
  | d :: ds, [], h, _ => by simp at h
  | d :: ds, v :: vs, h, k => by
    rw [RepA]
    exact ⟨v, vs, rfl, k 0 d v rfl rfl, repA_of (by simpa using h) fun j d' v' e1 e2 => k (j + 1) d' v' (by simpa using e1) (by simpa using e2)⟩
end
def dZip (xs ys : List D) : List D := List.zipWith (fun x y => .tup [x, y]) xs ys
def bListZip (t : BA) : BT := fun E Q X => t E (fun ds E' => match ds with
  | [.lst xs, .lst ys] => Q (.ow (.lst (dZip xs ys))) E'
  | _ => False) X
section
variable {b : Bx} {Nm : List Str} {tb : List (Nat × Str)} {gl : List Str} {k : Nat} {e1 e2 : Expr} {t : BA} {p1 p2 p3 pos : Pos}
theorem lst_atL {X : Cx} {pins : List (Addr × Obj)} {σ : L2.St} {H : Hp} {s : Shared} {a : Addr} {vs : List V} (I : Inv X pins σ H s) (e : H a = some (.lst vs)) : ∃ us : List Value, Vals vs us ∧ s.heap.IsList a us.toArray ∧ us.length ≤ sizeLine := by
  obtain ⟨l, its, n, r, h⟩ := I.hok a _ e
  exact ⟨its, r, ⟨_, h, rfl, n, rfl⟩, by rw [← r.length]; exact l⟩
theorem be_listZip (g : Gd b Nm tb gl k) (hg1 : Gl b.X "list") (hm1 : b.X.mg "list" = none) (hg2 : Gl b.X "zip") (hm2 : b.X.mg "zip" = none) (ha : BAs b [e1, e2] t)
    (h0 : starEach [.Call (.Name "zip" p2) [e1, e2] [] p3] b.X.env = (false, eval (.Call (.Name "zip" p2) [e1, e2] [] p3) b.X.env) :: starEach [] b.X.env := by rfl)
    (he : starEach [e1, e2] b.X.env = (false, eval e1 b.X.env) :: starEach [e2] b.X.env := by rfl) (hpl : (backTo p3 (starEach [e2] b.X.env)).any (·.1) = false := by rfl) :
    BE b (.Call (.Name "list" p1) [.Call (.Name "zip" p2) [e1, e2] [] p3] [] pos) (bListZip t) := by
  refine ⟨fun pins s σ H Q I ⟨N, F, E, QB, XB, ok, ht, hQ, hX⟩ => ?_⟩
  refine wpAny_Call_Name_kw (ld_blt I hg1 hm1 PyProof.Rows.boot_list ?_ (by decide) (by decide))
  refine PyProof.Rows.callWith_type1 ?_ h0 rfl
  rw [h0]
  show wpAny _ _ (spliced ((false, eval (.Call (.Name "zip" p2) [e1, e2] [] p3) b.X.env) :: backTo pos (starEach [] b.X.env))) _ _ s
  refine Calls.spliced_cons ?_
  refine wpAny_Call_Name_kw (ld_blt I hg2 hm2 PyProof.Rows.boot_zip ?_ (by decide) (by decide))
  refine PyProof.Rows.callWith_type1 (thn (BAs.runB ha I ok ht hX) fun us s1 ⟨vs, H1, F', E', ds, I1, r, s', ok', rp, q⟩ => ?_) he hpl
  match ds, q with
  | [.lst xs, .lst ys], q =>
    rw [RepA] at rp
    obtain ⟨v1, r1, ev, rx, rr⟩ := rp
    rw [RepA] at rr
    obtain ⟨v2, r2, ev2, ry, rn⟩ := rr
    rw [RepA] at rn
    subst rn
    subst ev2
    subst ev
    rw [Rep] at rx ry
    obtain ⟨l1, vx, e1, g1, rx⟩ := rx
    obtain ⟨l2, vy, e2, g2, ry⟩ := ry
    subst e1
    subst e2
    obtain ⟨u1, u2, eu, q1, q2⟩ := vals2 r
    subst eu
    obtain rfl : u1 = Value.ref l1 := q1
    obtain rfl : u2 = Value.ref l2 := q2
    obtain ⟨ux, wx, hlx, zx⟩ := lst_atL I1 (ok'.sub _ _ g1)
    obtain ⟨uy, wy, hly, zy⟩ := lst_atL I1 (ok'.sub _ _ g2)
    refine call_zip_2 hlx hly fun h1 z0 zti zto zi1 zi2 zsz zk => ?_
    refine Calls.spliced_nil ?_
    have lt1 : l1 < s1.heap.objs.size := by obtain ⟨_, e, _⟩ := hlx; exact Heap.lt_size e
    have lt2 : l2 < s1.heap.objs.size := by obtain ⟨_, e, _⟩ := hly; exact Heap.lt_size e
    have gt : ∀ {a n : Nat}, a < s1.heap.objs.size → a ≠ s1.heap.objs.size + n := fun {a n} h => by omega
    have D : ZipApart (s1.heap.objs.size + 4) (s1.heap.objs.size + 2) (s1.heap.objs.size + 3) s1.heap.objs.size (s1.heap.objs.size + 1) l1 l2 := by
      have e1 : l1 < s1.heap.objs.size := lt1
      have e2 : l2 < s1.heap.objs.size := lt2
      refine ⟨?_, ?_, ?_, ?_, ?_, ?_, ?_, ?_, ?_, ?_, ?_, ?_, ?_, ?_, ?_, ?_, ?_, ?_⟩ <;> first | exact gt lt1 | exact gt lt2 | exact Nat.ne_of_lt lt1 | exact Nat.ne_of_lt lt2 | (apply Nat.ne_of_gt; omega) | (apply Nat.ne_of_lt; omega)
    have r0 : ZRun h1 (s1.heap.objs.size + 4) (s1.heap.objs.size + 2) (s1.heap.objs.size + 3) s1.heap.objs.size (s1.heap.objs.size + 1) l1 l2 ux.toArray uy.toArray 0 := ⟨.inl z0, zti, ⟨_, _, zto⟩, zi1, zi2, hlx.at fun o e => zk _ o e, hly.at fun o e => zk _ o e⟩
    have hh : b.X.A.handled = none := I1.ok.hd g.calm
    refine call_listZip (s := { s1 with heap := h1 }) hh D r0 z0 ?_ ?_ fun h2 acc c ts k1 k2 k3 k4 k5 => ?_
    · show min ux.toArray.size uy.toArray.size ≤ sizeLine
      rw [List.size_toArray, List.size_toArray]
      omega
    · show s1.heap.objs.size + 4 < h1.objs.size ∧ s1.heap.objs.size + 2 < h1.objs.size ∧ s1.heap.objs.size + 3 < h1.objs.size ∧ s1.heap.objs.size < h1.objs.size ∧ s1.heap.objs.size + 1 < h1.objs.size ∧ l1 < h1.objs.size ∧ l2 < h1.objs.size
      rw [zsz]
      exact ⟨by omega, by omega, by omega, by omega, by omega, Nat.lt_of_lt_of_le lt1 (by omega), Nat.lt_of_lt_of_le lt2 (by omega)⟩
    · have k1 : ∀ (b : Addr) (o : Obj), b ≠ s1.heap.objs.size + 4 → b ≠ s1.heap.objs.size + 3 → b ≠ s1.heap.objs.size → b ≠ s1.heap.objs.size + 1 → h1.get? b = some o → h2.get? b = some o := k1
      have k2 : h2.get? h1.objs.size = some { cls := .type "list", dict := none, data := .seq acc c, slots := #[] } := k2
      have k5 : ZGot h2 ux.toArray uy.toArray (h1.objs.size + 1) ts := k5
      have k4 : ts.length = min ux.toArray.size uy.toArray.size := k4
      rw [List.size_toArray, List.size_toArray, ← wx.length, ← wy.length] at k4
      have kept : ∀ b o, s1.heap.get? b = some o → h2.get? b = some o := fun b o e => by
        have l := Heap.lt_size e
        exact k1 b o (gt l) (gt l) (Nat.ne_of_lt l) (gt l) (zk b o e)
      have at2 : ∀ x ∈ ts.zip (List.zipWith (fun a b => HO.tup [a, b]) vx vy), ∃ (j : Nat) (a b : V), ts[j]? = some x.1 ∧ vx[j]? = some a ∧ vy[j]? = some b ∧ x.2 = .tup [a, b] := fun x hx => by
        obtain ⟨j, hj⟩ := List.mem_iff_getElem?.mp hx
        rw [List.getElem?_zip_eq_some] at hj
        obtain ⟨h1, h2⟩ := hj
        rw [List.getElem?_zipWith_eq_some] at h2
        obtain ⟨a, b, ha, hb, e⟩ := h2
        exact ⟨j, a, b, h1, ha, hb, e.symm⟩
      have fsts : (ts.zip (List.zipWith (fun a b => HO.tup [a, b]) vx vy)).map (·.1) = ts := List.map_fst_zip (by rw [List.length_zipWith]; omega)
      have lo : ∀ t ∈ ts, h1.objs.size + 1 ≤ t := k5.lo
      have nS : h1.objs.size ∉ ts := fun h => absurd (lo _ h) (Nat.not_succ_le_self _)
      have nd2 : (((h1.objs.size, HO.lst (ts.map V.ref)) :: ts.zip (List.zipWith (fun a b => HO.tup [a, b]) vx vy)).map (·.1)).Nodup := by
        rw [List.map_cons, fsts, List.nodup_cons]
        exact ⟨nS, k5.nd⟩
      have h5 : s1.heap.objs.size ≤ h1.objs.size := by rw [zsz]; exact Nat.le_add_right _ _
      have J := Inv.many (h' := h2) (l := (h1.objs.size, HO.lst (ts.map V.ref)) :: ts.zip (List.zipWith (fun a b => HO.tup [a, b]) vx vy)) I1 kept (fun x hx => by
        rcases List.mem_cons.mp hx with e | hx
        · subst e
          exact h5
        · obtain ⟨j, a, b, ht, _⟩ := at2 x hx
          exact Nat.le_trans h5 (Nat.le_trans (Nat.le_succ _) (lo _ (List.mem_of_getElem? ht)))) nd2 fun x hx => by
        rcases List.mem_cons.mp hx with e | hx
        · subst e
          have vr : ∀ l : List Addr, Vals (l.map V.ref) (l.map Value.ref) := fun l => by
            induction l with
            | nil => exact .nil
            | cons a l ih => exact .cons rfl ih
          refine ⟨by rw [List.length_map, k4, wx.length, wy.length]; omega, ts.map Value.ref, c, vr ts, ?_⟩
          rw [k2, ← k3]
        · obtain ⟨j, a, b, ht, ha, hb, e⟩ := at2 x hx
          obtain ⟨x', y', f1, f2, f3⟩ := k5.at_ j _ ht
          obtain ⟨a', g1, g2⟩ := Vals.get wx ha
          obtain ⟨b', g3, g4⟩ := Vals.get wy hb
          rw [List.getElem?_toArray] at f1 f2
          rw [g1] at f1
          rw [g3] at f2
          cases f1
          cases f2
          rw [e]
          exact ⟨by rw [sizeLine_eq]; simp, [x', y'], .cons g2 (.cons g4 .nil), _, f3, rfl, _, rfl⟩
      have fresh : ∀ {a : Addr}, s1.heap.objs.size ≤ a → H1 a = none := fun h => I1.hok.fresh h
      obtain ⟨ok2, s2⟩ := ok'.many (l := ts.zip (List.zipWith (fun a b => HO.tup [a, b]) vx vy)) (by rw [fsts]; exact k5.nd) fun x hx => by
        obtain ⟨j, a, b, ht, _⟩ := at2 x hx
        exact fresh (Nat.le_trans h5 (Nat.le_trans (Nat.le_succ _) (lo _ (List.mem_of_getElem? ht))))
      have hp : (addH H1 (ts.zip (List.zipWith (fun a b => HO.tup [a, b]) vx vy))) h1.objs.size = none := by
        rw [addH_of (by rw [fsts]; exact nS)]
        exact fresh h5
      have ok3 := ok2.newOw (o := .lst (dZip xs ys)) (p := h1.objs.size) (same_upd (o := HO.lst (ts.map V.ref)) hp) hp ⟨ts.map V.ref, upd_same, repA_of (by
        unfold dZip
        rw [List.length_zipWith, List.length_map, k4, repA_len rx, repA_len ry]) fun j d v ed ev => by
        unfold dZip at ed
        rw [List.getElem?_zipWith_eq_some] at ed
        obtain ⟨dx, dy, q1, q2, q3⟩ := ed
        obtain ⟨vx', p1, p2⟩ := repA_nth rx q1
        obtain ⟨vy', p3, p4⟩ := repA_nth ry q2
        rw [List.getElem?_map] at ev
        cases et : ts[j]? with
        | none => rw [et] at ev; cases ev
        | some t =>
          rw [et] at ev
          have ev : some (V.ref t) = some v := ev
          cases ev
          rw [← q3, Rep]
          refine ⟨t, [vx', vy'], rfl, .inl (.inl (addH_at (by rw [fsts]; exact k5.nd) (List.mem_of_getElem? (i := j) ?_))), repA_cons (Rep.mono s2 _ _ p2) (repA_cons (Rep.mono s2 _ _ p4) repA_nil)⟩
          rw [List.getElem?_zip_eq_some]
          exact ⟨et, by rw [List.getElem?_zipWith_eq_some]; exact ⟨vx', vy', p1, p3, rfl⟩⟩⟩
      exact ⟨.ref h1.objs.size, _, J, rfl, hQ _ E' _ _ _ (s'.trans s2) ok3 q⟩
end
end B
/-! BHf: what the head tells of exceptions' classes, as tests. -/
namespace B
open PySem PySem.Spec PyProof.Rows L2
/-- facts of classes of exceptions, told by names -/
inductive XFa where
  /-- x is a class over ValueError that may have an __init__ of its own -/
  | oex (x : Str)
  /-- .. its __init__, its field -/
  | ini (x f : Str)
  /-- instances of x may be asked -/
  | ask (x : Str)
  /-- x.__init__ is ValueError's -/
  | sup (x : Str)
  /-- isinstance of x's instances and the class y, the type y -/
  | kit (x y : Str) (b : Bool)
  | kiT (x : Str) (y : String) (b : Bool)
  /-- many at once: instances of these, the class y, the type T; a field's name; an except clause's class -/
  | kits (y : Str) (l : List (Str × Bool))
  | kitTs (T : String) (l : List (Str × Bool))
  | flds (f : Str) (l : List Str)
  | exms (y : Str) (l : List (Str × Bool))
def oexB (K : PySem.W.Frag) (C : Addr) : Bool := match K.lookup C with
  | some ⟨.type "type", _, .cls cd, sl⟩ => (match cd.mro, sl.toList with
    | .ref C' :: bm, [_, _, _, _, some (.builtin n), _] => C' == C && n == "ValueError.__new__" && !cd.hasDel && cd.hasDict && PySem.HandSPX.refsVE bm
    | _, _ => false)
  | _ => false
theorem oexB_ok {K : PySem.W.Frag} {C : Addr} (q : oexB K C = true) : ∃ nm q N bs bm sn sub ab col dd k0 k1 k2 k3 k5, K.lookup C = some (excClassObj nm q C N bs bm true sn sub ab col dd k0 k1 k2 k3 k5 "ValueError.__new__") ∧ PySem.HandSPX.refsVE bm = true := by
  unfold oexB at q
  split at q
  · rename_i dd cd sl ho
    split at q
    · rename_i C' bm k0 k1 k2 k3 n k5 hm hs
      simp only [Bool.and_eq_true, beq_iff_eq, Bool.not_eq_true'] at q
      obtain ⟨⟨⟨⟨rfl, rfl⟩, hdel⟩, hd⟩, hbm⟩ := q
      obtain ⟨nm, bs, mro, ns, qn, hd', sn, sub, ab, col, del⟩ := cd
      dsimp only at hm hdel hd
      subst hm hdel hd
      have hsl : sl = #[k0, k1, k2, k3, some (.builtin "ValueError.__new__"), k5] := by
        obtain ⟨l⟩ := sl
        simp only at hs
        rw [hs]
      subst hsl
      exact ⟨nm, qn, ns, bs, bm, sn, sub, ab, col, dd, k0, k1, k2, k3, k5, ho, hbm⟩
    · cases q
  · cases q
def isE (K : PySem.W.Frag) (C : Addr) (n id : String) : Bool := decide (PySem.W.findIn K (.ref C) n = some (some (.builtin id)))
def askB (K : PySem.W.Frag) (x : Str) : Bool := decide (PySem.W.findIn K (.ref (He.ga K x)) "__getattribute__" = some (some (.builtin "BaseException.__getattribute__"))) && (decide (PySem.W.findIn K (.ref (He.ga K x)) "__getattr__" = some none) &&
    (decide (PySem.W.subIn K (.ref (He.ga K x)) (.type "BaseException") = some true) && (PySem.W.hasDictIn K (He.ga K x) && (decide (PySem.W.findIn K (.ref (He.ga K x)) "__class__" = some (some (.builtin "object.__class__"))) &&
    (decide (PySem.W.specialIn K (.builtin "object.__class__") "__get__" = some (some (.builtin "getset_descriptor.__get__"))) && (decide (PySem.W.takesIn K (.builtin "object.__class__") = some true) &&
    decide (PySem.W.mroIn K (He.ga K x) (.type "object") = some true)))))))
def XFa.ok (K : PySem.W.Frag) : XFa → Bool
  | .oex x => oexB K (He.ga K x) && (decide (PySem.W.findIn K (.ref (He.ga K x)) "__setattr__" = some (some (.builtin "object.__setattr__"))) && (decide (PySem.W.subIn K (.ref (He.ga K x)) (.type "BaseException") = some true) &&
    (decide (PySem.W.typeIn K (.ref (He.ga K x)) = some (.type "type")) && PySem.W.keepIn K (.ref (He.ga K x)))))
  | .ini x f => decide (PySem.W.findIn K (.ref (He.ga K x)) "__init__" = some (some (.ref (He.ma K (He.ga K x) "__init__")))) && (decide (PySem.W.typeIn K (.ref (He.ma K (He.ga K x) "__init__")) = some (.type "function")) &&
    decide (PySem.W.findIn K (.ref (He.ga K x)) f = some none))
  | .ask x => askB K x
  | .sup x => PySem.W.readsIn K (He.ga K x) (.type "type") && (decide (PySem.W.specialIn K (.ref (He.ga K x)) "__getattribute__" = some (some (.builtin "type.__getattribute__"))) &&
    (match PySem.W.findCls K (.ref (He.ga K x)) (.type "type") "__init__" with
    | some (.val v) => decide (v = .builtin "ValueError.__init__")
    | _ => false))
  | .kit x y b => decide (PySem.W.kitOne K (.ref (He.ga K x)) (.ref (He.ga K y)) = some b)
  | .kiT x y b => decide (PySem.W.kitOne K (.ref (He.ga K x)) (.type y) = some b)
  | .kits y l => l.all fun p => askB K p.1 && decide (PySem.W.kitOne K (.ref (He.ga K p.1)) (.ref (He.ga K y)) = some p.2)
  | .kitTs T l => l.all fun p => askB K p.1 && decide (PySem.W.kitOne K (.ref (He.ga K p.1)) (.type T) = some p.2)
  | .flds f l => l.all fun x => askB K x && decide (PySem.W.findIn K (.ref (He.ga K x)) f = some none)
  | .exms y l => l.all fun p => decide (PySem.W.exmOne K (.ref (He.ga K p.1)) (.ref (He.ga K y)) = some p.2)
section
variable {K : PySem.W.Frag} {x y f : Str}
theorem and2 {a b : Bool} (h : (a && b) = true) : a = true ∧ b = true := Bool.and_eq_true_iff.mp h
theorem XFa.oex_ok (h : (XFa.oex x).ok K = true) : OexC K (He.ga K x) := by
  obtain ⟨h1, h⟩ := and2 h
  obtain ⟨h2, h⟩ := and2 h
  obtain ⟨h3, h⟩ := and2 h
  obtain ⟨h4, h5⟩ := and2 h
  exact ⟨oexB_ok h1, of_decide_eq_true h2, of_decide_eq_true h3, of_decide_eq_true h4, h5⟩
theorem XFa.cls_ok (h : (XFa.oex x).ok K = true) (h2 : (XFa.ini x f).ok K = true) : XCls K (He.ga K x) (He.ma K (He.ga K x) "__init__") f := by
  obtain ⟨q1, h2⟩ := and2 h2
  obtain ⟨q2, q3⟩ := and2 h2
  exact ⟨XFa.oex_ok h, of_decide_eq_true q1, of_decide_eq_true q2, of_decide_eq_true q3⟩
theorem XFa.ask_ok (h : (XFa.ask x).ok K = true) : ExcC K (He.ga K x) ∧ XfC K (He.ga K x) := by
  obtain ⟨h1, h⟩ := and2 h
  obtain ⟨h2, h⟩ := and2 h
  obtain ⟨h3, h⟩ := and2 h
  obtain ⟨h4, h⟩ := and2 h
  obtain ⟨h5, h⟩ := and2 h
  obtain ⟨h6, h⟩ := and2 h
  obtain ⟨h7, h8⟩ := and2 h
  exact ⟨⟨of_decide_eq_true h1, of_decide_eq_true h2, of_decide_eq_true h3, h4, of_decide_eq_true h5, of_decide_eq_true h6, of_decide_eq_true h7, of_decide_eq_true h8⟩, ⟨of_decide_eq_true h1, of_decide_eq_true h2, of_decide_eq_true h3, h4⟩⟩
def catOf (l : List (Str × Bool)) (c : Str) : Option Bool := l.lookup c
def okcOf (l : List Str) (c : Str) : Bool := decide (c ∈ l)
theorem lookup_mem {l : List (Str × Bool)} {c : Str} {k : Bool} (h : catOf l c = some k) : (c, k) ∈ l := PySem.mem_of_lookup h
theorem XFa.kits_ok {l : List (Str × Bool)} (h : (XFa.kits y l).ok K = true) : ∀ c k, catOf l c = some k → ExcC K (He.ga K c) ∧ PySem.W.kitOne K (.ref (He.ga K c)) (.ref (He.ga K y)) = some k := fun c k e => by
  obtain ⟨h1, h2⟩ := and2 (List.all_eq_true.mp h _ (lookup_mem e))
  exact ⟨(XFa.ask_ok h1).1, of_decide_eq_true h2⟩
theorem XFa.kitTs_ok {l : List (Str × Bool)} {T : String} (h : (XFa.kitTs T l).ok K = true) : ∀ c k, catOf l c = some k → ExcC K (He.ga K c) ∧ PySem.W.kitOne K (.ref (He.ga K c)) (.type T) = some k := fun c k e => by
  obtain ⟨h1, h2⟩ := and2 (List.all_eq_true.mp h _ (lookup_mem e))
  exact ⟨(XFa.ask_ok h1).1, of_decide_eq_true h2⟩
theorem XFa.flds_ok {l : List Str} (h : (XFa.flds f l).ok K = true) : ∀ c, okcOf l c = true → XfC K (He.ga K c) ∧ PySem.W.findIn K (.ref (He.ga K c)) f = some none := fun c e => by
  obtain ⟨h1, h2⟩ := and2 (List.all_eq_true.mp h _ (of_decide_eq_true e))
  exact ⟨(XFa.ask_ok h1).2, of_decide_eq_true h2⟩
theorem XFa.exms_ok {l : List (Str × Bool)} (h : (XFa.exms y l).ok K = true) : ∀ c k, catOf l c = some k → PySem.W.exmOne K (.ref (He.ga K c)) (.ref (He.ga K y)) = some k := fun c k e =>
  of_decide_eq_true (List.all_eq_true.mp h _ (lookup_mem e))
theorem XFa.sup_ok (h : (XFa.sup x).ok K = true) : SInit K (He.ga K x) := by
  obtain ⟨h1, h⟩ := and2 h
  obtain ⟨h2, h⟩ := and2 h
  refine ⟨h1, of_decide_eq_true h2, ?_⟩
  split at h
  · rename_i v e
    rw [e, of_decide_eq_true h]
  · cases h
theorem XFa.kit_ok {b : Bool} (h : (XFa.kit x y b).ok K = true) : PySem.W.kitOne K (.ref (He.ga K x)) (.ref (He.ga K y)) = some b := of_decide_eq_true h
theorem XFa.kiT_ok {b : Bool} {T : String} (h : (XFa.kiT x T b).ok K = true) : PySem.W.kitOne K (.ref (He.ga K x)) (.type T) = some b := of_decide_eq_true h
end
def XFs (K : PySem.W.Frag) (l : List XFa) : Prop := (l.all fun f => f.ok K) = true
theorem XFs.at_ {K : PySem.W.Frag} {l : List XFa} (h : XFs K l) (i : Nat) {f : XFa} (e : l[i]? = some f := by rfl) : f.ok K = true := List.all_eq_true.mp h _ (List.mem_of_getElem? e)
theorem xkw_of {K : PySem.W.Frag} {x qual : Str} {params : Arguments} {body : List Stmt} {scope : Scope} {kws : List (Str × V)} {f : Addr} {fd : FuncData} {ps : List Str} {n : Str} (F : FunD K x qual params body scope [] kws f fd)
    (h : ∀ (kV doc pm : Value) (an : Option Addr) (cdv ct q u : Value), bindArgs (PySem.W.fnOf x qual params body scope .none kV doc pm an cdv ct) ⟨[q], [(n, u)]⟩ = pure (ps.zip [q, u])) :
    ∀ (s : Shared) (q u : Value), K.In s.heap → BindsTo s fd ⟨[q], [(n, u)]⟩ (ps.zip [q, u]) := fun s q u _ => by
  obtain ⟨oc, od, dV, kV, doc, pm, an, cdv, ct, osl, rfl, lk, hcd, hD, hK⟩ := F.ex
  rcases hD with ⟨_, rfl⟩ | ⟨e, _⟩
  · exact .of_eq (h kV doc pm an cdv ct q u)
  · exact absurd rfl e
/-! ### the head's hook with tuples and these facts -/
def obsY (n : Nat) (fa : List He.Fa) (fn : List He.DefD) (tu : List (Str × List He.Dv)) (xf : List XFa) (g : Addr → Option Obj) : Bool × He.AlD :=
  ((tu.all fun p => He.tupB (He.frG g (He.asD g n ++ [cStatics])) p.1 p.2) && (xf.all fun f => f.ok (He.frG g (He.asD g n ++ [cStatics]))), He.obsD fa fn (He.frG g (He.asD g n ++ [cStatics])))
def hookY (n : Nat) (fa : List He.Fa) (fn : List He.DefD) (tu : List (Str × List He.Dv)) (xf : List XFa) : PySem.W.Hook where
  α := Bool × He.AlD
  obs := fun s => obsY n fa fn tu xf s.heap.get?
  val := fun _ => (true, He.valD fn)
  says := fun _ h => ∃ K : PySem.W.Frag, K.In h ∧ TupsOk K tu ∧ XFs K xf ∧ He.SaysD fa fn K
  of := fun _ _ e => ⟨_, He.frG_in, (and2 (congrArg (fun z : Bool × He.AlD => z.1) e)).1, (and2 (congrArg (fun z : Bool × He.AlD => z.1) e)).2, congrArg (fun z : Bool × He.AlD => z.2) e⟩
  keeps := fun _ _ _ ⟨K, hK, c⟩ k => ⟨K, PySem.W.Frag.In.keeps hK k, c⟩
theorem obsY_eq {n : Nat} {fa : List He.Fa} {fn : List He.DefD} {tu : List (Str × List He.Dv)} {xf : List XFa} {g : Addr → Option Obj} {s : Shared} (h : ∀ a, g a = s.heap.get? a) : obsY n fa fn tu xf g = (hookY n fa fn tu xf).obs s := by
  have e : g = s.heap.get? := funext h
  rw [e] <;> rfl
end B
/-! BXr: max, min of two ints; a list times an int; dict displays whose keys are computed texts. -/
namespace B
open PySem PySem.Spec PyProof.Rows L2
section
variable {b : Bx} {Nm : List Str} {tb : List (Nat × Str)} {gl : List Str} {k : Nat} {e e1 e2 : Expr} {t : BA} {p p1 p2 p3 pos : Pos}
def bMx (f : Int → Int → Int) (t : BA) : BT := fun E Q X => t E (fun ds E' => match ds with
  | [.int i, .int j] => Q (.fr (.int (f i j))) E'
  | _ => False) X
theorem mx_low {f : Int → Int → Int} {r : List V → Hp → VK → Prop} (hr : ∀ i j H Q, Q (.int (f i j)) H → r [.int i, .int j] H Q) : ∀ σ H Q, lowE b (bMx f t) σ H Q → tCB r (lowA b t) σ H Q := fun σ H Q ⟨N, F, E, QB, XB, ok, ht, hQ, hX⟩ =>
  ⟨N, F, E, _, XB, ok, ht, fun F1 E1 ds vs H1 s1 ok1 r1 q1 => by
    match ds, q1 with
    | [.int i, .int j], q1 =>
      rw [RepA] at r1
      obtain ⟨v1, r1', e1, rx, rr⟩ := r1
      rw [RepA] at rr
      obtain ⟨v2, r2', e2, ry, rn⟩ := rr
      rw [RepA] at rn
      rw [Rep] at rx ry
      subst rn e2 e1 rx ry
      exact hr i j H1 _ (hQ F1 E1 _ _ H1 s1 (ok1.push rep_int) q1), hX⟩
theorem be_max (g : Gd b Nm tb gl k) (hg : Gl b.X "max") (hm : b.X.mg "max" = none) (ha : BAs b [e1, e2] t) (he : starEach [e1, e2] b.X.env = (false, eval e1 b.X.env) :: starEach [e2] b.X.env := by rfl)
    (hpl : (backTo pos (starEach [e2] b.X.env)).any (·.1) = false := by rfl) : BE b (.Call (.Name "max" p) [e1, e2] [] pos) (bMx (fun i j => if j > i then j else i) t) :=
  pe_weak (pe_callB (call_max2 g.calm) hg hm PyProof.Rows.boot_max ha (by decide) (by decide) he hpl) (mx_low fun i j H Q q => ⟨i, j, rfl, q⟩)
theorem be_min (g : Gd b Nm tb gl k) (hg : Gl b.X "min") (hm : b.X.mg "min" = none) (ha : BAs b [e1, e2] t) (he : starEach [e1, e2] b.X.env = (false, eval e1 b.X.env) :: starEach [e2] b.X.env := by rfl)
    (hpl : (backTo pos (starEach [e2] b.X.env)).any (·.1) = false := by rfl) : BE b (.Call (.Name "min" p) [e1, e2] [] pos) (bMx (fun i j => if j < i then j else i) t) :=
  pe_weak (pe_callB (call_min2 g.calm) hg hm PyProof.Rows.boot_min ha (by decide) (by decide) he hpl) (mx_low fun i j H Q q => ⟨i, j, rfl, q⟩)
/-! ### a list times an int -/
def dRepL : F2 := fun x y QB => match x, y with
  | .lst ds, .int k => -(2 ^ 63) ≤ k ∧ k < 2 ^ 63 ∧ ds.length * k.toNat ≤ sizeLine ∧ QB (.ow (.lst (List.replicate k.toNat ds).flatten))
  | _, _ => False
theorem repA_rep {L : Lb} {F : Hp} {ds : List D} {vs : List V} (h : RepA L F ds vs) : ∀ n : Nat, RepA L F (List.replicate n ds).flatten (List.replicate n vs).flatten
  | 0 => repA_nil
  | n + 1 => by
    rw [List.replicate_succ, List.replicate_succ, List.flatten_cons, List.flatten_cons]
    exact repA_app h (repA_rep h n)
theorem op2_repL : Op2 b rRep dRepL := by
  intro N F E σ H x y v u QB Q ok rx ry hf kk
  cases x with
  | lst ds =>
    cases y with
    | int k =>
      obtain ⟨a, vs, rfl, ha, ra⟩ := rx
      have ry : Rep b.lb F (.int k) u := ry
      rw [Rep] at ry
      subst ry
      obtain ⟨h1, h2, h3, q⟩ := hf
      refine ⟨a, k, vs, rfl, rfl, ha, h1, h2, by rw [← repA_len ra]; exact h3, fun p hp => ?_⟩
      exact kk F (.ow (.lst (List.replicate k.toNat ds).flatten)) _ _ (Same.refl F) (ok.newOw (o := .lst (List.replicate k.toNat ds).flatten) (same_upd hp) hp ⟨_, upd_same, repA_rep ra _⟩) q
    | _ => exact False.elim hf
  | _ => exact False.elim hf
theorem be_repL {ta : BL} {tb : BO} {a c : Expr} (ha : BLe b a ta) (hc : BOp b c tb) : BE b (.BinOp a .Mult c pos) (bBin dRepL ta tb) := be_op op_rep op2_repL ha hc
/-! ### dict displays, the keys computed texts -/
def DKt (b : Bx) : List (Expr × Expr) → List (BO × BO) → Prop
  | [], [] => True
  | (ke, ve) :: l, (u, t) :: ts => BV b ke u ∧ BV b ve t ∧ DKt b l ts
  | _, _ => False
def dkRun : List (BO × BO) → En → (KV2 → En → Prop) → QX → Prop
  | [], E, Q, _ => Q [] E
  | (u, t) :: ts, E, Q, X => u E (fun kd E0 => match kd with
    | .str k => t E0 (fun d E1 => dkRun ts E1 (fun kvs E2 => Q ((.str k, d) :: kvs) E2) X) X
    | _ => False) X
def bDk (ts : List (BO × BO)) : BT := fun E Q X => ts.length ≤ 15 ∧ dkRun ts E (fun kvs E1 => Q (.ow (.dic (dMerge kvs))) E1) X
theorem dkp_low {l : List (Expr × Expr)} : ∀ {ts : List (BO × BO)}, DKt b l ts → ∀ {N : Nh} {F : Hp} {E : En} {QB : KV2 → En → Prop} {XB : QX} {pins : List (Addr × Obj)} {σ : L2.St} {H : Hp} {s : Shared}, Inv b.X pins σ H s → Ok b.lb N F E σ H → dkRun ts E QB XB → xOk b N F XB →
    wpAny (model b.X.prog b.X.w) b.X.A (evalPairs (pairsOf b pos l)) (fun vs s1 => ∃ us kvs H1 F' E', Inv b.X pins σ H1 s1 ∧ Carries (strKind b.X.prog b.X.w) vs us ∧ Same F F' ∧ Ok b.lb N F' E' σ H1 ∧ RepS b.lb F' kvs us ∧ kvs.length = ts.length ∧ QB kvs E') b.X.xe s := by
  induction l with
  | nil =>
    intro ts hd N F E QB XB pins σ H s I ok ht hX
    cases ts with
    | nil => exact evalPairs_nil ⟨[], [], H, F, E, I, True.intro, Same.refl F, ok, by rw [RepS], rfl, ht⟩
    | cons x ts => exact hd.elim
  | cons x l ih =>
    intro ts hd N F E QB XB pins σ H s I ok ht hX
    obtain ⟨ke, ve⟩ := x
    cases ts with
    | nil => exact hd.elim
    | cons y ts =>
      obtain ⟨tk0, t⟩ := y
      obtain ⟨hk, hv, hd⟩ := hd
      refine evalPairs_cons (thn (BV.runB hk I ok ht hX) fun ku s1 ⟨kv, H1, F1, E1, d1, I1, rk, s1F, ok1, rd1, q1⟩ => ?_)
      cases d1 with
      | str z =>
        rw [Rep] at rd1
        subst rd1
        obtain ⟨tk, rfl⟩ := rk
        refine wpAny_bind (thn (BV.runB hv I1 ok1 q1 (hX.go s1F)) fun vu s2 ⟨vv, H2, F2, E2, d2, I2, rv, s2F, ok2, rd2, q2⟩ => ?_)
        refine wpAny_bind (wpAny_standAt (wpAny_pure ?_))
        refine thn (ih hd I2 ok2 q2 (hX.go (s1F.trans s2F))) fun vs s3 ⟨us, kvs, H3, F3, E3, I3, c3, s3F, ok3, r3, l3, q3⟩ => ?_
        refine ⟨(z, vu) :: us, (.str z, d2) :: kvs, H3, F3, E3, I3, ⟨strKind_is _ _ _ _, rfl, c3⟩, (s1F.trans s2F).trans s3F, ok3, ?_, by rw [List.length_cons, List.length_cons, l3], q3⟩
        rw [RepS]
        exact ⟨z, vu, vv, us, rfl, rfl, rv, Rep.mono s3F _ _ rd2, r3⟩
      | _ => exact q1.elim
theorem dkt_len : ∀ {l : List (Expr × Expr)} {ts : List (BO × BO)}, DKt b l ts → l.length = ts.length
  | [], [], _ => rfl
  | [], _ :: _, h => h.elim
  | _ :: _, [], h => h.elim
  | (_, _) :: _, (_, _) :: _, h => congrArg (· + 1) (dkt_len h.2.2)
theorem dkt_cons {ke ve : Expr} {l : List (Expr × Expr)} {u t : BO} {ts : List (BO × BO)} (h1 : BV b ke u) (h2 : BV b ve t) (h3 : DKt b l ts) : DKt b ((ke, ve) :: l) ((u, t) :: ts) := ⟨h1, h2, h3⟩
theorem be_dk {ts : List (BO × BO)} {keys : List (Option Expr)} {values : List Expr} (h : DKt b (zipK keys values) ts) (h0 : zipK keys values ≠ []) (hzz : okZ keys values = true) : BE b (.Dict keys values pos) (bDk ts) :=
  ⟨fun pins s σ H Q I ⟨N, F, E, QB, XB, ok, ⟨hz, ht⟩, hQ, hX⟩ => by
    have hlen : (zipK keys values).length = ts.length := dkt_len h
    have n := I.hok.fresh (Nat.le_refl s.heap.objs.size)
    have hN : N s.heap.objs.size = none := by
      cases q : N s.heap.objs.size with
      | none => rfl
      | some y => have := ok.nsub _ y q; rw [n] at this; cases this
    have e : (s.heap.push emptyO).get? s.heap.objs.size = some emptyO := Heap.get?_push_size _ rfl
    have I1 : Inv b.X pins σ (upd H s.heap.objs.size (dO s.heap.objs.size emptyO)) { s with heap := s.heap.push emptyO } := I.laid (a := s.heap.objs.size) (o := dO s.heap.objs.size emptyO) (t' := s.toks) (fun _ _ q => Heap.get?_push_of_some _ q) (Nat.le_refl _) ⟨e, ⟨_, e⟩, fun _ _ z k => k _ z⟩
    have ok1 := ok.laid (o := dO s.heap.objs.size emptyO) n
    have hX1 : xOk b (N.put s.heap.objs.size (dO s.heap.objs.size emptyO)) F XB := fun F' E' x cls od σ' H' s' ok' xr hx => hX F' E' x cls od σ' H' s' (ok'.unput ok.lks hN) xr hx
    have hbig : (s.heap.objs.size == sysModules) = false := beq_eq_false_iff_ne.mpr (Nat.ne_of_gt I.big)
    refine wpAny_Dict_pairs (knd := strKind b.X.prog b.X.w) (shape_z keys values hzz) (by intro z; rw [pairsOf, List.map_eq_nil_iff] at z; exact h0 z) (by rw [pairsOf, List.length_map, hlen]; exact hz)
      (thn (dkp_low h I1 ok1 ht hX1) fun vs s1 ⟨us, kvs, H1, F', E', I2, hc, sF, ok2, rs, hl, q2⟩ => ⟨us, hc, ?_, fun h' hd' hs' => ?_⟩)
    · have hD : H1 s.heap.objs.size = some (dO s.heap.objs.size emptyO) := ok2.nsub _ _ (upd_same)
      exact Heap.dictOf_iff.mpr ⟨_, ext_at I2 hD, ⟨#[], 0, ⟨rfl, rfl, rfl⟩, rfl, (fun i hi => absurd hi (by simp)), .nil, List.nodup_nil⟩⟩
    · obtain ⟨o', ho', hd2⟩ := Heap.dictOf_iff.mp hd'
      have hD : H1 s.heap.objs.size = some (dO s.heap.objs.size emptyO) := ok2.nsub _ _ (upd_same)
      have I3 : Inv b.X pins σ (upd H1 s.heap.objs.size (dO s.heap.objs.size o')) { s1 with heap := h', toks := s1.toks + vs.length } := d_write I2 (by rw [hD]; exact True.intro) hs' ⟨o', ho'⟩ ⟨ho', ⟨_, ho'⟩, fun h1 h2 z k => k _ z⟩
      have ok3 := ok2.relaid (o' := dO s.heap.objs.size o') ok.lks hN (ok.lk_ne hN)
      have hlm : (dMerge kvs).length ≤ sizeLine := by
        have h1 := foldPut_len kvs []
        have h2 : (dMerge kvs).length ≤ ([] : KV2).length + kvs.length := h1
        rw [List.length_nil, hl] at h2
        have : (15 : Nat) ≤ sizeLine := by rw [sizeLine_eq]; decide
        omega
      exact ⟨.ref s.heap.objs.size, _, I3, rfl, hQ F' _ _ _ _ sF (ok3.takeP (o := .dic (dMerge kvs)) ok.lks hN ⟨o', upd_same, hbig, hlm, .inl ⟨_, hd2, merged_rep rs (by rw [RepS])⟩⟩) q2⟩⟩
end
end B
/-! BShw: data that can be shown, of any kinds at once (numbers below 10 ^ 60). -/
namespace B
open PySem PySem.Spec PyProof.Rows L2
inductive Shw : D → Prop where
  | non : Shw .non
  | bl (b : Bool) : Shw (.bl b)
  | int (i : Int) (h : i.natAbs < 10 ^ 60) : Shw (.int i)
  | str (s : Str) (h : PyData.strOk s = true) : Shw (.str s)
  | tup (xs : List D) (h : ∀ x ∈ xs, Shw x) : Shw (.tup xs)
  | lst (xs : List D) (h : ∀ x ∈ xs, Shw x) : Shw (.lst xs)
  | dic (kvs : List (D × D)) (h1 : ∀ x ∈ kvs, Shw x.1) (h2 : ∀ x ∈ kvs, Shw x.2) : Shw (.dic kvs)
theorem log_60 {n : Nat} (h : n < 10 ^ 60) : n.log2 < 1920 := by
  by_cases h0 : n = 0
  · subst h0; decide
  · have : n.log2 < 200 := by
      rw [Nat.log2_lt h0]
      exact Nat.lt_of_lt_of_le h (by decide)
    omega
theorem int_len {i : Int} (h : i.natAbs < 10 ^ 60) : (PyData.shown (.int i)).length ≤ 61 := by
  have h1 := int_text_length_le10 (k := 60) (by decide) h
  rw [PyData.shown]
  show (Str.ofString (toString i)).length ≤ 61
  rw [PySem.ofString_length]
  exact h1
theorem int_strOk (i : Int) : PyData.strOk (PyData.shown (.int i)) = true := by
  rw [strOk_iff]
  intro c hc
  have hc : c ∈ (PyData.shown (.int i)).cps.toList := hc
  refine Classical.byContradiction fun hn => ?_
  exact shown_int_free' (k := c) ⟨by omega, by omega⟩ i hc
theorem shw_all {d : D} (h : Shw d) : d.pure = true ∧ d.py.showable = true ∧ d.py.leavesShort 100 = true ∧ PyData.strOk d.py.shown = true := by
  induction h with
  | non => exact ⟨rfl, by simp [D.py, PyData.showable], by simp [D.py, PyData.leavesShort], by rw [D.py, PyData.shown]; decide +kernel⟩
  | bl b => exact ⟨rfl, by simp [D.py, PyData.showable], by simp [D.py, PyData.leavesShort], by rw [D.py, PyData.shown]; cases b <;> decide +kernel⟩
  | int i h =>
    refine ⟨rfl, by rw [D.py, PyData.showable]; exact decide_eq_true (log_60 h), ?_, by rw [D.py]; exact int_strOk i⟩
    rw [D.py, PyData.leavesShort]
    exact decide_eq_true (Nat.le_trans (int_len h) (by decide))
  | str s h =>
    refine ⟨rfl, by simp [D.py, PyData.showable], ?_, by rw [D.py, PyData.shown]; exact strOk_repr h⟩
    rw [D.py, PyData.leavesShort, List.all_eq_true]
    intro c hc
    have := strOk_iff.mp h c hc
    exact decide_eq_true (Nat.lt_trans this (by decide))
  | tup xs _ ih =>
    have go : ∀ l : List D, (∀ x ∈ l, x.pure = true ∧ x.py.showable = true ∧ x.py.leavesShort 100 = true ∧ PyData.strOk x.py.shown = true) → D.pureA l = true ∧ PyData.showableAll (D.pyA l) = true ∧ PyData.leavesShortAll 100 (D.pyA l) = true := by
      intro l
      induction l with
      | nil => intro _; simp [D.pureA, D.pyA, PyData.showableAll, PyData.leavesShortAll]
      | cons d l ih2 =>
        intro hl
        obtain ⟨a1, a2, a3, _⟩ := hl d List.mem_cons_self
        obtain ⟨b1, b2, b3⟩ := ih2 fun e he => hl e (List.mem_cons_of_mem _ he)
        simp [D.pureA, D.pyA, PyData.showableAll, PyData.leavesShortAll, a1, a2, a3, b1, b2, b3]
    obtain ⟨g1, g2, g3⟩ := go xs ih
    refine ⟨by rw [D.pure]; exact g1, by rw [D.py, PyData.showable]; exact g2, by rw [D.py, PyData.leavesShort]; exact g3, ?_⟩
    rw [D.py, PyData.shown]
    refine strOk_tuple fun t ht => ?_
    obtain ⟨d, hd, rfl⟩ := shownA_mem xs t ht
    exact (ih d hd).2.2.2
  | lst xs _ ih =>
    have go : ∀ l : List D, (∀ x ∈ l, x.pure = true ∧ x.py.showable = true ∧ x.py.leavesShort 100 = true ∧ PyData.strOk x.py.shown = true) → D.pureA l = true ∧ PyData.showableAll (D.pyA l) = true ∧ PyData.leavesShortAll 100 (D.pyA l) = true := by
      intro l
      induction l with
      | nil => intro _; simp [D.pureA, D.pyA, PyData.showableAll, PyData.leavesShortAll]
      | cons d l ih2 =>
        intro hl
        obtain ⟨a1, a2, a3, _⟩ := hl d List.mem_cons_self
        obtain ⟨b1, b2, b3⟩ := ih2 fun e he => hl e (List.mem_cons_of_mem _ he)
        simp [D.pureA, D.pyA, PyData.showableAll, PyData.leavesShortAll, a1, a2, a3, b1, b2, b3]
    obtain ⟨g1, g2, g3⟩ := go xs ih
    refine ⟨by rw [D.pure]; exact g1, by rw [D.py, PyData.showable]; exact g2, by rw [D.py, PyData.leavesShort]; exact g3, ?_⟩
    rw [D.py, PyData.shown]
    refine strOk_list fun t ht => ?_
    obtain ⟨d, hd, rfl⟩ := shownA_mem xs t ht
    exact (ih d hd).2.2.2
  | dic kvs _ _ ih1 ih2' =>
    have go : ∀ l : List (D × D), (∀ x ∈ l, (x.1.pure = true ∧ x.1.py.showable = true ∧ x.1.py.leavesShort 100 = true ∧ PyData.strOk x.1.py.shown = true) ∧ x.2.pure = true ∧ x.2.py.showable = true ∧ x.2.py.leavesShort 100 = true ∧ PyData.strOk x.2.py.shown = true) →
        D.pureK l = true ∧ PyData.showableKv (D.pyK l) = true ∧ PyData.leavesShortKv 100 (D.pyK l) = true ∧ ∀ t ∈ PyData.shownKv (D.pyK l), PyData.strOk t = true := by
      intro l
      induction l with
      | nil => intro _; simp [D.pureK, D.pyK, PyData.showableKv, PyData.leavesShortKv, PyData.shownKv]
      | cons x l ih2 =>
        intro hl
        obtain ⟨⟨a1, a2, a3, a4⟩, c1, c2, c3, c4⟩ := hl x List.mem_cons_self
        obtain ⟨b1, b2, b3, b4⟩ := ih2 fun e he => hl e (List.mem_cons_of_mem _ he)
        obtain ⟨k, v⟩ := x
        refine ⟨by simp [D.pureK, a1, c1, b1], by simp [D.pyK, PyData.showableKv, a2, c2, b2], by simp [D.pyK, PyData.leavesShortKv, a3, c3, b3], fun t ht => ?_⟩
        rw [D.pyK, PyData.shownKv] at ht
        rcases List.mem_cons.mp ht with e2 | m
        · rw [e2]
          exact strOk_app (strOk_app a4 (by decide +kernel)) c4
        · exact b4 t m
    obtain ⟨g1, g2, g3, g4⟩ := go kvs fun x hx => ⟨ih1 x hx, ih2' x hx⟩
    refine ⟨by rw [D.pure]; exact g1, by rw [D.py, PyData.showable]; exact g2, by rw [D.py, PyData.leavesShort]; exact g3, ?_⟩
    rw [D.py, PyData.shown]
    exact strOk_dict g4
theorem shw_okd : ∀ (n : Nat) (d : D), okd true n d = true → Shw d
  | n, .non, _ => .non
  | n, .bl b, _ => .bl b
  | n, .int _, h => by cases n <;> cases h
  | n, .str s, h => .str s (by cases n <;> simpa [okd] using h)
  | n + 1, .tup xs, h => .tup xs fun d hd => shw_okd n d (List.all_eq_true.mp (show xs.all (okd true n) = true from h) d hd)
  | n + 1, .lst xs, h => .lst xs fun d hd => shw_okd n d (List.all_eq_true.mp (show xs.all (okd true n) = true from h) d hd)
  | 0, .tup _, h => by cases h
  | 0, .lst _, h => by cases h
  | 0, .dic _, h => by cases h
  | n + 1, .dic _, h => by cases h
  | 0, .ty _, h => by cases h
  | n + 1, .ty _, h => by cases h
  | 0, .obj _ _, h => by cases h
  | n + 1, .obj _ _, h => by cases h
  | 0, .ptr _, h => by cases h
  | n + 1, .ptr _, h => by cases h
  | 0, .exc _ _, h => by cases h
  | n + 1, .exc _ _, h => by cases h
  | 0, .scr _, h => by cases h
  | n + 1, .scr _, h => by cases h
/-- what repr asks, and what comes of it -/
theorem Shw.repr {d : D} (h : Shw d) (hr : d.isRef = true) (hd : d.py.depth ≤ 60) (hw : d.py.weight ≤ 100000) : d.isRef = true ∧ d.pure = true ∧ d.py.showable = true ∧ d.py.depth ≤ 60 ∧ d.py.shown.length ≤ sizeLine := by
  obtain ⟨h1, h2, h3, _⟩ := shw_all h
  refine ⟨hr, h1, h2, hd, ?_⟩
  have := PyData.shown_le 100 (by decide) d.py h3
  rw [sizeLine_eq]
  omega
end B
namespace K17
open PySem PySem.Spec PyProof.Rows L2 B
def top (i : Nat) : Stmt := PySem.Challenge.pw_anystart_k17_errors_apart.main.body.getD i (.Pass ⟨0, 0, 0, 0⟩)
def sub (i j : Nat) : Stmt := (match top i with | .ClassDef _ _ _ b _ _ _ _ _ _ _ => b | _ => []).getD j (.Pass ⟨0, 0, 0, 0⟩)
abbrev s_law_begun : Stmt := top 17
def d_law_begun : He.DefD := ⟨("_law_begun", none), "_law_begun", "_law_begun", defArgs s_law_begun, defBody s_law_begun, defScope s_law_begun, [], []⟩
theorem sc_law_begun : FnScope ["_law_script", "_law_wide", "_law_cell"] ["_law_script"] (defScope s_law_begun) := ⟨rfl, rfl, rfl, by decide +kernel, rfl, by decide +kernel, by decide +kernel⟩
abbrev s_law_mixed : Stmt := top 18
def d_law_mixed : He.DefD := ⟨("_law_mixed", none), "_law_mixed", "_law_mixed", defArgs s_law_mixed, defBody s_law_mixed, defScope s_law_mixed, [], []⟩
theorem sc_law_mixed : FnScope ["_law_state", "_law_turn", "_law_found", "_law_prime", "_law_blend", "_law_cell"] ["_law_state"] (defScope s_law_mixed) := ⟨rfl, rfl, rfl, by decide +kernel, rfl, by decide +kernel, by decide +kernel⟩
abbrev s_law_take : Stmt := top 19
def d_law_take : He.DefD := ⟨("_law_take", none), "_law_take", "_law_take", defArgs s_law_take, defBody s_law_take, defScope s_law_take, [], []⟩
theorem sc_law_take : FnScope ["_law_state", "_law_size", "_law_found"] ["_law_state", "_law_size"] (defScope s_law_take) := ⟨rfl, rfl, rfl, by decide +kernel, rfl, by decide +kernel, by decide +kernel⟩
abbrev s_law_pick : Stmt := top 20
def d_law_pick : He.DefD := ⟨("_law_pick", none), "_law_pick", "_law_pick", defArgs s_law_pick, defBody s_law_pick, defScope s_law_pick, [], []⟩
theorem sc_law_pick : FnScope ["_law_state", "_law_some"] ["_law_state", "_law_some"] (defScope s_law_pick) := ⟨rfl, rfl, rfl, by decide +kernel, rfl, by decide +kernel, by decide +kernel⟩
abbrev s_law_words : Stmt := top 21
def d_law_words : He.DefD := ⟨("_law_words", none), "_law_words", "_law_words", defArgs s_law_words, defBody s_law_words, defScope s_law_words, [], []⟩
theorem sc_law_words : FnScope ["_law_state", "_law_many", "_law_letters", "_law_some", "_law_words_here", "_law_k", "_law_way", "_law_word", "_law_j", "_law_letter"] ["_law_state", "_law_many"] (defScope s_law_words) := ⟨rfl, rfl, rfl, by decide +kernel, rfl, by decide +kernel, by decide +kernel⟩
abbrev s_law_kinds : Stmt := top 22
def d_law_kinds : He.DefD := ⟨("_law_kinds", none), "_law_kinds", "_law_kinds", defArgs s_law_kinds, defBody s_law_kinds, defScope s_law_kinds, [], []⟩
theorem sc_law_kinds : FnScope ["_law_error", "_law_found", "_law_word", "_law_is_it"] ["_law_error"] (defScope s_law_kinds) := ⟨rfl, rfl, rfl, by decide +kernel, rfl, by decide +kernel, by decide +kernel⟩
abbrev s_law_any : Stmt := top 23
def d_law_any : He.DefD := ⟨("_law_any", none), "_law_any", "_law_any", defArgs s_law_any, defBody s_law_any, defScope s_law_any, [], []⟩
theorem sc_law_any : FnScope ["_law_state", "_law_word", "_law_number", "_law_some"] ["_law_state"] (defScope s_law_any) := ⟨rfl, rfl, rfl, by decide +kernel, rfl, by decide +kernel, by decide +kernel⟩
abbrev s_law_right : Stmt := top 24
def d_law_right : He.DefD := ⟨("_law_right", none), "_law_right", "_law_right", defArgs s_law_right, defBody s_law_right, defScope s_law_right, [], []⟩
theorem sc_law_right : FnScope ["_law_thing", "_law_said", "_law_plain", "_law_words_here", "_law_first", "_law_then", "_law_error", "_law_due", "_law_held", "_law_told"] ["_law_thing", "_law_said"] (defScope s_law_right) := ⟨rfl, rfl, rfl, by decide +kernel, rfl, by decide +kernel, by decide +kernel⟩
abbrev s_law : Stmt := top 25
def d_law : He.DefD := ⟨("law", none), "law", "law", defArgs s_law, defBody s_law, defScope s_law, [], []⟩
theorem sc_law : FnScope ["_law_script", "_law_state", "_law_turn"] ["_law_script"] (defScope s_law) := ⟨rfl, rfl, rfl, by decide +kernel, rfl, by decide +kernel, by decide +kernel⟩
abbrev s_NoPath___init__ : Stmt := sub 3 0
def d_NoPath___init__ : He.DefD := ⟨("NoPath", some "__init__"), "__init__", "NoPath.__init__", defArgs s_NoPath___init__, defBody s_NoPath___init__, defScope s_NoPath___init__, [], []⟩
theorem sc_NoPath___init__ : FnScope ["self", "path"] ["self", "path"] (defScope s_NoPath___init__) := ⟨rfl, rfl, rfl, by decide +kernel, rfl, by decide +kernel, by decide +kernel⟩
abbrev s_NoFile___init__ : Stmt := sub 4 0
def d_NoFile___init__ : He.DefD := ⟨("NoFile", some "__init__"), "__init__", "NoFile.__init__", defArgs s_NoFile___init__, defBody s_NoFile___init__, defScope s_NoFile___init__, [], []⟩
theorem sc_NoFile___init__ : FnScope ["self", "path"] ["self", "path"] (defScope s_NoFile___init__) := ⟨rfl, rfl, rfl, by decide +kernel, rfl, by decide +kernel, by decide +kernel⟩
abbrev s_NoFact___init__ : Stmt := sub 5 0
def d_NoFact___init__ : He.DefD := ⟨("NoFact", some "__init__"), "__init__", "NoFact.__init__", defArgs s_NoFact___init__, defBody s_NoFact___init__, defScope s_NoFact___init__, [], []⟩
theorem sc_NoFact___init__ : FnScope ["self", "fact"] ["self", "fact"] (defScope s_NoFact___init__) := ⟨rfl, rfl, rfl, by decide +kernel, rfl, by decide +kernel, by decide +kernel⟩
abbrev s_NoStep___init__ : Stmt := sub 6 0
def d_NoStep___init__ : He.DefD := ⟨("NoStep", some "__init__"), "__init__", "NoStep.__init__", defArgs s_NoStep___init__, defBody s_NoStep___init__, defScope s_NoStep___init__, [], []⟩
theorem sc_NoStep___init__ : FnScope ["self", "step"] ["self", "step"] (defScope s_NoStep___init__) := ⟨rfl, rfl, rfl, by decide +kernel, rfl, by decide +kernel, by decide +kernel⟩
abbrev s_NoName___init__ : Stmt := sub 7 0
def d_NoName___init__ : He.DefD := ⟨("NoName", some "__init__"), "__init__", "NoName.__init__", defArgs s_NoName___init__, defBody s_NoName___init__, defScope s_NoName___init__, [], []⟩
theorem sc_NoName___init__ : FnScope ["self", "name"] ["self", "name"] (defScope s_NoName___init__) := ⟨rfl, rfl, rfl, by decide +kernel, rfl, by decide +kernel, by decide +kernel⟩
abbrev s_TooMany___init__ : Stmt := sub 8 0
def d_TooMany___init__ : He.DefD := ⟨("TooMany", some "__init__"), "__init__", "TooMany.__init__", defArgs s_TooMany___init__, defBody s_TooMany___init__, defScope s_TooMany___init__, [], []⟩
theorem sc_TooMany___init__ : FnScope ["self", "limit"] ["self", "limit"] (defScope s_TooMany___init__) := ⟨rfl, rfl, rfl, by decide +kernel, rfl, by decide +kernel, by decide +kernel⟩
abbrev s_Ring___init__ : Stmt := sub 9 0
def d_Ring___init__ : He.DefD := ⟨("Ring", some "__init__"), "__init__", "Ring.__init__", defArgs s_Ring___init__, defBody s_Ring___init__, defScope s_Ring___init__, [], []⟩
theorem sc_Ring___init__ : FnScope ["self", "ring"] ["self", "ring"] (defScope s_Ring___init__) := ⟨rfl, rfl, rfl, by decide +kernel, rfl, by decide +kernel, by decide +kernel⟩
abbrev s_Clash___init__ : Stmt := sub 11 0
def d_Clash___init__ : He.DefD := ⟨("Clash", some "__init__"), "__init__", "Clash.__init__", defArgs s_Clash___init__, defBody s_Clash___init__, defScope s_Clash___init__, [], []⟩
theorem sc_Clash___init__ : FnScope ["self", "name"] ["self", "name"] (defScope s_Clash___init__) := ⟨rfl, rfl, rfl, by decide +kernel, rfl, by decide +kernel, by decide +kernel⟩
abbrev s_NoText___init__ : Stmt := sub 15 0
def d_NoText___init__ : He.DefD := ⟨("NoText", some "__init__"), "__init__", "NoText.__init__", defArgs s_NoText___init__, defBody s_NoText___init__, defScope s_NoText___init__, [], []⟩
theorem sc_NoText___init__ : FnScope ["self", "index"] ["self", "index"] (defScope s_NoText___init__) := ⟨rfl, rfl, rfl, by decide +kernel, rfl, by decide +kernel, by decide +kernel⟩
def fn : List He.DefD := [d_law_begun, d_law_mixed, d_law_take, d_law_pick, d_law_words, d_law_kinds, d_law_any, d_law_right, d_law, d_NoPath___init__, d_NoFile___init__, d_NoFact___init__, d_NoStep___init__, d_NoName___init__, d_TooMany___init__, d_Ring___init__, d_Clash___init__, d_NoText___init__]
def fa : List He.Fa := [.free "list",
  .free "int",
  .glo "_law_mixed",
  .glo "_law_take",
  .free "len",
  .free "range",
  .glo "_law_pick",
  .free "isinstance",
  .glo "NoStore",
  .glo "NoPath",
  .glo "NoFile",
  .glo "NoFact",
  .glo "NoStep",
  .glo "NoName",
  .glo "TooMany",
  .glo "Ring",
  .glo "NoOrder",
  .glo "Clash",
  .glo "NoFrame",
  .glo "NoCase",
  .glo "ManyEnds",
  .glo "NoText",
  .glo "_law_words",
  .exc "NoStore",
  .exc "NoOrder",
  .exc "NoFrame",
  .exc "NoCase",
  .exc "ManyEnds",
  .free "zip",
  .glo "_law_kinds",
  .glo "StateError",
  .free "ValueError",
  .free "repr",
  .glo "_law_begun",
  .free "min",
  .free "max",
  .glo "_law_right",
  .glo "_law_any",
  .exc "StateError",
  .glo "law"]
def cl_NoStore : List (Str × Bool) := [("StateError", false), ("NoStore", true), ("NoPath", false), ("NoFile", false), ("NoFact", false), ("NoStep", false), ("NoName", false), ("TooMany", false), ("Ring", false), ("NoOrder", false), ("Clash", false), ("NoFrame", false), ("NoCase", false), ("ManyEnds", false), ("NoText", false)]
def cl_NoPath : List (Str × Bool) := [("StateError", false), ("NoStore", false), ("NoPath", true), ("NoFile", false), ("NoFact", false), ("NoStep", false), ("NoName", false), ("TooMany", false), ("Ring", false), ("NoOrder", false), ("Clash", false), ("NoFrame", false), ("NoCase", false), ("ManyEnds", false), ("NoText", false)]
def cl_NoFile : List (Str × Bool) := [("StateError", false), ("NoStore", false), ("NoPath", false), ("NoFile", true), ("NoFact", false), ("NoStep", false), ("NoName", false), ("TooMany", false), ("Ring", false), ("NoOrder", false), ("Clash", false), ("NoFrame", false), ("NoCase", false), ("ManyEnds", false), ("NoText", false)]
def cl_NoFact : List (Str × Bool) := [("StateError", false), ("NoStore", false), ("NoPath", false), ("NoFile", false), ("NoFact", true), ("NoStep", false), ("NoName", false), ("TooMany", false), ("Ring", false), ("NoOrder", false), ("Clash", false), ("NoFrame", false), ("NoCase", false), ("ManyEnds", false), ("NoText", false)]
def cl_NoStep : List (Str × Bool) := [("StateError", false), ("NoStore", false), ("NoPath", false), ("NoFile", false), ("NoFact", false), ("NoStep", true), ("NoName", false), ("TooMany", false), ("Ring", false), ("NoOrder", false), ("Clash", false), ("NoFrame", false), ("NoCase", false), ("ManyEnds", false), ("NoText", false)]
def cl_NoName : List (Str × Bool) := [("StateError", false), ("NoStore", false), ("NoPath", false), ("NoFile", false), ("NoFact", false), ("NoStep", false), ("NoName", true), ("TooMany", false), ("Ring", false), ("NoOrder", false), ("Clash", false), ("NoFrame", false), ("NoCase", false), ("ManyEnds", false), ("NoText", false)]
def cl_TooMany : List (Str × Bool) := [("StateError", false), ("NoStore", false), ("NoPath", false), ("NoFile", false), ("NoFact", false), ("NoStep", false), ("NoName", false), ("TooMany", true), ("Ring", false), ("NoOrder", false), ("Clash", false), ("NoFrame", false), ("NoCase", false), ("ManyEnds", false), ("NoText", false)]
def cl_Ring : List (Str × Bool) := [("StateError", false), ("NoStore", false), ("NoPath", false), ("NoFile", false), ("NoFact", false), ("NoStep", false), ("NoName", false), ("TooMany", false), ("Ring", true), ("NoOrder", false), ("Clash", false), ("NoFrame", false), ("NoCase", false), ("ManyEnds", false), ("NoText", false)]
def cl_NoOrder : List (Str × Bool) := [("StateError", false), ("NoStore", false), ("NoPath", false), ("NoFile", false), ("NoFact", false), ("NoStep", false), ("NoName", false), ("TooMany", false), ("Ring", false), ("NoOrder", true), ("Clash", false), ("NoFrame", false), ("NoCase", false), ("ManyEnds", false), ("NoText", false)]
def cl_Clash : List (Str × Bool) := [("StateError", false), ("NoStore", false), ("NoPath", false), ("NoFile", false), ("NoFact", false), ("NoStep", false), ("NoName", false), ("TooMany", false), ("Ring", false), ("NoOrder", false), ("Clash", true), ("NoFrame", false), ("NoCase", false), ("ManyEnds", false), ("NoText", false)]
def cl_NoFrame : List (Str × Bool) := [("StateError", false), ("NoStore", false), ("NoPath", false), ("NoFile", false), ("NoFact", false), ("NoStep", false), ("NoName", false), ("TooMany", false), ("Ring", false), ("NoOrder", false), ("Clash", false), ("NoFrame", true), ("NoCase", false), ("ManyEnds", false), ("NoText", false)]
def cl_NoCase : List (Str × Bool) := [("StateError", false), ("NoStore", false), ("NoPath", false), ("NoFile", false), ("NoFact", false), ("NoStep", false), ("NoName", false), ("TooMany", false), ("Ring", false), ("NoOrder", false), ("Clash", false), ("NoFrame", false), ("NoCase", true), ("ManyEnds", false), ("NoText", false)]
def cl_ManyEnds : List (Str × Bool) := [("StateError", false), ("NoStore", false), ("NoPath", false), ("NoFile", false), ("NoFact", false), ("NoStep", false), ("NoName", false), ("TooMany", false), ("Ring", false), ("NoOrder", false), ("Clash", false), ("NoFrame", false), ("NoCase", false), ("ManyEnds", true), ("NoText", false)]
def cl_NoText : List (Str × Bool) := [("StateError", false), ("NoStore", false), ("NoPath", false), ("NoFile", false), ("NoFact", false), ("NoStep", false), ("NoName", false), ("TooMany", false), ("Ring", false), ("NoOrder", false), ("Clash", false), ("NoFrame", false), ("NoCase", false), ("ManyEnds", false), ("NoText", true)]
def cl_StateError : List (Str × Bool) := [("StateError", true), ("NoStore", true), ("NoPath", true), ("NoFile", true), ("NoFact", true), ("NoStep", true), ("NoName", true), ("TooMany", true), ("Ring", true), ("NoOrder", true), ("Clash", true), ("NoFrame", true), ("NoCase", true), ("ManyEnds", true), ("NoText", true)]
def cl_ValueError : List (Str × Bool) := [("StateError", true), ("NoStore", true), ("NoPath", true), ("NoFile", true), ("NoFact", true), ("NoStep", true), ("NoName", true), ("TooMany", true), ("Ring", true), ("NoOrder", true), ("Clash", true), ("NoFrame", true), ("NoCase", true), ("ManyEnds", true), ("NoText", true)]
def fl_path : List Str := ["NoPath", "NoFile"]
def fl_fact : List Str := ["NoFact"]
def fl_step : List Str := ["NoStep"]
def fl_name : List Str := ["NoName", "Clash"]
def fl_limit : List Str := ["TooMany"]
def fl_ring : List Str := ["Ring"]
def fl_index : List Str := ["NoText"]
def xf : List XFa := [.kits "NoStore" cl_NoStore, .kits "NoPath" cl_NoPath, .kits "NoFile" cl_NoFile, .kits "NoFact" cl_NoFact, .kits "NoStep" cl_NoStep, .kits "NoName" cl_NoName, .kits "TooMany" cl_TooMany, .kits "Ring" cl_Ring, .kits "NoOrder" cl_NoOrder, .kits "Clash" cl_Clash, .kits "NoFrame" cl_NoFrame, .kits "NoCase" cl_NoCase, .kits "ManyEnds" cl_ManyEnds, .kits "NoText" cl_NoText, .oex "NoPath", .ini "NoPath" "path", .oex "NoFile", .ini "NoFile" "path", .oex "NoFact", .ini "NoFact" "fact", .oex "NoStep", .ini "NoStep" "step", .oex "NoName", .ini "NoName" "name", .oex "TooMany", .ini "TooMany" "limit", .oex "Ring", .ini "Ring" "ring", .oex "Clash", .ini "Clash" "name", .oex "NoText", .ini "NoText" "index", .kits "StateError" cl_StateError, .kitTs "ValueError" cl_ValueError, .flds "path" fl_path, .flds "fact" fl_fact, .flds "step" fl_step, .flds "name" fl_name, .flds "limit" fl_limit, .flds "ring" fl_ring, .flds "index" fl_index, .sup "StateError"]
def tups : List (Str × List He.Dv) := []
def r_law_begun_1  : BS := bRet (bDs [("great", bToM 1), ("cells", bV (bUn dListA (bPk 0))), ("rest", bC (.int (0))), ("turn", bC (.int (0)))])
def r_law_begun_0  : BS := bSet 1 (bLc (cVar 0) (.nm 2) (bT (bOf (bBin dGe (bLs 2) (bOf (bBin dPow (bLv (bC (.int (10)))) (bC (.int (18)))))))) (bV (bBin dSub (bLs 2) (bOf (bBin dPow (bLv (bC (.int (10)))) (bC (.int (18))))))) [2])
def r_law_begun  : BS := bSeq ((r_law_begun_0)) ((r_law_begun_1))
def r_law_mixed_8  : BS := bRet (bMv 2)
def r_law_mixed_7  : BS := bSet 2 (bBin dAdd (bLv (bV (bBin dMul (bLs 2) (bC (.int (2147483647)))))) (bOf (bBin dMod (bLv (bV (bUn dInt1 (bOf (bBin dPow (bLs 4) (bC (.int (5)))))))) (bPk 3))))
def r_law_mixed_6  : BS := bSet 4 (bBin dMod (bLv (bV (bUn dInt1 (bOf (bBin dAdd (bLv (bV (bBin dMul (bLs 4) (bC (.int (48271)))))) (bPk 5)))))) (bPk 3))
def r_law_mixed_5  : BS := bFor (bIt (bV (bBin dIxA (bLp (bVar 0)) (bC (.str "cells"))))) (.nm 5) ((r_law_mixed_6))
def r_law_mixed_4  : BS := bSet 4 (bBin dAdd (bLv (bV (bBin dMul (bLv (bC (.int (130363)))) (bPk 1)))) (bOf (bBin dDiv (bLs 3) (bC (.int (13))))))
def r_law_mixed_3  : BS := bFor (bIt (bV (bLst (bCons (bC (.int (2147483629))) (bCons (bC (.int (2147483587))) (bCons (bC (.int (2147483579))) (bCons (bC (.int (2147483563))) (bCons (bC (.int (2147483549))) (bCons (bC (.int (2147483543))) (bNil)))))))))) (.nm 3) (bSeq ((r_law_mixed_4)) (bSeq ((r_law_mixed_5)) ((r_law_mixed_7))))
def r_law_mixed_2  : BS := bSet 2 (bEv (bC (.int (0))))
def r_law_mixed_1  : BS := bPutM (bVar 0) (bC (.str "turn")) (bVar 1)
def r_law_mixed_0  : BS := bSet 1 (bBin dAdd (bLv (bV (bBin dIxA (bLp (bVar 0)) (bC (.str "turn"))))) (bC (.int (1))))
def r_law_mixed  : BS := bSeq ((r_law_mixed_0)) (bSeq ((r_law_mixed_1)) (bSeq ((r_law_mixed_2)) (bSeq ((r_law_mixed_3)) ((r_law_mixed_8)))))
def r_law_take_6 (f_law_mixed : FnB) : BS := bRet (bMv 2)
def r_law_take_5 (f_law_mixed : FnB) : BS := bPutM (bVar 0) (bC (.str "rest")) (bV (bBin dDiv (bLv (bV (bBin dIxA (bLp (bVar 0)) (bC (.str "rest"))))) (bPk 1)))
def r_law_take_4 (f_law_mixed : FnB) : BS := bSet 2 (bBin dMod (bLv (bV (bUn dInt1 (bOf (bBin dIxA (bLp (bVar 0)) (bC (.str "rest"))))))) (bPk 1))
def r_law_take_3 (f_law_mixed : FnB) : BS := bPutM (bVar 0) (bC (.str "rest")) (bV (bCall f_law_mixed [] (bCons (bVar 0) (bNil))))
def r_law_take_2 (f_law_mixed : FnB) : BS := bIf (bT (bOf (bBin (dEqA false) (bLv (bV (bBin dIxA (bLp (bVar 0)) (bC (.str "rest"))))) (bC (.int (0)))))) ((r_law_take_3 f_law_mixed)) (bNext)
def r_law_take_1 (f_law_mixed : FnB) : BS := bPutM (bVar 0) (bC (.str "rest")) (bV (bPopM (bV (bBin dIxA (bLp (bVar 0)) (bC (.str "great")))) (bC (.int (0)))))
def r_law_take_0 (f_law_mixed : FnB) : BS := bIf (bAnd (bT (bOf (bBin (dEqA false) (bLv (bV (bBin dIxA (bLp (bVar 0)) (bC (.str "rest"))))) (bC (.int (0)))))) (bT (bOf (bBin (dEqA true) (bLp (bV (bBin dIxA (bLp (bVar 0)) (bC (.str "great"))))) (bOf (bLst (bNil))))))) ((r_law_take_1 f_law_mixed)) ((r_law_take_2 f_law_mixed))
def r_law_take (f_law_mixed : FnB) : BS := bSeq ((r_law_take_0 f_law_mixed)) (bSeq ((r_law_take_4 f_law_mixed)) (bSeq ((r_law_take_5 f_law_mixed)) ((r_law_take_6 f_law_mixed))))
def r_law_pick_0 (f_law_take : FnB) : BS := bRet (bBin dIxA (bLs 1) (bOf (bCall f_law_take [] (bCons (bVar 0) (bCons (bV (bUn dLen (bPk 1))) (bNil))))))
def r_law_pick (f_law_take : FnB) : BS := (r_law_pick_0 f_law_take)
def r_law_words_12 (f_law_take : FnB) (f_law_pick : FnB) : BS := bRet (bMv 4)
def r_law_words_11 (f_law_take : FnB) (f_law_pick : FnB) : BS := bDrop (bApp 4 (bVar 7))
def r_law_words_10 (f_law_take : FnB) (f_law_pick : FnB) : BS := bSet 7 (bBin dIxA (bLv (bV (bLc (cVar 2) (.nm 9) (bT (bOf (bBin (dIn true) (bLs 9) (bPk 4)))) (bVar 9) [9]))) (bC (.int (0))))
def r_law_words_9 (f_law_take : FnB) (f_law_pick : FnB) : BS := bIf (bT (bOf (bBin (dIn false) (bLs 7) (bPk 4)))) ((r_law_words_10 f_law_take f_law_pick)) (bNext)
def r_law_words_8 (f_law_take : FnB) (f_law_pick : FnB) : BS := bSet 7 (bSlc (bLv (bV (bBin dAdd (bLv (bV (bBin dIxA (bLs 4) (bOf (bEv (bC (.int (-1)))))))) (bOf (bCall f_law_pick [] (bCons (bVar 0) (bCons (bVar 2) (bNil)))))))) (bPn) (bPs (bC (.int (8)))))
def r_law_words_7 (f_law_take : FnB) (f_law_pick : FnB) : BS := bIf (bAnd (bT (bOf (bBin (dEqA false) (bLs 6) (bC (.int (1)))))) (bT (bOf (bBin (dEqA true) (bLs 4) (bOf (bLst (bNil))))))) ((r_law_words_8 f_law_take f_law_pick)) (bNext)
def r_law_words_6 (f_law_take : FnB) (f_law_pick : FnB) : BS := bSet 7 (bJoin (bLv (bC (.str ""))) (bOf (bLc (cVal (bRng1 (bCons (bV (bBin dAdd (bLv (bC (.int (1)))) (bOf (bCall f_law_take [] (bCons (bVar 0) (bCons (bC (.int (8))) (bNil))))))) (bNil)))) (.nm 8) (bYes) (bV (bCall f_law_pick [] (bCons (bVar 0) (bCons (bVar 2) (bNil))))) [8])))
def r_law_words_5 (f_law_take : FnB) (f_law_pick : FnB) : BS := bIf (bT (bOf (bBin (dEqA false) (bLs 6) (bC (.int (0)))))) ((r_law_words_6 f_law_take f_law_pick)) (bNext)
def r_law_words_4 (f_law_take : FnB) (f_law_pick : FnB) : BS := bPar [6, 7] [bCall f_law_take [] (bCons (bVar 0) (bCons (bC (.int (4))) (bNil))), bCall f_law_pick [] (bCons (bVar 0) (bCons (bVar 3) (bNil)))]
def r_law_words_3 (f_law_take : FnB) (f_law_pick : FnB) : BS := bFor (bRng1 (bCons (bVar 1) (bNil))) (.nm 5) (bSeq ((r_law_words_4 f_law_take f_law_pick)) (bSeq ((r_law_words_5 f_law_take f_law_pick)) (bSeq ((r_law_words_7 f_law_take f_law_pick)) (bSeq ((r_law_words_9 f_law_take f_law_pick)) ((r_law_words_11 f_law_take f_law_pick))))))
def r_law_words_2 (f_law_take : FnB) (f_law_pick : FnB) : BS := bSet 4 (bLst (bNil))
def r_law_words_1 (f_law_take : FnB) (f_law_pick : FnB) : BS := bSet 3 (bLst (bCons (bC (.str "a")) (bCons (bC (.str "b")) (bCons (bC (.str "ab")) (bCons (bC (.str "if")) (bCons (bC (.str "unless")) (bCons (bC (.str "file")) (bCons (bC (.str "folder")) (bCons (bC (.str "row")) (bCons (bC (.str "no")) (bCons (bC (.str "need")) (bCons (bC (.str "absent")) (bCons (bC (.str "zzzzzzzz")) (bNil))))))))))))))
def r_law_words_0 (f_law_take : FnB) (f_law_pick : FnB) : BS := bSet 2 (bEv (bC (.str "abcdefghijklmnopqrstuvwxyz")))
def r_law_words (f_law_take : FnB) (f_law_pick : FnB) : BS := bSeq ((r_law_words_0 f_law_take f_law_pick)) (bSeq ((r_law_words_1 f_law_take f_law_pick)) (bSeq ((r_law_words_2 f_law_take f_law_pick)) (bSeq ((r_law_words_3 f_law_take f_law_pick)) ((r_law_words_12 f_law_take f_law_pick)))))
def r_law_kinds_7  : BS := bRet (bLc (cVar 1) (.tp [2, 3]) (bT (bPk 3)) (bVar 2) [2, 3])
def r_law_kinds_6  : BS := bSet 1 (bBin dAdd (bLs 1) (bOf (bLst (bCons (bV (bTup (bCons (bC (.str "ends")) (bCons (bV (bIsX (catOf cl_ManyEnds) (bPk 0))) (bNil))))) (bCons (bV (bTup (bCons (bC (.str "text")) (bCons (bV (bIsX (catOf cl_NoText) (bPk 0))) (bNil))))) (bNil))))))
def r_law_kinds_5  : BS := bSet 1 (bBin dAdd (bLs 1) (bOf (bLst (bCons (bV (bTup (bCons (bC (.str "frame")) (bCons (bV (bIsX (catOf cl_NoFrame) (bPk 0))) (bNil))))) (bCons (bV (bTup (bCons (bC (.str "case")) (bCons (bV (bIsX (catOf cl_NoCase) (bPk 0))) (bNil))))) (bNil))))))
def r_law_kinds_4  : BS := bSet 1 (bBin dAdd (bLs 1) (bOf (bLst (bCons (bV (bTup (bCons (bC (.str "order")) (bCons (bV (bIsX (catOf cl_NoOrder) (bPk 0))) (bNil))))) (bCons (bV (bTup (bCons (bC (.str "clash")) (bCons (bV (bIsX (catOf cl_Clash) (bPk 0))) (bNil))))) (bNil))))))
def r_law_kinds_3  : BS := bSet 1 (bBin dAdd (bLs 1) (bOf (bLst (bCons (bV (bTup (bCons (bC (.str "many")) (bCons (bV (bIsX (catOf cl_TooMany) (bPk 0))) (bNil))))) (bCons (bV (bTup (bCons (bC (.str "ring")) (bCons (bV (bIsX (catOf cl_Ring) (bPk 0))) (bNil))))) (bNil))))))
def r_law_kinds_2  : BS := bSet 1 (bBin dAdd (bLs 1) (bOf (bLst (bCons (bV (bTup (bCons (bC (.str "step")) (bCons (bV (bIsX (catOf cl_NoStep) (bPk 0))) (bNil))))) (bCons (bV (bTup (bCons (bC (.str "name")) (bCons (bV (bIsX (catOf cl_NoName) (bPk 0))) (bNil))))) (bNil))))))
def r_law_kinds_1  : BS := bSet 1 (bBin dAdd (bLs 1) (bOf (bLst (bCons (bV (bTup (bCons (bC (.str "file")) (bCons (bV (bIsX (catOf cl_NoFile) (bPk 0))) (bNil))))) (bCons (bV (bTup (bCons (bC (.str "fact")) (bCons (bV (bIsX (catOf cl_NoFact) (bPk 0))) (bNil))))) (bNil))))))
def r_law_kinds_0  : BS := bSet 1 (bLst (bCons (bV (bTup (bCons (bC (.str "store")) (bCons (bV (bIsX (catOf cl_NoStore) (bPk 0))) (bNil))))) (bCons (bV (bTup (bCons (bC (.str "path")) (bCons (bV (bIsX (catOf cl_NoPath) (bPk 0))) (bNil))))) (bNil))))
def r_law_kinds  : BS := bSeq ((r_law_kinds_0)) (bSeq ((r_law_kinds_1)) (bSeq ((r_law_kinds_2)) (bSeq ((r_law_kinds_3)) (bSeq ((r_law_kinds_4)) (bSeq ((r_law_kinds_5)) (bSeq ((r_law_kinds_6)) ((r_law_kinds_7))))))))
def r_law_any_2 (f_law_words : FnB) (f_law_take : FnB) (f_law_pick : FnB) : BS := bRet (bCall f_law_pick [] (bCons (bVar 0) (bCons (bV (bBin dAdd (bLs 3) (bOf (bLst (bCons (bV (bTup (bCons (bV (bTup (bCons (bC (.str "folder")) (bCons (bV (bTup (bCons (bVar 1) (bNil)))) (bNil))))) (bCons (bV (bTup (bNil))) (bNil))))) (bCons (bV (bTup (bCons (bC (.str "row")) (bCons (bV (bTup (bCons (bVar 1) (bNil)))) (bCons (bVar 1) (bNil)))))) (bCons (bV (bLst (bCons (bV (bLst (bCons (bV (bLst (bCons (bVar 1) (bNil)))) (bNil)))) (bNil)))) (bNil)))))))) (bNil))))
def r_law_any_1 (f_law_words : FnB) (f_law_take : FnB) (f_law_pick : FnB) : BS := bSet 3 (bLst (bCons (bVar 1) (bCons (bV (bTup (bCons (bVar 1) (bNil)))) (bCons (bVar 2) (bCons (bV (bBin dAdd (bLv (bV (bBin dPow (bLv (bC (.int (10)))) (bC (.int (30)))))) (bPk 2))) (bCons (bC .non) (bCons (bC (.bl true)) (bCons (bC (.str "")) (bCons (bV (bLst (bCons (bVar 1) (bCons (bVar 1) (bNil))))) (bCons (bV (bDic0)) (bCons (bV (bTup (bNil))) (bCons (bV (bDk [(bVar 1, bV (bLst (bCons (bVar 2) (bNil))))])) (bNil)))))))))))))
def r_law_any_0 (f_law_words : FnB) (f_law_take : FnB) (f_law_pick : FnB) : BS := bPar [1, 2] [bBin dIxA (bLv (bV (bCall f_law_words [] (bCons (bVar 0) (bCons (bC (.int (1))) (bNil)))))) (bC (.int (0))), bBin dSub (bLv (bV (bCall f_law_take [] (bCons (bVar 0) (bCons (bC (.int (2000))) (bNil)))))) (bC (.int (1000)))]
def r_law_any (f_law_words : FnB) (f_law_take : FnB) (f_law_pick : FnB) : BS := bSeq ((r_law_any_0 f_law_words f_law_take f_law_pick)) (bSeq ((r_law_any_1 f_law_words f_law_take f_law_pick)) ((r_law_any_2 f_law_words f_law_take f_law_pick)))
def r_law_right_14 (f_law_kinds : FnB) : BS := bRet (bEv (bC (.bl true)))
def r_law_right_13 (f_law_kinds : FnB) : BS := bRet (bEv (bC (.bl false)))
def r_law_right_12 (f_law_kinds : FnB) : BS := bIf (bT (bOf (bBin (dEqA true) (bLv (bV (bUn dRepr (bOf (bBin dAdd (bLs 9) (bOf (bLst (bCons (bXf (okcOf fl_name) "name" (bV (bBin dIxA (bLs 8) (bC (.int (7)))))) (bCons (bXf (okcOf fl_index) "index" (bV (bBin dIxA (bLs 8) (bC (.int (8)))))) (bNil)))))))))) (bOf (bUn dRepr (bOf (bBin dRepL (bLv (bV (bLst (bCons (bVar 0) (bNil))))) (bC (.int (9)))))))))) ((r_law_right_13 f_law_kinds)) (bNext)
def r_law_right_11 (f_law_kinds : FnB) : BS := bSet 9 (bLst (bCons (bXf (okcOf fl_path) "path" (bV (bBin dIxA (bLs 8) (bC (.int (0)))))) (bCons (bXf (okcOf fl_path) "path" (bV (bBin dIxA (bLs 8) (bC (.int (1)))))) (bCons (bXf (okcOf fl_fact) "fact" (bV (bBin dIxA (bLs 8) (bC (.int (2)))))) (bCons (bXf (okcOf fl_step) "step" (bV (bBin dIxA (bLs 8) (bC (.int (3)))))) (bCons (bXf (okcOf fl_name) "name" (bV (bBin dIxA (bLs 8) (bC (.int (4)))))) (bCons (bXf (okcOf fl_limit) "limit" (bV (bBin dIxA (bLs 8) (bC (.int (5)))))) (bCons (bXf (okcOf fl_ring) "ring" (bV (bBin dIxA (bLs 8) (bC (.int (6)))))) (bNil)))))))))
def r_law_right_10 (f_law_kinds : FnB) : BS := bFor (bIt (bV (bLst (bCons (bVar 4) (bCons (bVar 5) (bNil)))))) (.nm 8) (bSeq ((r_law_right_11 f_law_kinds)) ((r_law_right_12 f_law_kinds)))
def r_law_right_9 (f_law_kinds : FnB) : BS := bRet (bEv (bC (.bl false)))
def r_law_right_8 (f_law_kinds : FnB) : BS := bIf (bOr (bT (bOf (bBin (dEqA true) (bLv (bV (bCall f_law_kinds [] (bCons (bVar 6) (bNil))))) (bOf (bLst (bCons (bVar 7) (bNil))))))) (bOr (bNot (bT (bOf (bIsX (catOf cl_StateError) (bPk 6))))) (bNot (bT (bOf (bIsX (catOf cl_ValueError) (bPk 6))))))) ((r_law_right_9 f_law_kinds)) (bNext)
def r_law_right_7 (f_law_kinds : FnB) : BS := bFor (bIt (bV (bBin dAdd (bLv (bV (bListZip (bCons (bV (bBin dAdd (bLs 2) (bPk 4))) (bCons (bVar 3) (bNil)))))) (bOf (bListZip (bCons (bVar 5) (bCons (bV (bSlc (bLs 3) (bPs (bC (.int (5)))) (bPn))) (bNil)))))))) (.tp [6, 7]) ((r_law_right_8 f_law_kinds))
def r_law_right_6 (f_law_kinds : FnB) : BS := bSet 5 (bBin dAdd (bLs 5) (bOf (bLst (bCons (bXv "TooMany" "limit" (bVar 0)) (bCons (bXv "Ring" "ring" (bVar 0)) (bCons (bXv "Clash" "name" (bVar 0)) (bCons (bXv "NoText" "index" (bVar 0)) (bNil))))))))
def r_law_right_5 (f_law_kinds : FnB) : BS := bSet 5 (bLst (bCons (bXv "NoPath" "path" (bVar 0)) (bCons (bXv "NoFile" "path" (bVar 0)) (bCons (bXv "NoFact" "fact" (bVar 0)) (bCons (bXv "NoStep" "step" (bVar 0)) (bCons (bXv "NoName" "name" (bVar 0)) (bNil)))))))
def r_law_right_4 (f_law_kinds : FnB) : BS := bSet 4 (bBin dAdd (bLs 4) (bOf (bLst (bCons (bXv "Ring" "ring" (bVar 0)) (bCons (bXv "Clash" "name" (bVar 0)) (bCons (bXv "NoText" "index" (bVar 0)) (bNil)))))))
def r_law_right_3 (f_law_kinds : FnB) : BS := bSet 4 (bLst (bCons (bXv "NoPath" "path" (bVar 0)) (bCons (bXv "NoFile" "path" (bVar 0)) (bCons (bXv "NoFact" "fact" (bVar 0)) (bCons (bXv "NoStep" "step" (bVar 0)) (bCons (bXv "NoName" "name" (bVar 0)) (bCons (bXv "TooMany" "limit" (bVar 0)) (bNil))))))))
def r_law_right_2 (f_law_kinds : FnB) : BS := bSet 3 (bBin dAdd (bLs 3) (bOf (bLst (bCons (bC (.str "clash")) (bCons (bC (.str "text")) (bNil))))))
def r_law_right_1 (f_law_kinds : FnB) : BS := bSet 3 (bLst (bCons (bC (.str "store")) (bCons (bC (.str "order")) (bCons (bC (.str "frame")) (bCons (bC (.str "case")) (bCons (bC (.str "ends")) (bCons (bC (.str "path")) (bCons (bC (.str "file")) (bCons (bC (.str "fact")) (bCons (bC (.str "step")) (bCons (bC (.str "name")) (bCons (bC (.str "many")) (bCons (bC (.str "ring")) (bNil))))))))))))))
def r_law_right_0 (f_law_kinds : FnB) : BS := bSet 2 (bLst (bCons (bXv0 "NoStore" (bVar 1)) (bCons (bXv0 "NoOrder" (bVar 1)) (bCons (bXv0 "NoFrame" (bVar 1)) (bCons (bXv0 "NoCase" (bVar 1)) (bCons (bXv0 "ManyEnds" (bVar 1)) (bNil)))))))
def r_law_right (f_law_kinds : FnB) : BS := bSeq ((r_law_right_0 f_law_kinds)) (bSeq ((r_law_right_1 f_law_kinds)) (bSeq ((r_law_right_2 f_law_kinds)) (bSeq ((r_law_right_3 f_law_kinds)) (bSeq ((r_law_right_4 f_law_kinds)) (bSeq ((r_law_right_5 f_law_kinds)) (bSeq ((r_law_right_6 f_law_kinds)) (bSeq ((r_law_right_7 f_law_kinds)) (bSeq ((r_law_right_10 f_law_kinds)) ((r_law_right_14 f_law_kinds))))))))))
def r_law_4 (f_law_begun : FnB) (f_law_right : FnB) (f_law_any : FnB) (f_law_words : FnB) (f_law_kinds : FnB) : BS := bRet (bAndV (bV (bBin (dEqA false) (bLv (bV (bCall f_law_kinds [] (bCons (bXv0 "StateError" (bC (.str "a"))) (bNil))))) (bOf (bLst (bNil))))) (bIsX (catOf cl_ValueError) (bXv0 "StateError" (bC (.str "a")))))
def r_law_3 (f_law_begun : FnB) (f_law_right : FnB) (f_law_any : FnB) (f_law_words : FnB) (f_law_kinds : FnB) : BS := bRet (bEv (bC (.bl false)))
def r_law_2 (f_law_begun : FnB) (f_law_right : FnB) (f_law_any : FnB) (f_law_words : FnB) (f_law_kinds : FnB) : BS := bIf (bNot (bT (bOf (bCall f_law_right [] (bCons (bV (bCall f_law_any [] (bCons (bVar 1) (bNil)))) (bCons (bV (bBin dIxA (bLv (bV (bCall f_law_words [] (bCons (bVar 1) (bCons (bC (.int (1))) (bNil)))))) (bC (.int (0))))) (bNil))))))) ((r_law_3 f_law_begun f_law_right f_law_any f_law_words f_law_kinds)) (bNext)
def r_law_1 (f_law_begun : FnB) (f_law_right : FnB) (f_law_any : FnB) (f_law_words : FnB) (f_law_kinds : FnB) : BS := bFor (bRng1 (bCons (bV (bMx (fun i j => if j > i then j else i) (bCons (bC (.int (1))) (bCons (bV (bMx (fun i j => if j < i then j else i) (bCons (bC (.int (8))) (bCons (bV (bUn dLen (bPk 0))) (bNil))))) (bNil))))) (bNil))) (.nm 2) ((r_law_2 f_law_begun f_law_right f_law_any f_law_words f_law_kinds))
def r_law_0 (f_law_begun : FnB) (f_law_right : FnB) (f_law_any : FnB) (f_law_words : FnB) (f_law_kinds : FnB) : BS := bSet 1 (bEv (bAsM (bCall f_law_begun [] (bCons (bVar 0) (bNil)))))
def r_law (f_law_begun : FnB) (f_law_right : FnB) (f_law_any : FnB) (f_law_words : FnB) (f_law_kinds : FnB) : BS := bSeq ((r_law_0 f_law_begun f_law_right f_law_any f_law_words f_law_kinds)) (bSeq ((r_law_1 f_law_begun f_law_right f_law_any f_law_words f_law_kinds)) ((r_law_4 f_law_begun f_law_right f_law_any f_law_words f_law_kinds)))
section
variable {P : Program} {w : World} {K : PySem.W.Frag} {mg : Str → Option Value} {base : Heap}
abbrev Fn (P : Program) (w : World) (K : PySem.W.Frag) (mg : Str → Option Value) (base : Heap) (d : He.DefD) (k : Nat) (ps : List Str) (fb : FnB) : Prop := HasFn P w K mg base d k ps fb
abbrev FdOf (K : PySem.W.Frag) (d : He.DefD) (fd : FuncData) : Prop := FunD K d.name d.qual d.params d.body d.scope (d.dvs K) (d.kws K) (He.fAd K d.at_) fd
theorem df_law_mixed_1 {fd : FuncData} (F : FdOf K d_law_mixed fd) : Dfl K fd ["_law_state"] [] := dfl_none F fun _ _ _ _ _ _ us hl => match us, hl with | [_], _ => rfl
theorem df_law_take_2 {fd : FuncData} (F : FdOf K d_law_take fd) : Dfl K fd ["_law_state", "_law_size"] [] := dfl_none F fun _ _ _ _ _ _ us hl => match us, hl with | [_, _], _ => rfl
theorem df_law_pick_2 {fd : FuncData} (F : FdOf K d_law_pick fd) : Dfl K fd ["_law_state", "_law_some"] [] := dfl_none F fun _ _ _ _ _ _ us hl => match us, hl with | [_, _], _ => rfl
theorem df_law_words_2 {fd : FuncData} (F : FdOf K d_law_words fd) : Dfl K fd ["_law_state", "_law_many"] [] := dfl_none F fun _ _ _ _ _ _ us hl => match us, hl with | [_, _], _ => rfl
theorem df_law_kinds_1 {fd : FuncData} (F : FdOf K d_law_kinds fd) : Dfl K fd ["_law_error"] [] := dfl_none F fun _ _ _ _ _ _ us hl => match us, hl with | [_], _ => rfl
theorem df_law_begun_1 {fd : FuncData} (F : FdOf K d_law_begun fd) : Dfl K fd ["_law_script"] [] := dfl_none F fun _ _ _ _ _ _ us hl => match us, hl with | [_], _ => rfl
theorem df_law_right_2 {fd : FuncData} (F : FdOf K d_law_right fd) : Dfl K fd ["_law_thing", "_law_said"] [] := dfl_none F fun _ _ _ _ _ _ us hl => match us, hl with | [_, _], _ => rfl
theorem df_law_any_1 {fd : FuncData} (F : FdOf K d_law_any fd) : Dfl K fd ["_law_state"] [] := dfl_none F fun _ _ _ _ _ _ us hl => match us, hl with | [_], _ => rfl
theorem bx_NoPath {fd : FuncData} (F : FdOf K d_NoPath___init__ fd) : Binds K fd ["self", "path"] [] := FunD.bindsN F fun _ _ _ _ _ _ us hl => match us, hl with | [_, _], _ => rfl
theorem bk_NoPath {fd : FuncData} (F : FdOf K d_NoPath___init__ fd) : ∀ (s : Shared) (q u : Value), K.In s.heap → BindsTo s fd ⟨[q], [("path", u)]⟩ ((["self", "path"] : List Str).zip [q, u]) := xkw_of F fun _ _ _ _ _ _ _ _ => rfl
theorem bx_NoFile {fd : FuncData} (F : FdOf K d_NoFile___init__ fd) : Binds K fd ["self", "path"] [] := FunD.bindsN F fun _ _ _ _ _ _ us hl => match us, hl with | [_, _], _ => rfl
theorem bk_NoFile {fd : FuncData} (F : FdOf K d_NoFile___init__ fd) : ∀ (s : Shared) (q u : Value), K.In s.heap → BindsTo s fd ⟨[q], [("path", u)]⟩ ((["self", "path"] : List Str).zip [q, u]) := xkw_of F fun _ _ _ _ _ _ _ _ => rfl
theorem bx_NoFact {fd : FuncData} (F : FdOf K d_NoFact___init__ fd) : Binds K fd ["self", "fact"] [] := FunD.bindsN F fun _ _ _ _ _ _ us hl => match us, hl with | [_, _], _ => rfl
theorem bk_NoFact {fd : FuncData} (F : FdOf K d_NoFact___init__ fd) : ∀ (s : Shared) (q u : Value), K.In s.heap → BindsTo s fd ⟨[q], [("fact", u)]⟩ ((["self", "fact"] : List Str).zip [q, u]) := xkw_of F fun _ _ _ _ _ _ _ _ => rfl
theorem bx_NoStep {fd : FuncData} (F : FdOf K d_NoStep___init__ fd) : Binds K fd ["self", "step"] [] := FunD.bindsN F fun _ _ _ _ _ _ us hl => match us, hl with | [_, _], _ => rfl
theorem bk_NoStep {fd : FuncData} (F : FdOf K d_NoStep___init__ fd) : ∀ (s : Shared) (q u : Value), K.In s.heap → BindsTo s fd ⟨[q], [("step", u)]⟩ ((["self", "step"] : List Str).zip [q, u]) := xkw_of F fun _ _ _ _ _ _ _ _ => rfl
theorem bx_NoName {fd : FuncData} (F : FdOf K d_NoName___init__ fd) : Binds K fd ["self", "name"] [] := FunD.bindsN F fun _ _ _ _ _ _ us hl => match us, hl with | [_, _], _ => rfl
theorem bk_NoName {fd : FuncData} (F : FdOf K d_NoName___init__ fd) : ∀ (s : Shared) (q u : Value), K.In s.heap → BindsTo s fd ⟨[q], [("name", u)]⟩ ((["self", "name"] : List Str).zip [q, u]) := xkw_of F fun _ _ _ _ _ _ _ _ => rfl
theorem bx_TooMany {fd : FuncData} (F : FdOf K d_TooMany___init__ fd) : Binds K fd ["self", "limit"] [] := FunD.bindsN F fun _ _ _ _ _ _ us hl => match us, hl with | [_, _], _ => rfl
theorem bk_TooMany {fd : FuncData} (F : FdOf K d_TooMany___init__ fd) : ∀ (s : Shared) (q u : Value), K.In s.heap → BindsTo s fd ⟨[q], [("limit", u)]⟩ ((["self", "limit"] : List Str).zip [q, u]) := xkw_of F fun _ _ _ _ _ _ _ _ => rfl
theorem bx_Ring {fd : FuncData} (F : FdOf K d_Ring___init__ fd) : Binds K fd ["self", "ring"] [] := FunD.bindsN F fun _ _ _ _ _ _ us hl => match us, hl with | [_, _], _ => rfl
theorem bk_Ring {fd : FuncData} (F : FdOf K d_Ring___init__ fd) : ∀ (s : Shared) (q u : Value), K.In s.heap → BindsTo s fd ⟨[q], [("ring", u)]⟩ ((["self", "ring"] : List Str).zip [q, u]) := xkw_of F fun _ _ _ _ _ _ _ _ => rfl
theorem bx_Clash {fd : FuncData} (F : FdOf K d_Clash___init__ fd) : Binds K fd ["self", "name"] [] := FunD.bindsN F fun _ _ _ _ _ _ us hl => match us, hl with | [_, _], _ => rfl
theorem bk_Clash {fd : FuncData} (F : FdOf K d_Clash___init__ fd) : ∀ (s : Shared) (q u : Value), K.In s.heap → BindsTo s fd ⟨[q], [("name", u)]⟩ ((["self", "name"] : List Str).zip [q, u]) := xkw_of F fun _ _ _ _ _ _ _ _ => rfl
theorem bx_NoText {fd : FuncData} (F : FdOf K d_NoText___init__ fd) : Binds K fd ["self", "index"] [] := FunD.bindsN F fun _ _ _ _ _ _ us hl => match us, hl with | [_, _], _ => rfl
theorem bk_NoText {fd : FuncData} (F : FdOf K d_NoText___init__ fd) : ∀ (s : Shared) (q u : Value), K.In s.heap → BindsTo s fd ⟨[q], [("index", u)]⟩ ((["self", "index"] : List Str).zip [q, u]) := xkw_of F fun _ _ _ _ _ _ _ _ => rfl
variable (X : K.In base) (G : base.Ns mainGlobals mg) (c : He.SaysD fa fn K) (tp : TupsOk K tups) (xc : XFs K xf)
include X G c tp xc
theorem fx_NoPath : HasX P w K mg base d_NoPath___init__ ["self", "path"] "path" := by
  refine hasX (m := "this is not a path") (c.def_ 9 (d := d_NoPath___init__) rfl) sc_NoPath___init__ rfl fun cdv A outer s H E => ?_
  exact pss_cons (ps_expr (pe_sinit (x := "StateError") rfl (He.glo_ok X G (c.fact 30)) (XFa.sup_ok (xc.at_ 41)) (pa_cons (pe_var (i := 0) rfl (.inl rfl)) (pa_cons pe_str pa_nil)))) (pss_one (ps_ost (pe_var (i := 0) rfl (.inl rfl)) (pe_var (i := 1) rfl (.inl rfl))))
theorem fx_NoFile : HasX P w K mg base d_NoFile___init__ ["self", "path"] "path" := by
  refine hasX (m := "there is no file at this path") (c.def_ 10 (d := d_NoFile___init__) rfl) sc_NoFile___init__ rfl fun cdv A outer s H E => ?_
  exact pss_cons (ps_expr (pe_sinit (x := "StateError") rfl (He.glo_ok X G (c.fact 30)) (XFa.sup_ok (xc.at_ 41)) (pa_cons (pe_var (i := 0) rfl (.inl rfl)) (pa_cons pe_str pa_nil)))) (pss_one (ps_ost (pe_var (i := 0) rfl (.inl rfl)) (pe_var (i := 1) rfl (.inl rfl))))
theorem fx_NoFact : HasX P w K mg base d_NoFact___init__ ["self", "fact"] "fact" := by
  refine hasX (m := "this is not a fact") (c.def_ 11 (d := d_NoFact___init__) rfl) sc_NoFact___init__ rfl fun cdv A outer s H E => ?_
  exact pss_cons (ps_expr (pe_sinit (x := "StateError") rfl (He.glo_ok X G (c.fact 30)) (XFa.sup_ok (xc.at_ 41)) (pa_cons (pe_var (i := 0) rfl (.inl rfl)) (pa_cons pe_str pa_nil)))) (pss_one (ps_ost (pe_var (i := 0) rfl (.inl rfl)) (pe_var (i := 1) rfl (.inl rfl))))
theorem fx_NoStep : HasX P w K mg base d_NoStep___init__ ["self", "step"] "step" := by
  refine hasX (m := "this is not a step") (c.def_ 12 (d := d_NoStep___init__) rfl) sc_NoStep___init__ rfl fun cdv A outer s H E => ?_
  exact pss_cons (ps_expr (pe_sinit (x := "StateError") rfl (He.glo_ok X G (c.fact 30)) (XFa.sup_ok (xc.at_ 41)) (pa_cons (pe_var (i := 0) rfl (.inl rfl)) (pa_cons pe_str pa_nil)))) (pss_one (ps_ost (pe_var (i := 0) rfl (.inl rfl)) (pe_var (i := 1) rfl (.inl rfl))))
theorem fx_NoName : HasX P w K mg base d_NoName___init__ ["self", "name"] "name" := by
  refine hasX (m := "there is no such name") (c.def_ 13 (d := d_NoName___init__) rfl) sc_NoName___init__ rfl fun cdv A outer s H E => ?_
  exact pss_cons (ps_expr (pe_sinit (x := "StateError") rfl (He.glo_ok X G (c.fact 30)) (XFa.sup_ok (xc.at_ 41)) (pa_cons (pe_var (i := 0) rfl (.inl rfl)) (pa_cons pe_str pa_nil)))) (pss_one (ps_ost (pe_var (i := 0) rfl (.inl rfl)) (pe_var (i := 1) rfl (.inl rfl))))
theorem fx_TooMany : HasX P w K mg base d_TooMany___init__ ["self", "limit"] "limit" := by
  refine hasX (m := "a number is above its limit") (c.def_ 14 (d := d_TooMany___init__) rfl) sc_TooMany___init__ rfl fun cdv A outer s H E => ?_
  exact pss_cons (ps_expr (pe_sinit (x := "StateError") rfl (He.glo_ok X G (c.fact 30)) (XFa.sup_ok (xc.at_ 41)) (pa_cons (pe_var (i := 0) rfl (.inl rfl)) (pa_cons pe_str pa_nil)))) (pss_one (ps_ost (pe_var (i := 0) rfl (.inl rfl)) (pe_var (i := 1) rfl (.inl rfl))))
theorem fx_Ring : HasX P w K mg base d_Ring___init__ ["self", "ring"] "ring" := by
  refine hasX (m := "bonds would close a ring") (c.def_ 15 (d := d_Ring___init__) rfl) sc_Ring___init__ rfl fun cdv A outer s H E => ?_
  exact pss_cons (ps_expr (pe_sinit (x := "StateError") rfl (He.glo_ok X G (c.fact 30)) (XFa.sup_ok (xc.at_ 41)) (pa_cons (pe_var (i := 0) rfl (.inl rfl)) (pa_cons pe_str pa_nil)))) (pss_one (ps_ost (pe_var (i := 0) rfl (.inl rfl)) (pe_var (i := 1) rfl (.inl rfl))))
theorem fx_Clash : HasX P w K mg base d_Clash___init__ ["self", "name"] "name" := by
  refine hasX (m := "two books have unequal steps by one name") (c.def_ 16 (d := d_Clash___init__) rfl) sc_Clash___init__ rfl fun cdv A outer s H E => ?_
  exact pss_cons (ps_expr (pe_sinit (x := "StateError") rfl (He.glo_ok X G (c.fact 30)) (XFa.sup_ok (xc.at_ 41)) (pa_cons (pe_var (i := 0) rfl (.inl rfl)) (pa_cons pe_str pa_nil)))) (pss_one (ps_ost (pe_var (i := 0) rfl (.inl rfl)) (pe_var (i := 1) rfl (.inl rfl))))
theorem fx_NoText : HasX P w K mg base d_NoText___init__ ["self", "index"] "index" := by
  refine hasX (m := "this is not the text of such a value") (c.def_ 17 (d := d_NoText___init__) rfl) sc_NoText___init__ rfl fun cdv A outer s H E => ?_
  exact pss_cons (ps_expr (pe_sinit (x := "StateError") rfl (He.glo_ok X G (c.fact 30)) (XFa.sup_ok (xc.at_ 41)) (pa_cons (pe_var (i := 0) rfl (.inl rfl)) (pa_cons pe_str pa_nil)))) (pss_one (ps_ost (pe_var (i := 0) rfl (.inl rfl)) (pe_var (i := 1) rfl (.inl rfl))))
theorem fn_law_begun   : Fn P w K mg base d_law_begun 1 ["_law_script"] (bodyF (r_law_begun ) 3 1) := by
  obtain ⟨fd, F⟩ := c.def_ 0 (d := d_law_begun) rfl
  refine ⟨fd, F, bfn_D F sc_law_begun fun cdv A outer s H E hr hg => ?_⟩
  have g := gd_fn (cl := He.ga K) (w := w) (mg := mg) (base := base) (P := P) (K := K) (qual := d_law_begun.qual) (outer := outer) (E := E) (H := H) (tb := [(0, "_law_script"), (1, "_law_wide")]) (gl := ["list"]) sc_law_begun hr hg (by decide +kernel) (by decide +kernel)
  refine bss_cons ?_ ?_
  · refine bs_setLc g 1 (own := [("_law_cell", 2)]) (sc := (defScope s_law_begun)) rfl rfl (sw_true rfl rfl rfl (by decide +kernel)) rfl ?_ (by decide +kernel) (by decide) ?_ ?_ ?_
    · exact bc_var (g.v 0)
    · intro s H C cl fp
      refine blk_p g (sc := (defScope s_law_begun)) (tb2 := [(2, "_law_cell")]) (gl2 := []) rfl (by decide +kernel) (by decide +kernel) fun g => ?_
      · exact g.gn 0
    · intro s H C cl fp
      refine blk_t g (sc := (defScope s_law_begun)) (tb2 := [(2, "_law_cell")]) (gl2 := []) rfl (by decide +kernel) (by decide +kernel) fun g => ?_
      · refine bts_one ?_
        · refine bq_ge ?_ ?_
          · exact bl_var (g.v 0)
          · refine bo_of ?_
            · refine be_pow ?_ ?_
              · refine bl_of ?_
                · exact bv_int
              · refine bo_of_v ?_
                · exact bv_int
    · intro s H C cl fp
      refine blk_v g (sc := (defScope s_law_begun)) (tb2 := [(2, "_law_cell")]) (gl2 := []) rfl (by decide +kernel) (by decide +kernel) fun g => ?_
      · refine bv_of ?_
        · refine be_sub ?_ ?_
          · exact bl_var (g.v 0)
          · refine bo_of ?_
            · refine be_pow ?_ ?_
              · refine bl_of ?_
                · exact bv_int
              · refine bo_of_v ?_
                · exact bv_int
  · refine bss_one ?_
    · refine bs_ret ?_
      · refine be_dz ?_ (fun z => nomatch z) rfl
        · refine dst_cons bv_str ?_ ?_
          · exact bv_toM (g.v 1)
          · refine dst_cons bv_str ?_ ?_
            · refine bv_of ?_
              · refine be_listA g (g.g 0) (He.free_ok X G (c.fact 0)) ?_
                · exact bo_var (g.v 0)
            · refine dst_cons bv_str ?_ ?_
              · exact bv_int
              · refine dst_cons bv_str ?_ ?_
                · exact bv_int
                · exact trivial
theorem fn_law_mixed   : Fn P w K mg base d_law_mixed 1 ["_law_state"] (bodyF (r_law_mixed ) 6 1) := by
  obtain ⟨fd, F⟩ := c.def_ 1 (d := d_law_mixed) rfl
  refine ⟨fd, F, bfn_D F sc_law_mixed fun cdv A outer s H E hr hg => ?_⟩
  have g := gd_fn (cl := He.ga K) (w := w) (mg := mg) (base := base) (P := P) (K := K) (qual := d_law_mixed.qual) (outer := outer) (E := E) (H := H) (tb := [(0, "_law_state"), (1, "_law_turn"), (2, "_law_found"), (3, "_law_prime"), (4, "_law_blend"), (5, "_law_cell")]) (gl := ["int"]) sc_law_mixed hr hg (by decide +kernel) (by decide +kernel)
  refine bss_cons ?_ ?_
  · refine bs_set g 1 ?_
    · refine be_add ?_ ?_
      · refine bl_of ?_
        · refine bv_of ?_
          · refine be_ix g ?_ ?_
            · refine bl_ptr ?_
              · exact bv_var (g.v 0)
            · refine bo_of_v ?_
              · exact bv_str
      · refine bo_of_v ?_
        · exact bv_int
  · refine bss_cons ?_ ?_
    · refine bs_putM g ?_ ?_ ?_
      · exact bv_var (g.v 0)
      · exact bv_str
      · exact bv_var (g.v 1)
    · refine bss_cons ?_ ?_
      · refine bs_set g 2 ?_
        · refine be_ev ?_
          · exact bv_int
      · refine bss_cons ?_ ?_
        · refine bs_for g ?_ ?_ ?_
          · refine bi_val ?_
            · refine bv_of ?_
              · refine be_lst ?_
                · refine ba_cons ?_ ?_
                  · exact bv_int
                  · refine ba_cons ?_ ?_
                    · exact bv_int
                    · refine ba_cons ?_ ?_
                      · exact bv_int
                      · refine ba_cons ?_ ?_
                        · exact bv_int
                        · refine ba_cons ?_ ?_
                          · exact bv_int
                          · refine ba_cons ?_ ?_
                            · exact bv_int
                            · exact ba_nil
          · exact g.gn 3
          · refine bss_cons ?_ ?_
            · refine bs_set g 4 ?_
              · refine be_add ?_ ?_
                · refine bl_of ?_
                  · refine bv_of ?_
                    · refine be_mul ?_ ?_
                      · refine bl_of ?_
                        · exact bv_int
                      · exact bo_var (g.v 1)
                · refine bo_of ?_
                  · refine be_div ?_ ?_
                    · exact bl_var (g.v 3)
                    · refine bo_of_v ?_
                      · exact bv_int
            · refine bss_cons ?_ ?_
              · refine bs_for g ?_ ?_ ?_
                · refine bi_val ?_
                  · refine bv_of ?_
                    · refine be_ix g ?_ ?_
                      · refine bl_ptr ?_
                        · exact bv_var (g.v 0)
                      · refine bo_of_v ?_
                        · exact bv_str
                · exact g.gn 5
                · refine bss_one ?_
                  · refine bs_set g 4 ?_
                    · refine be_mod ?_ ?_
                      · refine bl_of ?_
                        · refine bv_of ?_
                          · refine be_int (g.g 0) (He.free_ok X G (c.fact 1)) ?_
                            · refine bo_of ?_
                              · refine be_add ?_ ?_
                                · refine bl_of ?_
                                  · refine bv_of ?_
                                    · refine be_mul ?_ ?_
                                      · exact bl_var (g.v 4)
                                      · refine bo_of_v ?_
                                        · exact bv_int
                                · exact bo_var (g.v 5)
                      · exact bo_var (g.v 3)
              · refine bss_one ?_
                · refine bs_set g 2 ?_
                  · refine be_add ?_ ?_
                    · refine bl_of ?_
                      · refine bv_of ?_
                        · refine be_mul ?_ ?_
                          · exact bl_var (g.v 2)
                          · refine bo_of_v ?_
                            · exact bv_int
                    · refine bo_of ?_
                      · refine be_mod ?_ ?_
                        · refine bl_of ?_
                          · refine bv_of ?_
                            · refine be_int (g.g 0) (He.free_ok X G (c.fact 1)) ?_
                              · refine bo_of ?_
                                · refine be_pow ?_ ?_
                                  · exact bl_var (g.v 4)
                                  · refine bo_of_v ?_
                                    · exact bv_int
                        · exact bo_var (g.v 3)
        · refine bss_one ?_
          · refine bs_ret ?_
            · exact be_mv (g.v 2)
theorem fn_law_take {f_law_mixed : FnB} (h_law_mixed : Fn P w K mg base d_law_mixed 1 ["_law_state"] f_law_mixed) : Fn P w K mg base d_law_take 2 ["_law_state", "_law_size"] (bodyF (r_law_take f_law_mixed) 3 2) := by
  obtain ⟨fd, F⟩ := c.def_ 2 (d := d_law_take) rfl
  obtain ⟨fd_law_mixed, F_law_mixed, G_law_mixed⟩ := h_law_mixed
  refine ⟨fd, F, bfn_D F sc_law_take fun cdv A outer s H E hr hg => ?_⟩
  have g := gd_fn (cl := He.ga K) (w := w) (mg := mg) (base := base) (P := P) (K := K) (qual := d_law_take.qual) (outer := outer) (E := E) (H := H) (tb := [(0, "_law_state"), (1, "_law_size"), (2, "_law_found")]) (gl := ["_law_mixed", "int"]) sc_law_take hr hg (by decide +kernel) (by decide +kernel)
  refine bss_cons ?_ ?_
  · refine bs_if ?_ ?_ ?_
    · refine bq_w ?_
      · refine bw_and ?_ ?_
        · refine bq_eqA g ?_ ?_
          · refine bl_of ?_
            · refine bv_of ?_
              · refine be_ix g ?_ ?_
                · refine bl_ptr ?_
                  · exact bv_var (g.v 0)
                · refine bo_of_v ?_
                  · exact bv_str
          · refine bo_of_v ?_
            · exact bv_int
        · refine bw_and1 ?_
          · refine bq_neA g ?_ ?_
            · refine bl_ptr ?_
              · refine bv_of ?_
                · refine be_ix g ?_ ?_
                  · refine bl_ptr ?_
                    · exact bv_var (g.v 0)
                  · refine bo_of_v ?_
                    · exact bv_str
            · refine bo_of ?_
              · refine be_lst ?_
                · exact ba_nil
    · refine bss_one ?_
      · refine bs_putM g ?_ ?_ ?_
        · exact bv_var (g.v 0)
        · exact bv_str
        · refine bv_of ?_
          · refine be_popM ?_ ?_
            · refine bv_of ?_
              · refine be_ix g ?_ ?_
                · refine bl_ptr ?_
                  · exact bv_var (g.v 0)
                · refine bo_of_v ?_
                  · exact bv_str
            · exact bv_int
    · refine bss_one ?_
      · refine bs_if ?_ ?_ ?_
        · refine bq_eqA g ?_ ?_
          · refine bl_of ?_
            · refine bv_of ?_
              · refine be_ix g ?_ ?_
                · refine bl_ptr ?_
                  · exact bv_var (g.v 0)
                · refine bo_of_v ?_
                  · exact bv_str
          · refine bo_of_v ?_
            · exact bv_int
        · refine bss_one ?_
          · refine bs_putM g ?_ ?_ ?_
            · exact bv_var (g.v 0)
            · exact bv_str
            · refine bv_of ?_
              · refine be_call g G_law_mixed (by decide) (g.g 0) (He.glo_ok X G (c.fact 2)) F_law_mixed.kp (df_law_mixed_1 F_law_mixed) ?_
                · refine ba_cons ?_ ?_
                  · exact bv_var (g.v 0)
                  · exact ba_nil
        · exact bss_nil
  · refine bss_cons ?_ ?_
    · refine bs_set g 2 ?_
      · refine be_mod ?_ ?_
        · refine bl_of ?_
          · refine bv_of ?_
            · refine be_int (g.g 1) (He.free_ok X G (c.fact 1)) ?_
              · refine bo_of ?_
                · refine be_ix g ?_ ?_
                  · refine bl_ptr ?_
                    · exact bv_var (g.v 0)
                  · refine bo_of_v ?_
                    · exact bv_str
        · exact bo_var (g.v 1)
    · refine bss_cons ?_ ?_
      · refine bs_putM g ?_ ?_ ?_
        · exact bv_var (g.v 0)
        · exact bv_str
        · refine bv_of ?_
          · refine be_div ?_ ?_
            · refine bl_of ?_
              · refine bv_of ?_
                · refine be_ix g ?_ ?_
                  · refine bl_ptr ?_
                    · exact bv_var (g.v 0)
                  · refine bo_of_v ?_
                    · exact bv_str
            · exact bo_var (g.v 1)
      · refine bss_one ?_
        · refine bs_ret ?_
          · exact be_mv (g.v 2)
theorem fn_law_pick {f_law_take : FnB} (h_law_take : Fn P w K mg base d_law_take 2 ["_law_state", "_law_size"] f_law_take) : Fn P w K mg base d_law_pick 3 ["_law_state", "_law_some"] (bodyF (r_law_pick f_law_take) 2 2) := by
  obtain ⟨fd, F⟩ := c.def_ 3 (d := d_law_pick) rfl
  obtain ⟨fd_law_take, F_law_take, G_law_take⟩ := h_law_take
  refine ⟨fd, F, bfn_D F sc_law_pick fun cdv A outer s H E hr hg => ?_⟩
  have g := gd_fn (cl := He.ga K) (w := w) (mg := mg) (base := base) (P := P) (K := K) (qual := d_law_pick.qual) (outer := outer) (E := E) (H := H) (tb := [(0, "_law_state"), (1, "_law_some")]) (gl := ["_law_take", "len"]) sc_law_pick hr hg (by decide +kernel) (by decide +kernel)
  refine bss_one ?_
  · refine bs_ret ?_
    · refine be_ix g ?_ ?_
      · exact bl_var (g.v 1)
      · refine bo_of ?_
        · refine be_call g G_law_take (by decide) (g.g 0) (He.glo_ok X G (c.fact 3)) F_law_take.kp (df_law_take_2 F_law_take) ?_
          · refine ba_cons ?_ ?_
            · exact bv_var (g.v 0)
            · refine ba_cons ?_ ?_
              · refine bv_of ?_
                · refine be_len (g.g 1) (He.free_ok X G (c.fact 4)) ?_
                  · exact bo_var (g.v 1)
              · exact ba_nil
theorem fn_law_words {f_law_take : FnB} {f_law_pick : FnB} (h_law_take : Fn P w K mg base d_law_take 2 ["_law_state", "_law_size"] f_law_take) (h_law_pick : Fn P w K mg base d_law_pick 3 ["_law_state", "_law_some"] f_law_pick) : Fn P w K mg base d_law_words 4 ["_law_state", "_law_many"] (bodyF (r_law_words f_law_take f_law_pick) 10 2) := by
  obtain ⟨fd, F⟩ := c.def_ 4 (d := d_law_words) rfl
  obtain ⟨fd_law_take, F_law_take, G_law_take⟩ := h_law_take
  obtain ⟨fd_law_pick, F_law_pick, G_law_pick⟩ := h_law_pick
  refine ⟨fd, F, bfn_D F sc_law_words fun cdv A outer s H E hr hg => ?_⟩
  have g := gd_fn (cl := He.ga K) (w := w) (mg := mg) (base := base) (P := P) (K := K) (qual := d_law_words.qual) (outer := outer) (E := E) (H := H) (tb := [(0, "_law_state"), (1, "_law_many"), (2, "_law_letters"), (3, "_law_some"), (4, "_law_words_here"), (5, "_law_k"), (6, "_law_way"), (7, "_law_word")]) (gl := ["range", "_law_take", "_law_pick"]) sc_law_words hr hg (by decide +kernel) (by decide +kernel)
  refine bss_cons ?_ ?_
  · refine bs_set g 2 ?_
    · refine be_ev ?_
      · exact bv_str
  · refine bss_cons ?_ ?_
    · refine bs_set g 3 ?_
      · refine be_lst ?_
        · refine ba_cons ?_ ?_
          · exact bv_str
          · refine ba_cons ?_ ?_
            · exact bv_str
            · refine ba_cons ?_ ?_
              · exact bv_str
              · refine ba_cons ?_ ?_
                · exact bv_str
                · refine ba_cons ?_ ?_
                  · exact bv_str
                  · refine ba_cons ?_ ?_
                    · exact bv_str
                    · refine ba_cons ?_ ?_
                      · exact bv_str
                      · refine ba_cons ?_ ?_
                        · exact bv_str
                        · refine ba_cons ?_ ?_
                          · exact bv_str
                          · refine ba_cons ?_ ?_
                            · exact bv_str
                            · refine ba_cons ?_ ?_
                              · exact bv_str
                              · refine ba_cons ?_ ?_
                                · exact bv_str
                                · exact ba_nil
    · refine bss_cons ?_ ?_
      · refine bs_set g 4 ?_
        · refine be_lst ?_
          · exact ba_nil
      · refine bss_cons ?_ ?_
        · refine bs_for g ?_ ?_ ?_
          · refine bi_rng1 (g.g 0) (He.free_ok X G (c.fact 5)) ?_
            · refine ba_cons ?_ ?_
              · exact bv_var (g.v 1)
              · exact ba_nil
          · exact g.gn 5
          · refine bss_cons ?_ ?_
            · refine bs_par2 g 6 7 rfl rfl (by decide) rfl rfl ?_ ?_ (hw := by rfl)
              · refine be_call g G_law_take (by decide) (g.g 1) (He.glo_ok X G (c.fact 3)) F_law_take.kp (df_law_take_2 F_law_take) ?_
                · refine ba_cons ?_ ?_
                  · exact bv_var (g.v 0)
                  · refine ba_cons ?_ ?_
                    · exact bv_int
                    · exact ba_nil
              · refine be_call g G_law_pick (by decide) (g.g 2) (He.glo_ok X G (c.fact 6)) F_law_pick.kp (df_law_pick_2 F_law_pick) ?_
                · refine ba_cons ?_ ?_
                  · exact bv_var (g.v 0)
                  · refine ba_cons ?_ ?_
                    · exact bv_var (g.v 3)
                    · exact ba_nil
            · refine bss_cons ?_ ?_
              · refine bs_if ?_ ?_ ?_
                · refine bq_eqA g ?_ ?_
                  · exact bl_var (g.v 6)
                  · refine bo_of_v ?_
                    · exact bv_int
                · refine bss_one ?_
                  · refine bs_set g 7 ?_
                    · refine be_join ?_ ?_
                      · refine bl_of ?_
                        · exact bv_str
                      · refine bo_of ?_
                        · refine be_lc g (own := [("_law_j", 8)]) (sc := (defScope s_law_words)) rfl ?_ (by decide +kernel) (by decide) ?_ ?_ ?_
                          · refine bc_of ?_
                            · refine bi_rng1 (g.g 0) (He.free_ok X G (c.fact 5)) ?_
                              · refine ba_cons ?_ ?_
                                · refine bv_of ?_
                                  · refine be_add ?_ ?_
                                    · refine bl_of ?_
                                      · exact bv_int
                                    · refine bo_of ?_
                                      · refine be_call g G_law_take (by decide) (g.g 1) (He.glo_ok X G (c.fact 3)) F_law_take.kp (df_law_take_2 F_law_take) ?_
                                        · refine ba_cons ?_ ?_
                                          · exact bv_var (g.v 0)
                                          · refine ba_cons ?_ ?_
                                            · exact bv_int
                                            · exact ba_nil
                                · exact ba_nil
                          · intro s H C cl fp
                            refine blk_p g (sc := (defScope s_law_words)) (tb2 := [(8, "_law_j"), (0, "_law_state"), (2, "_law_letters")]) (gl2 := ["_law_pick"]) rfl (by decide +kernel) (by decide +kernel) fun g => ?_
                            · exact g.gn 0
                          · intro s H C cl fp
                            refine blk_t g (sc := (defScope s_law_words)) (tb2 := [(8, "_law_j"), (0, "_law_state"), (2, "_law_letters")]) (gl2 := ["_law_pick"]) rfl (by decide +kernel) (by decide +kernel) fun g => ?_
                            · exact bts_nil
                          · intro s H C cl fp
                            refine blk_v g (sc := (defScope s_law_words)) (tb2 := [(8, "_law_j"), (0, "_law_state"), (2, "_law_letters")]) (gl2 := ["_law_pick"]) rfl (by decide +kernel) (by decide +kernel) fun g => ?_
                            · refine bv_of ?_
                              · refine be_call g G_law_pick (by decide) (g.g 0) (He.glo_ok X G (c.fact 6)) F_law_pick.kp (df_law_pick_2 F_law_pick) ?_
                                · refine ba_cons ?_ ?_
                                  · exact bv_var (g.v 1)
                                  · refine ba_cons ?_ ?_
                                    · exact bv_var (g.v 2)
                                    · exact ba_nil
                · exact bss_nil
              · refine bss_cons ?_ ?_
                · refine bs_if ?_ ?_ ?_
                  · refine bq_w ?_
                    · refine bw_and ?_ ?_
                      · refine bq_eqA g ?_ ?_
                        · exact bl_var (g.v 6)
                        · refine bo_of_v ?_
                          · exact bv_int
                      · refine bw_and1 ?_
                        · refine bq_neA g ?_ ?_
                          · exact bl_var (g.v 4)
                          · refine bo_of ?_
                            · refine be_lst ?_
                              · exact ba_nil
                  · refine bss_one ?_
                    · refine bs_set g 7 ?_
                      · refine be_slc ?_ ?_ ?_
                        · refine bl_of ?_
                          · refine bv_of ?_
                            · refine be_add ?_ ?_
                              · refine bl_of ?_
                                · refine bv_of ?_
                                  · refine be_ix g ?_ ?_
                                    · exact bl_var (g.v 4)
                                    · refine bo_of ?_
                                      · refine be_ev ?_
                                        · exact bv_neg
                              · refine bo_of ?_
                                · refine be_call g G_law_pick (by decide) (g.g 2) (He.glo_ok X G (c.fact 6)) F_law_pick.kp (df_law_pick_2 F_law_pick) ?_
                                  · refine ba_cons ?_ ?_
                                    · exact bv_var (g.v 0)
                                    · refine ba_cons ?_ ?_
                                      · exact bv_var (g.v 2)
                                      · exact ba_nil
                        · exact bp_none
                        · refine bp_some ?_
                          · refine bo_of_v ?_
                            · exact bv_int
                  · exact bss_nil
                · refine bss_cons ?_ ?_
                  · refine bs_if ?_ ?_ ?_
                    · refine bq_in g ?_ ?_
                      · exact bl_var (g.v 7)
                      · exact bo_var (g.v 4)
                    · refine bss_one ?_
                      · refine bs_set g 7 ?_
                        · refine be_ix g ?_ ?_
                          · refine bl_of ?_
                            · refine bv_of ?_
                              · refine be_lc g (own := [("_law_letter", 9)]) (sc := (defScope s_law_words)) rfl ?_ (by decide +kernel) (by decide) ?_ ?_ ?_
                                · exact bc_var (g.v 2)
                                · intro s H C cl fp
                                  refine blk_p g (sc := (defScope s_law_words)) (tb2 := [(9, "_law_letter"), (4, "_law_words_here")]) (gl2 := []) rfl (by decide +kernel) (by decide +kernel) fun g => ?_
                                  · exact g.gn 0
                                · intro s H C cl fp
                                  refine blk_t g (sc := (defScope s_law_words)) (tb2 := [(9, "_law_letter"), (4, "_law_words_here")]) (gl2 := []) rfl (by decide +kernel) (by decide +kernel) fun g => ?_
                                  · refine bts_one ?_
                                    · refine bq_notIn g ?_ ?_
                                      · exact bl_var (g.v 0)
                                      · exact bo_var (g.v 1)
                                · intro s H C cl fp
                                  refine blk_v g (sc := (defScope s_law_words)) (tb2 := [(9, "_law_letter"), (4, "_law_words_here")]) (gl2 := []) rfl (by decide +kernel) (by decide +kernel) fun g => ?_
                                  · exact bv_var (g.v 0)
                          · refine bo_of_v ?_
                            · exact bv_int
                    · exact bss_nil
                  · refine bss_one ?_
                    · refine bs_expr ?_
                      · refine be_app (g.v 4) ?_
                        · exact bv_var (g.v 7)
        · refine bss_one ?_
          · refine bs_ret ?_
            · exact be_mv (g.v 4)
theorem fn_law_kinds   : Fn P w K mg base d_law_kinds 1 ["_law_error"] (bodyF (r_law_kinds ) 4 1) := by
  obtain ⟨fd, F⟩ := c.def_ 5 (d := d_law_kinds) rfl
  refine ⟨fd, F, bfn_D F sc_law_kinds fun cdv A outer s H E hr hg => ?_⟩
  have g := gd_fn (cl := He.ga K) (w := w) (mg := mg) (base := base) (P := P) (K := K) (qual := d_law_kinds.qual) (outer := outer) (E := E) (H := H) (tb := [(0, "_law_error"), (1, "_law_found")]) (gl := ["isinstance", "NoStore", "NoPath", "NoFile", "NoFact", "NoStep", "NoName", "TooMany", "Ring", "NoOrder", "Clash", "NoFrame", "NoCase", "ManyEnds", "NoText"]) sc_law_kinds hr hg (by decide +kernel) (by decide +kernel)
  refine bss_cons ?_ ?_
  · refine bs_set g 1 ?_
    · refine be_lst ?_
      · refine ba_cons ?_ ?_
        · refine bv_of ?_
          · refine be_tup ?_
            · refine ba_cons ?_ ?_
              · exact bv_str
              · refine ba_cons ?_ ?_
                · refine bv_of ?_
                  · refine be_isx (g.g 0) (He.free_ok X G (c.fact 7)) (pe_glob (v := .ref _) (g.g 1) (He.glo_ok X G (c.fact 8)) rfl) (fun _ h => h) (XFa.kits_ok (xc.at_ 0)) ?_
                    · exact bo_var (g.v 0)
                · exact ba_nil
        · refine ba_cons ?_ ?_
          · refine bv_of ?_
            · refine be_tup ?_
              · refine ba_cons ?_ ?_
                · exact bv_str
                · refine ba_cons ?_ ?_
                  · refine bv_of ?_
                    · refine be_isx (g.g 0) (He.free_ok X G (c.fact 7)) (pe_glob (v := .ref _) (g.g 2) (He.glo_ok X G (c.fact 9)) rfl) (fun _ h => h) (XFa.kits_ok (xc.at_ 1)) ?_
                      · exact bo_var (g.v 0)
                  · exact ba_nil
          · exact ba_nil
  · refine bss_cons ?_ ?_
    · refine bs_set g 1 ?_
      · refine be_add ?_ ?_
        · exact bl_var (g.v 1)
        · refine bo_of ?_
          · refine be_lst ?_
            · refine ba_cons ?_ ?_
              · refine bv_of ?_
                · refine be_tup ?_
                  · refine ba_cons ?_ ?_
                    · exact bv_str
                    · refine ba_cons ?_ ?_
                      · refine bv_of ?_
                        · refine be_isx (g.g 0) (He.free_ok X G (c.fact 7)) (pe_glob (v := .ref _) (g.g 3) (He.glo_ok X G (c.fact 10)) rfl) (fun _ h => h) (XFa.kits_ok (xc.at_ 2)) ?_
                          · exact bo_var (g.v 0)
                      · exact ba_nil
              · refine ba_cons ?_ ?_
                · refine bv_of ?_
                  · refine be_tup ?_
                    · refine ba_cons ?_ ?_
                      · exact bv_str
                      · refine ba_cons ?_ ?_
                        · refine bv_of ?_
                          · refine be_isx (g.g 0) (He.free_ok X G (c.fact 7)) (pe_glob (v := .ref _) (g.g 4) (He.glo_ok X G (c.fact 11)) rfl) (fun _ h => h) (XFa.kits_ok (xc.at_ 3)) ?_
                            · exact bo_var (g.v 0)
                        · exact ba_nil
                · exact ba_nil
    · refine bss_cons ?_ ?_
      · refine bs_set g 1 ?_
        · refine be_add ?_ ?_
          · exact bl_var (g.v 1)
          · refine bo_of ?_
            · refine be_lst ?_
              · refine ba_cons ?_ ?_
                · refine bv_of ?_
                  · refine be_tup ?_
                    · refine ba_cons ?_ ?_
                      · exact bv_str
                      · refine ba_cons ?_ ?_
                        · refine bv_of ?_
                          · refine be_isx (g.g 0) (He.free_ok X G (c.fact 7)) (pe_glob (v := .ref _) (g.g 5) (He.glo_ok X G (c.fact 12)) rfl) (fun _ h => h) (XFa.kits_ok (xc.at_ 4)) ?_
                            · exact bo_var (g.v 0)
                        · exact ba_nil
                · refine ba_cons ?_ ?_
                  · refine bv_of ?_
                    · refine be_tup ?_
                      · refine ba_cons ?_ ?_
                        · exact bv_str
                        · refine ba_cons ?_ ?_
                          · refine bv_of ?_
                            · refine be_isx (g.g 0) (He.free_ok X G (c.fact 7)) (pe_glob (v := .ref _) (g.g 6) (He.glo_ok X G (c.fact 13)) rfl) (fun _ h => h) (XFa.kits_ok (xc.at_ 5)) ?_
                              · exact bo_var (g.v 0)
                          · exact ba_nil
                  · exact ba_nil
      · refine bss_cons ?_ ?_
        · refine bs_set g 1 ?_
          · refine be_add ?_ ?_
            · exact bl_var (g.v 1)
            · refine bo_of ?_
              · refine be_lst ?_
                · refine ba_cons ?_ ?_
                  · refine bv_of ?_
                    · refine be_tup ?_
                      · refine ba_cons ?_ ?_
                        · exact bv_str
                        · refine ba_cons ?_ ?_
                          · refine bv_of ?_
                            · refine be_isx (g.g 0) (He.free_ok X G (c.fact 7)) (pe_glob (v := .ref _) (g.g 7) (He.glo_ok X G (c.fact 14)) rfl) (fun _ h => h) (XFa.kits_ok (xc.at_ 6)) ?_
                              · exact bo_var (g.v 0)
                          · exact ba_nil
                  · refine ba_cons ?_ ?_
                    · refine bv_of ?_
                      · refine be_tup ?_
                        · refine ba_cons ?_ ?_
                          · exact bv_str
                          · refine ba_cons ?_ ?_
                            · refine bv_of ?_
                              · refine be_isx (g.g 0) (He.free_ok X G (c.fact 7)) (pe_glob (v := .ref _) (g.g 8) (He.glo_ok X G (c.fact 15)) rfl) (fun _ h => h) (XFa.kits_ok (xc.at_ 7)) ?_
                                · exact bo_var (g.v 0)
                            · exact ba_nil
                    · exact ba_nil
        · refine bss_cons ?_ ?_
          · refine bs_set g 1 ?_
            · refine be_add ?_ ?_
              · exact bl_var (g.v 1)
              · refine bo_of ?_
                · refine be_lst ?_
                  · refine ba_cons ?_ ?_
                    · refine bv_of ?_
                      · refine be_tup ?_
                        · refine ba_cons ?_ ?_
                          · exact bv_str
                          · refine ba_cons ?_ ?_
                            · refine bv_of ?_
                              · refine be_isx (g.g 0) (He.free_ok X G (c.fact 7)) (pe_glob (v := .ref _) (g.g 9) (He.glo_ok X G (c.fact 16)) rfl) (fun _ h => h) (XFa.kits_ok (xc.at_ 8)) ?_
                                · exact bo_var (g.v 0)
                            · exact ba_nil
                    · refine ba_cons ?_ ?_
                      · refine bv_of ?_
                        · refine be_tup ?_
                          · refine ba_cons ?_ ?_
                            · exact bv_str
                            · refine ba_cons ?_ ?_
                              · refine bv_of ?_
                                · refine be_isx (g.g 0) (He.free_ok X G (c.fact 7)) (pe_glob (v := .ref _) (g.g 10) (He.glo_ok X G (c.fact 17)) rfl) (fun _ h => h) (XFa.kits_ok (xc.at_ 9)) ?_
                                  · exact bo_var (g.v 0)
                              · exact ba_nil
                      · exact ba_nil
          · refine bss_cons ?_ ?_
            · refine bs_set g 1 ?_
              · refine be_add ?_ ?_
                · exact bl_var (g.v 1)
                · refine bo_of ?_
                  · refine be_lst ?_
                    · refine ba_cons ?_ ?_
                      · refine bv_of ?_
                        · refine be_tup ?_
                          · refine ba_cons ?_ ?_
                            · exact bv_str
                            · refine ba_cons ?_ ?_
                              · refine bv_of ?_
                                · refine be_isx (g.g 0) (He.free_ok X G (c.fact 7)) (pe_glob (v := .ref _) (g.g 11) (He.glo_ok X G (c.fact 18)) rfl) (fun _ h => h) (XFa.kits_ok (xc.at_ 10)) ?_
                                  · exact bo_var (g.v 0)
                              · exact ba_nil
                      · refine ba_cons ?_ ?_
                        · refine bv_of ?_
                          · refine be_tup ?_
                            · refine ba_cons ?_ ?_
                              · exact bv_str
                              · refine ba_cons ?_ ?_
                                · refine bv_of ?_
                                  · refine be_isx (g.g 0) (He.free_ok X G (c.fact 7)) (pe_glob (v := .ref _) (g.g 12) (He.glo_ok X G (c.fact 19)) rfl) (fun _ h => h) (XFa.kits_ok (xc.at_ 11)) ?_
                                    · exact bo_var (g.v 0)
                                · exact ba_nil
                        · exact ba_nil
            · refine bss_cons ?_ ?_
              · refine bs_set g 1 ?_
                · refine be_add ?_ ?_
                  · exact bl_var (g.v 1)
                  · refine bo_of ?_
                    · refine be_lst ?_
                      · refine ba_cons ?_ ?_
                        · refine bv_of ?_
                          · refine be_tup ?_
                            · refine ba_cons ?_ ?_
                              · exact bv_str
                              · refine ba_cons ?_ ?_
                                · refine bv_of ?_
                                  · refine be_isx (g.g 0) (He.free_ok X G (c.fact 7)) (pe_glob (v := .ref _) (g.g 13) (He.glo_ok X G (c.fact 20)) rfl) (fun _ h => h) (XFa.kits_ok (xc.at_ 12)) ?_
                                    · exact bo_var (g.v 0)
                                · exact ba_nil
                        · refine ba_cons ?_ ?_
                          · refine bv_of ?_
                            · refine be_tup ?_
                              · refine ba_cons ?_ ?_
                                · exact bv_str
                                · refine ba_cons ?_ ?_
                                  · refine bv_of ?_
                                    · refine be_isx (g.g 0) (He.free_ok X G (c.fact 7)) (pe_glob (v := .ref _) (g.g 14) (He.glo_ok X G (c.fact 21)) rfl) (fun _ h => h) (XFa.kits_ok (xc.at_ 13)) ?_
                                      · exact bo_var (g.v 0)
                                  · exact ba_nil
                          · exact ba_nil
              · refine bss_one ?_
                · refine bs_ret ?_
                  · refine be_lc g (own := [("_law_word", 2), ("_law_is_it", 3)]) (sc := (defScope s_law_kinds)) rfl ?_ (by decide +kernel) (by decide) ?_ ?_ ?_
                    · exact bc_var (g.v 1)
                    · intro s H C cl fp
                      refine blk_p g (sc := (defScope s_law_kinds)) (tb2 := [(2, "_law_word"), (3, "_law_is_it")]) (gl2 := []) rfl (by decide +kernel) (by decide +kernel) fun g => ?_
                      · exact pg_tp g.calm (pgs_cons (g.gn 0) (pgs_cons (g.gn 1) pgs_nil))
                    · intro s H C cl fp
                      refine blk_t g (sc := (defScope s_law_kinds)) (tb2 := [(2, "_law_word"), (3, "_law_is_it")]) (gl2 := []) rfl (by decide +kernel) (by decide +kernel) fun g => ?_
                      · refine bts_one ?_
                        · refine bq_of ?_
                          · exact bo_var (g.v 1)
                    · intro s H C cl fp
                      refine blk_v g (sc := (defScope s_law_kinds)) (tb2 := [(2, "_law_word"), (3, "_law_is_it")]) (gl2 := []) rfl (by decide +kernel) (by decide +kernel) fun g => ?_
                      · exact bv_var (g.v 0)
theorem fn_law_any {f_law_words : FnB} {f_law_take : FnB} {f_law_pick : FnB} (h_law_words : Fn P w K mg base d_law_words 4 ["_law_state", "_law_many"] f_law_words) (h_law_take : Fn P w K mg base d_law_take 2 ["_law_state", "_law_size"] f_law_take) (h_law_pick : Fn P w K mg base d_law_pick 3 ["_law_state", "_law_some"] f_law_pick) : Fn P w K mg base d_law_any 5 ["_law_state"] (bodyF (r_law_any f_law_words f_law_take f_law_pick) 4 1) := by
  obtain ⟨fd, F⟩ := c.def_ 6 (d := d_law_any) rfl
  obtain ⟨fd_law_words, F_law_words, G_law_words⟩ := h_law_words
  obtain ⟨fd_law_take, F_law_take, G_law_take⟩ := h_law_take
  obtain ⟨fd_law_pick, F_law_pick, G_law_pick⟩ := h_law_pick
  refine ⟨fd, F, bfn_D F sc_law_any fun cdv A outer s H E hr hg => ?_⟩
  have g := gd_fn (cl := He.ga K) (w := w) (mg := mg) (base := base) (P := P) (K := K) (qual := d_law_any.qual) (outer := outer) (E := E) (H := H) (tb := [(0, "_law_state"), (1, "_law_word"), (2, "_law_number"), (3, "_law_some")]) (gl := ["_law_words", "_law_take", "_law_pick"]) sc_law_any hr hg (by decide +kernel) (by decide +kernel)
  refine bss_cons ?_ ?_
  · refine bs_par2 g 1 2 rfl rfl (by decide) rfl rfl ?_ ?_ (hw := by rfl)
    · refine be_ix g ?_ ?_
      · refine bl_of ?_
        · refine bv_of ?_
          · refine be_call g G_law_words (by decide) (g.g 0) (He.glo_ok X G (c.fact 22)) F_law_words.kp (df_law_words_2 F_law_words) ?_
            · refine ba_cons ?_ ?_
              · exact bv_var (g.v 0)
              · refine ba_cons ?_ ?_
                · exact bv_int
                · exact ba_nil
      · refine bo_of_v ?_
        · exact bv_int
    · refine be_sub ?_ ?_
      · refine bl_of ?_
        · refine bv_of ?_
          · refine be_call g G_law_take (by decide) (g.g 1) (He.glo_ok X G (c.fact 3)) F_law_take.kp (df_law_take_2 F_law_take) ?_
            · refine ba_cons ?_ ?_
              · exact bv_var (g.v 0)
              · refine ba_cons ?_ ?_
                · exact bv_int
                · exact ba_nil
      · refine bo_of_v ?_
        · exact bv_int
  · refine bss_cons ?_ ?_
    · refine bs_set g 3 ?_
      · refine be_lst ?_
        · refine ba_cons ?_ ?_
          · exact bv_var (g.v 1)
          · refine ba_cons ?_ ?_
            · refine bv_of ?_
              · refine be_tup ?_
                · refine ba_cons ?_ ?_
                  · exact bv_var (g.v 1)
                  · exact ba_nil
            · refine ba_cons ?_ ?_
              · exact bv_var (g.v 2)
              · refine ba_cons ?_ ?_
                · refine bv_of ?_
                  · refine be_add ?_ ?_
                    · refine bl_of ?_
                      · refine bv_of ?_
                        · refine be_pow ?_ ?_
                          · refine bl_of ?_
                            · exact bv_int
                          · refine bo_of_v ?_
                            · exact bv_int
                    · exact bo_var (g.v 2)
                · refine ba_cons ?_ ?_
                  · exact bv_non
                  · refine ba_cons ?_ ?_
                    · exact bv_bl
                    · refine ba_cons ?_ ?_
                      · exact bv_str
                      · refine ba_cons ?_ ?_
                        · refine bv_of ?_
                          · refine be_lst ?_
                            · refine ba_cons ?_ ?_
                              · exact bv_var (g.v 1)
                              · refine ba_cons ?_ ?_
                                · exact bv_var (g.v 1)
                                · exact ba_nil
                        · refine ba_cons ?_ ?_
                          · refine bv_of ?_
                            · exact be_dic0
                          · refine ba_cons ?_ ?_
                            · refine bv_of ?_
                              · refine be_tup ?_
                                · exact ba_nil
                            · refine ba_cons ?_ ?_
                              · refine bv_of ?_
                                · refine be_dk ?_ (fun z => nomatch z) rfl
                                  · refine dkt_cons ?_ ?_ ?_
                                    · exact bv_var (g.v 1)
                                    · refine bv_of ?_
                                      · refine be_lst ?_
                                        · refine ba_cons ?_ ?_
                                          · exact bv_var (g.v 2)
                                          · exact ba_nil
                                    · exact trivial
                              · exact ba_nil
    · refine bss_one ?_
      · refine bs_ret ?_
        · refine be_call g G_law_pick (by decide) (g.g 2) (He.glo_ok X G (c.fact 6)) F_law_pick.kp (df_law_pick_2 F_law_pick) ?_
          · refine ba_cons ?_ ?_
            · exact bv_var (g.v 0)
            · refine ba_cons ?_ ?_
              · refine bv_of ?_
                · refine be_add ?_ ?_
                  · exact bl_var (g.v 3)
                  · refine bo_of ?_
                    · refine be_lst ?_
                      · refine ba_cons ?_ ?_
                        · refine bv_of ?_
                          · refine be_tup ?_
                            · refine ba_cons ?_ ?_
                              · refine bv_of ?_
                                · refine be_tup ?_
                                  · refine ba_cons ?_ ?_
                                    · exact bv_str
                                    · refine ba_cons ?_ ?_
                                      · refine bv_of ?_
                                        · refine be_tup ?_
                                          · refine ba_cons ?_ ?_
                                            · exact bv_var (g.v 1)
                                            · exact ba_nil
                                      · exact ba_nil
                              · refine ba_cons ?_ ?_
                                · refine bv_of ?_
                                  · refine be_tup ?_
                                    · exact ba_nil
                                · exact ba_nil
                        · refine ba_cons ?_ ?_
                          · refine bv_of ?_
                            · refine be_tup ?_
                              · refine ba_cons ?_ ?_
                                · exact bv_str
                                · refine ba_cons ?_ ?_
                                  · refine bv_of ?_
                                    · refine be_tup ?_
                                      · refine ba_cons ?_ ?_
                                        · exact bv_var (g.v 1)
                                        · exact ba_nil
                                  · refine ba_cons ?_ ?_
                                    · exact bv_var (g.v 1)
                                    · exact ba_nil
                          · refine ba_cons ?_ ?_
                            · refine bv_of ?_
                              · refine be_lst ?_
                                · refine ba_cons ?_ ?_
                                  · refine bv_of ?_
                                    · refine be_lst ?_
                                      · refine ba_cons ?_ ?_
                                        · refine bv_of ?_
                                          · refine be_lst ?_
                                            · refine ba_cons ?_ ?_
                                              · exact bv_var (g.v 1)
                                              · exact ba_nil
                                        · exact ba_nil
                                  · exact ba_nil
                            · exact ba_nil
              · exact ba_nil
theorem fn_law_right {f_law_kinds : FnB} (h_law_kinds : Fn P w K mg base d_law_kinds 1 ["_law_error"] f_law_kinds) : Fn P w K mg base d_law_right 3 ["_law_thing", "_law_said"] (bodyF (r_law_right f_law_kinds) 10 2) := by
  obtain ⟨fd, F⟩ := c.def_ 7 (d := d_law_right) rfl
  obtain ⟨fd_law_kinds, F_law_kinds, G_law_kinds⟩ := h_law_kinds
  obtain ⟨fd_NoPath, F_NoPath, G_NoPath⟩ := fx_NoPath (P := P) (w := w) X G c tp xc
  obtain ⟨fd_NoFile, F_NoFile, G_NoFile⟩ := fx_NoFile (P := P) (w := w) X G c tp xc
  obtain ⟨fd_NoFact, F_NoFact, G_NoFact⟩ := fx_NoFact (P := P) (w := w) X G c tp xc
  obtain ⟨fd_NoStep, F_NoStep, G_NoStep⟩ := fx_NoStep (P := P) (w := w) X G c tp xc
  obtain ⟨fd_NoName, F_NoName, G_NoName⟩ := fx_NoName (P := P) (w := w) X G c tp xc
  obtain ⟨fd_TooMany, F_TooMany, G_TooMany⟩ := fx_TooMany (P := P) (w := w) X G c tp xc
  obtain ⟨fd_Ring, F_Ring, G_Ring⟩ := fx_Ring (P := P) (w := w) X G c tp xc
  obtain ⟨fd_Clash, F_Clash, G_Clash⟩ := fx_Clash (P := P) (w := w) X G c tp xc
  obtain ⟨fd_NoText, F_NoText, G_NoText⟩ := fx_NoText (P := P) (w := w) X G c tp xc
  refine ⟨fd, F, bfn_D F sc_law_right fun cdv A outer s H E hr hg => ?_⟩
  have g := gd_fn (cl := He.ga K) (w := w) (mg := mg) (base := base) (P := P) (K := K) (qual := d_law_right.qual) (outer := outer) (E := E) (H := H) (tb := [(0, "_law_thing"), (1, "_law_said"), (2, "_law_plain"), (3, "_law_words_here"), (4, "_law_first"), (5, "_law_then"), (6, "_law_error"), (7, "_law_due"), (8, "_law_held"), (9, "_law_told")]) (gl := ["NoStore", "NoOrder", "NoFrame", "NoCase", "ManyEnds", "NoPath", "NoFile", "NoFact", "NoStep", "NoName", "TooMany", "Ring", "Clash", "NoText", "list", "zip", "_law_kinds", "isinstance", "StateError", "ValueError", "repr"]) sc_law_right hr hg (by decide +kernel) (by decide +kernel)
  refine bss_cons ?_ ?_
  · refine bs_set g 2 ?_
    · refine be_lst ?_
      · refine ba_cons ?_ ?_
        · refine bv_xval0 PySem.F.excBase_ValueError (He.exc_ok (c.fact 23)).1 (He.exc_ok (c.fact 23)).2.1 (g.g 0) (He.glo_ok X G (c.fact 8)) ?_
          · exact bv_var (g.v 1)
        · refine ba_cons ?_ ?_
          · refine bv_xval0 PySem.F.excBase_ValueError (He.exc_ok (c.fact 24)).1 (He.exc_ok (c.fact 24)).2.1 (g.g 1) (He.glo_ok X G (c.fact 16)) ?_
            · exact bv_var (g.v 1)
          · refine ba_cons ?_ ?_
            · refine bv_xval0 PySem.F.excBase_ValueError (He.exc_ok (c.fact 25)).1 (He.exc_ok (c.fact 25)).2.1 (g.g 2) (He.glo_ok X G (c.fact 18)) ?_
              · exact bv_var (g.v 1)
            · refine ba_cons ?_ ?_
              · refine bv_xval0 PySem.F.excBase_ValueError (He.exc_ok (c.fact 26)).1 (He.exc_ok (c.fact 26)).2.1 (g.g 3) (He.glo_ok X G (c.fact 19)) ?_
                · exact bv_var (g.v 1)
              · refine ba_cons ?_ ?_
                · refine bv_xval0 PySem.F.excBase_ValueError (He.exc_ok (c.fact 27)).1 (He.exc_ok (c.fact 27)).2.1 (g.g 4) (He.glo_ok X G (c.fact 20)) ?_
                  · exact bv_var (g.v 1)
                · exact ba_nil
  · refine bss_cons ?_ ?_
    · refine bs_set g 3 ?_
      · refine be_lst ?_
        · refine ba_cons ?_ ?_
          · exact bv_str
          · refine ba_cons ?_ ?_
            · exact bv_str
            · refine ba_cons ?_ ?_
              · exact bv_str
              · refine ba_cons ?_ ?_
                · exact bv_str
                · refine ba_cons ?_ ?_
                  · exact bv_str
                  · refine ba_cons ?_ ?_
                    · exact bv_str
                    · refine ba_cons ?_ ?_
                      · exact bv_str
                      · refine ba_cons ?_ ?_
                        · exact bv_str
                        · refine ba_cons ?_ ?_
                          · exact bv_str
                          · refine ba_cons ?_ ?_
                            · exact bv_str
                            · refine ba_cons ?_ ?_
                              · exact bv_str
                              · refine ba_cons ?_ ?_
                                · exact bv_str
                                · exact ba_nil
    · refine bss_cons ?_ ?_
      · refine bs_set g 3 ?_
        · refine be_add ?_ ?_
          · exact bl_var (g.v 3)
          · refine bo_of ?_
            · refine be_lst ?_
              · refine ba_cons ?_ ?_
                · exact bv_str
                · refine ba_cons ?_ ?_
                  · exact bv_str
                  · exact ba_nil
      · refine bss_cons ?_ ?_
        · refine bs_set g 4 ?_
          · refine be_lst ?_
            · refine ba_cons ?_ ?_
              · refine bv_xval g (by decide) (XFa.cls_ok (xc.at_ 14) (xc.at_ 15)) G_NoPath (bx_NoPath F_NoPath) rfl (g.g 5) (He.glo_ok X G (c.fact 9)) ?_
                · exact bv_var (g.v 0)
              · refine ba_cons ?_ ?_
                · refine bv_xval g (by decide) (XFa.cls_ok (xc.at_ 16) (xc.at_ 17)) G_NoFile (bx_NoFile F_NoFile) rfl (g.g 6) (He.glo_ok X G (c.fact 10)) ?_
                  · exact bv_var (g.v 0)
                · refine ba_cons ?_ ?_
                  · refine bv_xval g (by decide) (XFa.cls_ok (xc.at_ 18) (xc.at_ 19)) G_NoFact (bx_NoFact F_NoFact) rfl (g.g 7) (He.glo_ok X G (c.fact 11)) ?_
                    · exact bv_var (g.v 0)
                  · refine ba_cons ?_ ?_
                    · refine bv_xval g (by decide) (XFa.cls_ok (xc.at_ 20) (xc.at_ 21)) G_NoStep (bx_NoStep F_NoStep) rfl (g.g 8) (He.glo_ok X G (c.fact 12)) ?_
                      · exact bv_var (g.v 0)
                    · refine ba_cons ?_ ?_
                      · refine bv_xval g (by decide) (XFa.cls_ok (xc.at_ 22) (xc.at_ 23)) G_NoName (bx_NoName F_NoName) rfl (g.g 9) (He.glo_ok X G (c.fact 13)) ?_
                        · exact bv_var (g.v 0)
                      · refine ba_cons ?_ ?_
                        · refine bv_xval g (by decide) (XFa.cls_ok (xc.at_ 24) (xc.at_ 25)) G_TooMany (bx_TooMany F_TooMany) rfl (g.g 10) (He.glo_ok X G (c.fact 14)) ?_
                          · exact bv_var (g.v 0)
                        · exact ba_nil
        · refine bss_cons ?_ ?_
          · refine bs_set g 4 ?_
            · refine be_add ?_ ?_
              · exact bl_var (g.v 4)
              · refine bo_of ?_
                · refine be_lst ?_
                  · refine ba_cons ?_ ?_
                    · refine bv_xval g (by decide) (XFa.cls_ok (xc.at_ 26) (xc.at_ 27)) G_Ring (bx_Ring F_Ring) rfl (g.g 11) (He.glo_ok X G (c.fact 15)) ?_
                      · exact bv_var (g.v 0)
                    · refine ba_cons ?_ ?_
                      · refine bv_xval g (by decide) (XFa.cls_ok (xc.at_ 28) (xc.at_ 29)) G_Clash (bx_Clash F_Clash) rfl (g.g 12) (He.glo_ok X G (c.fact 17)) ?_
                        · exact bv_var (g.v 0)
                      · refine ba_cons ?_ ?_
                        · refine bv_xval g (by decide) (XFa.cls_ok (xc.at_ 30) (xc.at_ 31)) G_NoText (bx_NoText F_NoText) rfl (g.g 13) (He.glo_ok X G (c.fact 21)) ?_
                          · exact bv_var (g.v 0)
                        · exact ba_nil
          · refine bss_cons ?_ ?_
            · refine bs_set g 5 ?_
              · refine be_lst ?_
                · refine ba_cons ?_ ?_
                  · refine bv_xvalK g (by decide) (XFa.cls_ok (xc.at_ 14) (xc.at_ 15)) G_NoPath (bk_NoPath F_NoPath) (g.g 5) (He.glo_ok X G (c.fact 9)) ?_
                    · exact bv_var (g.v 0)
                  · refine ba_cons ?_ ?_
                    · refine bv_xvalK g (by decide) (XFa.cls_ok (xc.at_ 16) (xc.at_ 17)) G_NoFile (bk_NoFile F_NoFile) (g.g 6) (He.glo_ok X G (c.fact 10)) ?_
                      · exact bv_var (g.v 0)
                    · refine ba_cons ?_ ?_
                      · refine bv_xvalK g (by decide) (XFa.cls_ok (xc.at_ 18) (xc.at_ 19)) G_NoFact (bk_NoFact F_NoFact) (g.g 7) (He.glo_ok X G (c.fact 11)) ?_
                        · exact bv_var (g.v 0)
                      · refine ba_cons ?_ ?_
                        · refine bv_xvalK g (by decide) (XFa.cls_ok (xc.at_ 20) (xc.at_ 21)) G_NoStep (bk_NoStep F_NoStep) (g.g 8) (He.glo_ok X G (c.fact 12)) ?_
                          · exact bv_var (g.v 0)
                        · refine ba_cons ?_ ?_
                          · refine bv_xvalK g (by decide) (XFa.cls_ok (xc.at_ 22) (xc.at_ 23)) G_NoName (bk_NoName F_NoName) (g.g 9) (He.glo_ok X G (c.fact 13)) ?_
                            · exact bv_var (g.v 0)
                          · exact ba_nil
            · refine bss_cons ?_ ?_
              · refine bs_set g 5 ?_
                · refine be_add ?_ ?_
                  · exact bl_var (g.v 5)
                  · refine bo_of ?_
                    · refine be_lst ?_
                      · refine ba_cons ?_ ?_
                        · refine bv_xvalK g (by decide) (XFa.cls_ok (xc.at_ 24) (xc.at_ 25)) G_TooMany (bk_TooMany F_TooMany) (g.g 10) (He.glo_ok X G (c.fact 14)) ?_
                          · exact bv_var (g.v 0)
                        · refine ba_cons ?_ ?_
                          · refine bv_xvalK g (by decide) (XFa.cls_ok (xc.at_ 26) (xc.at_ 27)) G_Ring (bk_Ring F_Ring) (g.g 11) (He.glo_ok X G (c.fact 15)) ?_
                            · exact bv_var (g.v 0)
                          · refine ba_cons ?_ ?_
                            · refine bv_xvalK g (by decide) (XFa.cls_ok (xc.at_ 28) (xc.at_ 29)) G_Clash (bk_Clash F_Clash) (g.g 12) (He.glo_ok X G (c.fact 17)) ?_
                              · exact bv_var (g.v 0)
                            · refine ba_cons ?_ ?_
                              · refine bv_xvalK g (by decide) (XFa.cls_ok (xc.at_ 30) (xc.at_ 31)) G_NoText (bk_NoText F_NoText) (g.g 13) (He.glo_ok X G (c.fact 21)) ?_
                                · exact bv_var (g.v 0)
                              · exact ba_nil
              · refine bss_cons ?_ ?_
                · refine bs_for g ?_ ?_ ?_
                  · refine bi_val ?_
                    · refine bv_of ?_
                      · refine be_add ?_ ?_
                        · refine bl_of ?_
                          · refine bv_of ?_
                            · refine be_listZip g (g.g 14) (He.free_ok X G (c.fact 0)) (g.g 15) (He.free_ok X G (c.fact 28)) ?_
                              · refine ba_cons ?_ ?_
                                · refine bv_of ?_
                                  · refine be_add ?_ ?_
                                    · exact bl_var (g.v 2)
                                    · exact bo_var (g.v 4)
                                · refine ba_cons ?_ ?_
                                  · exact bv_var (g.v 3)
                                  · exact ba_nil
                        · refine bo_of ?_
                          · refine be_listZip g (g.g 14) (He.free_ok X G (c.fact 0)) (g.g 15) (He.free_ok X G (c.fact 28)) ?_
                            · refine ba_cons ?_ ?_
                              · exact bv_var (g.v 5)
                              · refine ba_cons ?_ ?_
                                · refine bv_of ?_
                                  · refine be_slc ?_ ?_ ?_
                                    · exact bl_var (g.v 3)
                                    · refine bp_some ?_
                                      · refine bo_of_v ?_
                                        · exact bv_int
                                    · exact bp_none
                                · exact ba_nil
                  · exact pg_tp g.calm (pgs_cons (g.gn 6) (pgs_cons (g.gn 7) pgs_nil))
                  · refine bss_one ?_
                    · refine bs_if ?_ ?_ ?_
                      · refine bq_w ?_
                        · refine bw_or ?_ ?_
                          · refine bq_neA g ?_ ?_
                            · refine bl_of ?_
                              · refine bv_of ?_
                                · refine be_call g G_law_kinds (by decide) (g.g 16) (He.glo_ok X G (c.fact 29)) F_law_kinds.kp (df_law_kinds_1 F_law_kinds) ?_
                                  · refine ba_cons ?_ ?_
                                    · exact bv_var (g.v 6)
                                    · exact ba_nil
                            · refine bo_of ?_
                              · refine be_lst ?_
                                · refine ba_cons ?_ ?_
                                  · exact bv_var (g.v 7)
                                  · exact ba_nil
                          · refine bw_or ?_ ?_
                            · refine bq_not ?_
                              · refine bq_of ?_
                                · refine bo_of ?_
                                  · refine be_isx (g.g 17) (He.free_ok X G (c.fact 7)) (pe_glob (v := .ref _) (g.g 18) (He.glo_ok X G (c.fact 30)) rfl) (fun _ h => h) (XFa.kits_ok (xc.at_ 32)) ?_
                                    · exact bo_var (g.v 6)
                            · refine bw_or1 ?_
                              · refine bq_not ?_
                                · refine bq_of ?_
                                  · refine bo_of ?_
                                    · refine be_isx (g.g 17) (He.free_ok X G (c.fact 7)) (bt_ty (n := "ValueError") (g.g 19) (He.free_ok X G (c.fact 31)) (by decide +kernel)) (fun _ h => h) (XFa.kitTs_ok (xc.at_ 33)) ?_
                                      · exact bo_var (g.v 6)
                      · refine bss_one ?_
                        · refine bs_ret ?_
                          · refine be_ev ?_
                            · exact bv_bl
                      · exact bss_nil
                · refine bss_cons ?_ ?_
                  · refine bs_for g ?_ ?_ ?_
                    · refine bi_val ?_
                      · refine bv_of ?_
                        · refine be_lst ?_
                          · refine ba_cons ?_ ?_
                            · exact bv_var (g.v 4)
                            · refine ba_cons ?_ ?_
                              · exact bv_var (g.v 5)
                              · exact ba_nil
                    · exact g.gn 8
                    · refine bss_cons ?_ ?_
                      · refine bs_set g 9 ?_
                        · refine be_lst ?_
                          · refine ba_cons ?_ ?_
                            · refine bv_xf (XFa.flds_ok (xc.at_ 34)) ?_
                              · refine bv_of ?_
                                · refine be_ix g ?_ ?_
                                  · exact bl_var (g.v 8)
                                  · refine bo_of_v ?_
                                    · exact bv_int
                            · refine ba_cons ?_ ?_
                              · refine bv_xf (XFa.flds_ok (xc.at_ 34)) ?_
                                · refine bv_of ?_
                                  · refine be_ix g ?_ ?_
                                    · exact bl_var (g.v 8)
                                    · refine bo_of_v ?_
                                      · exact bv_int
                              · refine ba_cons ?_ ?_
                                · refine bv_xf (XFa.flds_ok (xc.at_ 35)) ?_
                                  · refine bv_of ?_
                                    · refine be_ix g ?_ ?_
                                      · exact bl_var (g.v 8)
                                      · refine bo_of_v ?_
                                        · exact bv_int
                                · refine ba_cons ?_ ?_
                                  · refine bv_xf (XFa.flds_ok (xc.at_ 36)) ?_
                                    · refine bv_of ?_
                                      · refine be_ix g ?_ ?_
                                        · exact bl_var (g.v 8)
                                        · refine bo_of_v ?_
                                          · exact bv_int
                                  · refine ba_cons ?_ ?_
                                    · refine bv_xf (XFa.flds_ok (xc.at_ 37)) ?_
                                      · refine bv_of ?_
                                        · refine be_ix g ?_ ?_
                                          · exact bl_var (g.v 8)
                                          · refine bo_of_v ?_
                                            · exact bv_int
                                    · refine ba_cons ?_ ?_
                                      · refine bv_xf (XFa.flds_ok (xc.at_ 38)) ?_
                                        · refine bv_of ?_
                                          · refine be_ix g ?_ ?_
                                            · exact bl_var (g.v 8)
                                            · refine bo_of_v ?_
                                              · exact bv_int
                                      · refine ba_cons ?_ ?_
                                        · refine bv_xf (XFa.flds_ok (xc.at_ 39)) ?_
                                          · refine bv_of ?_
                                            · refine be_ix g ?_ ?_
                                              · exact bl_var (g.v 8)
                                              · refine bo_of_v ?_
                                                · exact bv_int
                                        · exact ba_nil
                      · refine bss_one ?_
                        · refine bs_if ?_ ?_ ?_
                          · refine bq_neA g ?_ ?_
                            · refine bl_of ?_
                              · refine bv_of ?_
                                · refine be_repr g (g.g 20) (He.free_ok X G (c.fact 32)) ?_
                                  · refine bo_of ?_
                                    · refine be_add ?_ ?_
                                      · exact bl_var (g.v 9)
                                      · refine bo_of ?_
                                        · refine be_lst ?_
                                          · refine ba_cons ?_ ?_
                                            · refine bv_xf (XFa.flds_ok (xc.at_ 37)) ?_
                                              · refine bv_of ?_
                                                · refine be_ix g ?_ ?_
                                                  · exact bl_var (g.v 8)
                                                  · refine bo_of_v ?_
                                                    · exact bv_int
                                            · refine ba_cons ?_ ?_
                                              · refine bv_xf (XFa.flds_ok (xc.at_ 40)) ?_
                                                · refine bv_of ?_
                                                  · refine be_ix g ?_ ?_
                                                    · exact bl_var (g.v 8)
                                                    · refine bo_of_v ?_
                                                      · exact bv_int
                                              · exact ba_nil
                            · refine bo_of ?_
                              · refine be_repr g (g.g 20) (He.free_ok X G (c.fact 32)) ?_
                                · refine bo_of ?_
                                  · refine be_repL ?_ ?_
                                    · refine bl_of ?_
                                      · refine bv_of ?_
                                        · refine be_lst ?_
                                          · refine ba_cons ?_ ?_
                                            · exact bv_var (g.v 0)
                                            · exact ba_nil
                                    · refine bo_of_v ?_
                                      · exact bv_int
                          · refine bss_one ?_
                            · refine bs_ret ?_
                              · refine be_ev ?_
                                · exact bv_bl
                          · exact bss_nil
                  · refine bss_one ?_
                    · refine bs_ret ?_
                      · refine be_ev ?_
                        · exact bv_bl
theorem fn_law {f_law_begun : FnB} {f_law_right : FnB} {f_law_any : FnB} {f_law_words : FnB} {f_law_kinds : FnB} (h_law_begun : Fn P w K mg base d_law_begun 1 ["_law_script"] f_law_begun) (h_law_right : Fn P w K mg base d_law_right 3 ["_law_thing", "_law_said"] f_law_right) (h_law_any : Fn P w K mg base d_law_any 5 ["_law_state"] f_law_any) (h_law_words : Fn P w K mg base d_law_words 4 ["_law_state", "_law_many"] f_law_words) (h_law_kinds : Fn P w K mg base d_law_kinds 1 ["_law_error"] f_law_kinds) : Fn P w K mg base d_law 6 ["_law_script"] (bodyF (r_law f_law_begun f_law_right f_law_any f_law_words f_law_kinds) 3 1) := by
  obtain ⟨fd, F⟩ := c.def_ 8 (d := d_law) rfl
  obtain ⟨fd_law_begun, F_law_begun, G_law_begun⟩ := h_law_begun
  obtain ⟨fd_law_right, F_law_right, G_law_right⟩ := h_law_right
  obtain ⟨fd_law_any, F_law_any, G_law_any⟩ := h_law_any
  obtain ⟨fd_law_words, F_law_words, G_law_words⟩ := h_law_words
  obtain ⟨fd_law_kinds, F_law_kinds, G_law_kinds⟩ := h_law_kinds
  refine ⟨fd, F, bfn_D F sc_law fun cdv A outer s H E hr hg => ?_⟩
  have g := gd_fn (cl := He.ga K) (w := w) (mg := mg) (base := base) (P := P) (K := K) (qual := d_law.qual) (outer := outer) (E := E) (H := H) (tb := [(0, "_law_script"), (1, "_law_state"), (2, "_law_turn")]) (gl := ["_law_begun", "len", "min", "max", "range", "_law_right", "_law_any", "_law_words", "_law_kinds", "StateError", "isinstance", "ValueError"]) sc_law hr hg (by decide +kernel) (by decide +kernel)
  refine bss_cons ?_ ?_
  · refine bs_set g 1 ?_
    · refine be_ev ?_
      · refine bv_asM ?_
        · refine be_call g G_law_begun (by decide) (g.g 0) (He.glo_ok X G (c.fact 33)) F_law_begun.kp (df_law_begun_1 F_law_begun) ?_
          · refine ba_cons ?_ ?_
            · exact bv_var (g.v 0)
            · exact ba_nil
  · refine bss_cons ?_ ?_
    · refine bs_for g ?_ ?_ ?_
      · refine bi_rng1 (g.g 4) (He.free_ok X G (c.fact 5)) ?_
        · refine ba_cons ?_ ?_
          · refine bv_of ?_
            · refine be_max g (g.g 3) (He.free_ok X G (c.fact 35)) ?_
              · refine ba_cons ?_ ?_
                · exact bv_int
                · refine ba_cons ?_ ?_
                  · refine bv_of ?_
                    · refine be_min g (g.g 2) (He.free_ok X G (c.fact 34)) ?_
                      · refine ba_cons ?_ ?_
                        · exact bv_int
                        · refine ba_cons ?_ ?_
                          · refine bv_of ?_
                            · refine be_len (g.g 1) (He.free_ok X G (c.fact 4)) ?_
                              · exact bo_var (g.v 0)
                          · exact ba_nil
                  · exact ba_nil
          · exact ba_nil
      · exact g.gn 2
      · refine bss_one ?_
        · refine bs_if ?_ ?_ ?_
          · refine bq_not ?_
            · refine bq_of ?_
              · refine bo_of ?_
                · refine be_call g G_law_right (by decide) (g.g 5) (He.glo_ok X G (c.fact 36)) F_law_right.kp (df_law_right_2 F_law_right) ?_
                  · refine ba_cons ?_ ?_
                    · refine bv_of ?_
                      · refine be_call g G_law_any (by decide) (g.g 6) (He.glo_ok X G (c.fact 37)) F_law_any.kp (df_law_any_1 F_law_any) ?_
                        · refine ba_cons ?_ ?_
                          · exact bv_var (g.v 1)
                          · exact ba_nil
                    · refine ba_cons ?_ ?_
                      · refine bv_of ?_
                        · refine be_ix g ?_ ?_
                          · refine bl_of ?_
                            · refine bv_of ?_
                              · refine be_call g G_law_words (by decide) (g.g 7) (He.glo_ok X G (c.fact 22)) F_law_words.kp (df_law_words_2 F_law_words) ?_
                                · refine ba_cons ?_ ?_
                                  · exact bv_var (g.v 1)
                                  · refine ba_cons ?_ ?_
                                    · exact bv_int
                                    · exact ba_nil
                          · refine bo_of_v ?_
                            · exact bv_int
                      · exact ba_nil
          · refine bss_one ?_
            · refine bs_ret ?_
              · refine be_ev ?_
                · exact bv_bl
          · exact bss_nil
    · refine bss_one ?_
      · refine bs_ret ?_
        · refine be_and ?_ ?_
          · refine bv_of ?_
            · refine be_eqA g ?_ ?_
              · refine bl_of ?_
                · refine bv_of ?_
                  · refine be_call g G_law_kinds (by decide) (g.g 8) (He.glo_ok X G (c.fact 29)) F_law_kinds.kp (df_law_kinds_1 F_law_kinds) ?_
                    · refine ba_cons ?_ ?_
                      · refine bv_xval0 PySem.F.excBase_ValueError (He.exc_ok (c.fact 38)).1 (He.exc_ok (c.fact 38)).2.1 (g.g 9) (He.glo_ok X G (c.fact 30)) ?_
                        · exact bv_str
                      · exact ba_nil
              · refine bo_of ?_
                · refine be_lst ?_
                  · exact ba_nil
          · refine be_one ?_
            · refine be_isx (g.g 10) (He.free_ok X G (c.fact 7)) (bt_ty (n := "ValueError") (g.g 11) (He.free_ok X G (c.fact 31)) (by decide +kernel)) (fun _ h => h) (XFa.kitTs_ok (xc.at_ 33)) ?_
              · refine bo_of_v ?_
                · refine bv_xval0 PySem.F.excBase_ValueError (He.exc_ok (c.fact 38)).1 (He.exc_ok (c.fact 38)).2.1 (g.g 9) (He.glo_ok X G (c.fact 30)) ?_
                  · exact bv_str
end
end K17
namespace K17
open PySem PySem.Spec PyProof.Rows L2 B
local macro_rules | `(tactic| walk_at "b") => `(tactic| simp (config := { failIfUnchanged := false }) only [bNext, bIf, bSet, bRet, bRetN, bDrop, bPutD, bPutM, bFld, bFldSet, bFor, bPar, parRun, setS, bUnp, bC, bVar, bPk, bLs, bMv, bLv, bLp, bDe, bV, bOf, bEv, bT, bNot, bAnd, bOr, bAndV, bOrV, bNotV, bIfE, bBin, bUn, bSlc, bPn, bPs, bTup, bLst, bCons, bNil,
  bCall, bCallK, bCallL, blNil, blCons, getA, bMeth, bMake, mkF, bIsN, bChn, bDic0, bLc, cVal, cVar, bDc, bYes, bIt, bRng1, bRng2, bVals, bItems, bApp, bClr, bPopM, bPopA, bToM, bAsM, bDs, dsRun, bJoin, dIsB, dIxA, dIx, dLen, dInt1, dTuple, dList, dListA, dInt, dAdd, dSl,
  En.at, Hd.get, res_fr, res_ow, sd_fr, sd_un, sd_owl, sd_owd, sd_owi, sd_rdl, sd_rdd, sd_rdi, od_l, od_d, od_i, oc_l, oc_d, oc_i, it_l, it_t, it_d, it_s, inst_o, En.put, En.wipe, Tgt.set, setD, unlk,
  List.getElem?_cons_zero, List.getElem?_cons_succ, List.set_cons_zero, List.set_cons_succ, List.map_cons, List.map_nil, List.length_cons, List.length_nil, List.foldr_cons, List.foldr_nil, Option.bind_some, Option.bind_none, List.lookup_cons, beq_self_eq_true, if_true, if_false, ite_true, ite_false, true_and, and_true, List.nil_append, List.cons_append, List.append_nil, Bool.false_eq_true, Nat.zero_le,
  stM_a, stD_fit, stD_great, stD_cells, stD_rest, stD_turn, stD_putR, stD_putT, stD_lt, dEqA_int, Option.some.injEq, exists_eq_left', D.int.injEq, D.str.injEq, D.lst.injEq, D.tup.injEq, D.dic.injEq, Ob.lst.injEq, Ob.dic.injEq, Sl.ow.injEq, Sl.fr.injEq, exists_eq_left, List.cons.injEq, Bool.false_bne, Bool.true_bne, Bool.false_xor, Bool.true_xor, Bool.xor_false, Bool.bne_false, decide_eq_true_eq, Bool.not_eq_true', decide_eq_false_iff_not])

/-! ### draws -/
def spMixed : FnB := fun ds M Q _ => ∃ (a g : Nat) (cs : List Int) (n : Int), ds = [.ptr a] ∧ St a g cs n M ∧ n < 2 ^ 40 ∧ ∀ v M', 0 ≤ v → St a g cs (n + 1) M' → Q (.fr (.int v)) M'
theorem law_mixed (ds : List D) (M : Mst) (Q : Sl → Mst → Prop) (E : Xd → Mst → Prop) (h : spMixed ds M Q E) : bodyF r_law_mixed 6 1 ds M Q E := by
  obtain ⟨a, g, cs, n, rfl, ⟨hag, gs, r, t, rfl, hr, ht, htn, hgs⟩, hn, hQ⟩ := h
  refine ⟨rfl, ?_⟩
  have hp : ∀ p ∈ [2147483629, 2147483587, 2147483579, 2147483563, 2147483549, (2147483543 : Int)], 2 ^ 30 < p ∧ p < 2 ^ 31 := by decide
  show bSeq _ _ _ _ ⟨[.fr (.ptr a), .un, .un, .un, .un, .un], _⟩
  refine seq_go ?_
  unfold r_law_mixed_0
  walk_at "b"
  refine seq_go ?_
  unfold r_law_mixed_1
  walk_at "b"
  rw [stM_putA hag]
  refine seq_go ?_
  unfold r_law_mixed_2
  walk_at "b"
  refine seq_cut (fun E' => ∃ (v : Int) (s3 s4 s5 : Sl), 0 ≤ v ∧ E' = ⟨[.fr (.ptr a), .fr (.int (t + 1)), .fr (.int v), s3, s4, s5], stM a g cs gs r (t + 1)⟩) (fun K hK => ?_) ?_
  · unfold r_law_mixed_3
    walk_at "b"
    refine ⟨by rw [sizeL]; decide, ?_⟩
    refine for_inv _ (fun _ E' => ∃ (v : Int) (s3 s4 s5 : Sl), 0 ≤ v ∧ E' = ⟨[.fr (.ptr a), .fr (.int (t + 1)), .fr (.int v), s3, s4, s5], stM a g cs gs r (t + 1)⟩) ⟨0, _, _, _, Int.le_refl 0, rfl⟩ ?_ hK
    rintro pre d post E' K2 hd ⟨v, s3, s4, s5, hv, rfl⟩ hK2
    obtain ⟨p, rfl, hp1, hp2⟩ : ∃ p : Int, d = .int p ∧ 2 ^ 30 < p ∧ p < 2 ^ 31 := by
      have : d ∈ pre ++ d :: post := by simp
      rw [← hd] at this
      have := List.mem_map.mp (show d ∈ [2147483629, 2147483587, 2147483579, 2147483563, 2147483549, (2147483543 : Int)].map D.int from this)
      obtain ⟨p, h1, h2⟩ := this
      exact ⟨p, h2.symm, hp p h1⟩
    walk_at "b"
    refine seq_go ?_
    unfold r_law_mixed_4
    walk_at "b"
    refine ⟨.inl (by decide), by unfold CDiv; omega, ?_⟩
    have hb0 : (130363 * (t + 1) + p / 13).natAbs < 2 ^ 62 := by omega
    generalize 130363 * (t + 1) + p / 13 = b0 at hb0
    refine seq_cut (fun E' => ∃ (b : Int) (s5 : Sl), b.natAbs < 2 ^ 62 ∧ E' = ⟨[.fr (.ptr a), .fr (.int (t + 1)), .fr (.int v), .fr (.int p), .fr (.int b), s5], stM a g cs gs r (t + 1)⟩) (fun K3 hK3 => ?_) ?_
    · unfold r_law_mixed_5
      walk_at "b"
      refine for_inv _ (fun _ E' => ∃ (b : Int) (s5 : Sl), b.natAbs < 2 ^ 62 ∧ E' = ⟨[.fr (.ptr a), .fr (.int (t + 1)), .fr (.int v), .fr (.int p), .fr (.int b), s5], stM a g cs gs r (t + 1)⟩) ⟨b0, _, hb0, rfl⟩ ?_ hK3
      rintro pre d post E' K4 hd ⟨b, s5, hb, rfl⟩ hK4
      obtain ⟨c, rfl⟩ : ∃ c : Int, d = .int c := by
        have : d ∈ pre ++ d :: post := by simp
        rw [← hd] at this
        obtain ⟨c, _, h2⟩ := List.mem_map.mp this
        exact ⟨c, h2.symm⟩
      unfold r_law_mixed_6
      walk_at "b"
      refine ⟨.inr (by decide), by omega, hK4 _ ⟨_, _, ?_, rfl⟩⟩
      have h1 := Int.emod_nonneg (b * 48271 + c) (show p ≠ 0 by omega)
      have h2 := Int.emod_lt_of_pos (b * 48271 + c) (show 0 < p by omega)
      omega
    · rintro E' ⟨b, s5, hb, rfl⟩
      unfold r_law_mixed_7
      walk_at "b"
      refine ⟨.inr (by decide), ⟨by decide, by decide, by omega⟩, by omega, hK2 _ ⟨_, _, _, _, ?_, rfl⟩⟩
      have h1 := Int.emod_nonneg (b ^ (5 : Int).toNat) (show p ≠ 0 by omega)
      have h2 : 0 ≤ v * 2147483647 := Int.mul_nonneg hv (by decide)
      omega
  · rintro E' ⟨v, s3, s4, s5, hv, rfl⟩
    unfold r_law_mixed_8
    walk_at "b"
    exact hQ v _ hv ⟨hag, gs, r, t + 1, rfl, hr, by omega, by omega, hgs⟩
def spTake : FnB := fun ds M Q _ => ∃ (a g : Nat) (cs : List Int) (n m : Int), ds = [.ptr a, .int m] ∧ St a g cs n M ∧ n < 2 ^ 40 ∧ 0 < m ∧ m < 2 ^ 20 ∧ ∀ v M', 0 ≤ v → v < m → St a g cs (n + 1) M' → Q (.fr (.int v)) M'
theorem law_take (ds : List D) (M : Mst) (Q : Sl → Mst → Prop) (E : Xd → Mst → Prop) (h : spTake ds M Q E) : bodyF (r_law_take spMixed) 3 2 ds M Q E := by
  obtain ⟨a, g, cs, n, m, rfl, ⟨hag, gs, r, t, rfl, hr, ht, htn, hgs⟩, hn, hm, hm2, hQ⟩ := h
  refine ⟨rfl, ?_⟩
  show bSeq _ _ _ _ ⟨[.fr (.ptr a), .fr (.int m), .un], _⟩
  refine seq_cut (fun E' => ∃ M', St a g cs (n + 1) M' ∧ E' = ⟨[.fr (.ptr a), .fr (.int m), .un], M'⟩) (fun K hK => ?_) ?_
  · unfold r_law_take_0
    walk_at "b"
    by_cases h0 : r = 0
    · subst h0
      walk_at "b"
      rw [stM_g hag]
      walk_at "b"
      have og : okd false 2 (.lst (gs.map D.int)) = true := by simp [okd]
      have o0 : okd false 2 (.lst []) = true := rfl
      cases gs with
      | cons x gs =>
        rw [dEqA_diff og o0 (by decide) (by simp)]
        walk_at "b"
        unfold r_law_take_1
        walk_at "b"
        rw [stM_g hag]
        walk_at "b"
        have hx := hgs x List.mem_cons_self
        refine ⟨⟨_, rfl⟩, _, 0, 0, .int x, rfl, by decide, by decide, rfl, ?_, rfl, ?_⟩
        · simp [seqIndex?]
        have e : putM g (Ob.lst ((D.int x :: gs.map .int).eraseIdx 0)) (stM a g cs (x :: gs) 0 t) = stM a g cs gs 0 t := stM_putG hag
        rw [e]
        refine ⟨_, stM_a, stD_fit _, stD_lt, ?_⟩
        rw [stD_putR, stM_putA hag]
        exact hK _ ⟨_, ⟨hag, gs, x, t, rfl, hx, ht, by omega, fun y hy => hgs y (List.mem_cons_of_mem _ hy)⟩, rfl⟩
      | nil =>
        rw [dEqA_same og o0 (by decide) rfl]
        walk_at "b"
        unfold r_law_take_2
        walk_at "b"
        unfold r_law_take_3
        walk_at "b"
        refine ⟨a, g, cs, n, rfl, ⟨hag, [], 0, t, rfl, hr, ht, htn, hgs⟩, hn, fun v M' hv hM => ?_⟩
        obtain ⟨_, gs', r', t', rfl, hr', ht', htn', hgs'⟩ := hM
        walk_at "b"
        rw [stM_putA hag]
        exact hK _ ⟨_, ⟨hag, gs', v, t', rfl, hv, ht', htn', hgs'⟩, rfl⟩
    · walk_at "b"
      rw [if_neg h0]
      unfold r_law_take_2
      walk_at "b"
      rw [if_neg h0]
      exact hK _ ⟨_, ⟨hag, gs, r, t, rfl, hr, ht, by omega, hgs⟩, rfl⟩
  · rintro E' ⟨M', ⟨_, gs', r', t', rfl, hr', ht', htn', hgs'⟩, rfl⟩
    refine seq_go ?_
    unfold r_law_take_4
    walk_at "b"
    refine ⟨hm, seq_go ?_⟩
    unfold r_law_take_5
    walk_at "b"
    refine ⟨⟨hm, by omega⟩, ?_⟩
    rw [stM_putA hag]
    unfold r_law_take_6
    walk_at "b"
    exact hQ _ _ (Int.emod_nonneg _ (by omega)) (Int.emod_lt_of_pos _ hm) ⟨hag, gs', r' / m, t', rfl, Int.ediv_nonneg hr' (by omega), ht', htn', hgs'⟩
def spPick : FnB := fun ds M Q _ => ∃ (a g : Nat) (cs : List Int) (n : Int) (s : D) (xs : List D), ds = [.ptr a, s] ∧ (s = .lst xs ∨ ∃ z : Str, s = .str z ∧ z.length ≤ 100 ∧ s.items = some xs) ∧ St a g cs n M ∧ n < 2 ^ 40 ∧ xs ≠ [] ∧ xs.length < 2 ^ 20 ∧ ∀ x M', x ∈ xs → St a g cs (n + 1) M' → Q (.fr x) M'
theorem at_of {α : Type} {xs : List α} {v : Int} (h0 : 0 ≤ v) (h1 : v < xs.length) : ∃ x, atI xs v = some x ∧ x ∈ xs := by
  have hi : v.toNat < xs.length := by omega
  refine ⟨xs[v.toNat], ?_, List.getElem_mem hi⟩
  unfold atI ixN
  rw [if_pos h0, if_pos h1]
  simp [hi]
theorem law_pick (ds : List D) (M : Mst) (Q : Sl → Mst → Prop) (E : Xd → Mst → Prop) (h : spPick ds M Q E) : bodyF (r_law_pick spTake) 2 2 ds M Q E := by
  obtain ⟨a, g, cs, n, s, xs, rfl, hs, hS, hn, hx, hl, hQ⟩ := h
  refine ⟨rfl, ?_⟩
  show r_law_pick _ _ _ ⟨[.fr (.ptr a), .fr s], _⟩
  unfold r_law_pick r_law_pick_0
  have hp : 0 < xs.length := List.length_pos_iff.mpr hx
  rcases hs with rfl | ⟨z, rfl, hz, hi⟩
  · walk_at "b"
    refine ⟨a, g, cs, n, xs.length, rfl, hS, hn, by omega, by omega, fun v M' h0 h1 hM => ?_⟩
    walk_at "b"
    obtain ⟨x, h2, h3⟩ := at_of h0 h1
    exact ⟨x, h2, hQ _ _ h3 hM⟩
  · have hi : some (z.cps.toList.map fun c => D.str ⟨#[c]⟩) = some xs := hi
    injection hi with hi
    have hlz : xs.length = z.length := by rw [← hi]; simp [Str.length]
    have hz' : z.length ≤ sizeLine := by rw [sizeL]; omega
    walk_at "b"
    refine ⟨hz', a, g, cs, n, z.length, rfl, hS, hn, by omega, by omega, fun v M' h0 h1 hM => ?_⟩
    walk_at "b"
    obtain ⟨c, h2, h3⟩ := at_of (xs := z.cps.toList) h0 (by rw [← len_cod]; exact h1)
    refine ⟨hz', c, h2, hQ _ _ ?_ hM⟩
    rw [← hi]
    exact List.mem_map_of_mem h3
/-! ### words -/
def wds : List Str := ["a", "b", "ab", "if", "unless", "file", "folder", "row", "no", "need", "absent", "zzzzzzzz"]
theorem wds_ok : ∀ w ∈ wds, okN w = true := by decide +kernel
def spWords : FnB := fun ds M Q _ => ∃ (a g : Nat) (cs : List Int) (n k : Int), ds = [.ptr a, .int k] ∧ St a g cs n M ∧ 0 ≤ k ∧ k ≤ 20 ∧ n + 400 < 2 ^ 40 ∧
  ∀ (xs : List Str) M', xs.length = k.toNat → xs.Nodup → (∀ x ∈ xs, okN x = true) → St a g cs (n + 400) M' → Q (.ow (.lst (xs.map .str))) M'
theorem law_words (ds : List D) (M : Mst) (Q : Sl → Mst → Prop) (E : Xd → Mst → Prop) (h : spWords ds M Q E) : bodyF (r_law_words spTake spPick) 10 2 ds M Q E := by
  obtain ⟨a, g, cs, n, k, rfl, hS, hk0, hk, hn, hQ⟩ := h
  refine ⟨rfl, ?_⟩
  show bSeq _ _ _ _ ⟨[.fr (.ptr a), .fr (.int k), .un, .un, .un, .un, .un, .un, .un, .un], _⟩
  have hw : wds ≠ [] := by decide
  have hwl : wds.length = 12 := rfl
  have hwok := wds_ok
  refine seq_go ?_
  unfold r_law_words_0
  walk_at "b"
  refine seq_go ?_
  unfold r_law_words_1
  walk_at "b"
  refine ⟨by decide, ?_⟩
  refine seq_go ?_
  unfold r_law_words_2
  walk_at "b"
  refine seq_cut (fun E' => ∃ (xs : List Str) (M' : Mst) (s3 s5 s6 s7 s8 s9 : Sl), xs.length = k.toNat ∧ xs.Nodup ∧ (∀ x ∈ xs, okN x = true) ∧ St a g cs (n + 20 * k) M' ∧
    E' = ⟨[.fr (.ptr a), .fr (.int k), .fr (.str "abcdefghijklmnopqrstuvwxyz"), s3, .ow (.lst (xs.map .str)), s5, s6, s7, s8, s9], M'⟩) (fun K hK => ?_) ?_
  · unfold r_law_words_3
    walk_at "b"
    refine ⟨by omega, by omega, ?_⟩
    refine for_inv _ (fun pre E' => ∃ (xs : List Str) (M' : Mst) (s3 s5 s6 s7 s8 s9 : Sl), xs.length = pre.length ∧ xs.Nodup ∧ (∀ x ∈ xs, okN x = true) ∧ St a g cs (n + 20 * pre.length) M' ∧ (s3 = .fr (.lst (wds.map .str)) ∨ s3 = .ow (.lst (wds.map .str))) ∧
      E' = ⟨[.fr (.ptr a), .fr (.int k), .fr (.str "abcdefghijklmnopqrstuvwxyz"), s3, .ow (.lst (xs.map .str)), s5, s6, s7, s8, s9], M'⟩) ⟨[], M, _, _, _, _, _, _, rfl, List.nodup_nil, by simp, by simpa using hS, .inr rfl, rfl⟩ ?_ ?_
    · rintro pre d post E' K2 hd ⟨xs, M', s3, s5, s6, s7, s8, s9, hl, hnd, hok, hS', hs3, rfl⟩ hK2
      have hpl : pre.length < k.toNat := by
        have := congrArg List.length hd
        simp [rngD] at this
        omega
      walk_at "b"
      refine seq_cut (fun E' => ∃ (v : Int) (w : Str) (M' : Mst), 0 ≤ v ∧ v < 4 ∧ w ∈ wds ∧ St a g cs (n + 20 * pre.length + 2) M' ∧
        E' = ⟨[.fr (.ptr a), .fr (.int k), .fr (.str "abcdefghijklmnopqrstuvwxyz"), .fr (.lst (wds.map .str)), .ow (.lst (xs.map .str)), .fr d, .fr (.int v), .fr (.str w), s8, s9], M'⟩) (fun K3 hK3 => ?_) ?_
      · unfold r_law_words_4
        rcases hs3 with rfl | rfl
        all_goals
          walk_at "b"
          refine ⟨a, g, cs, _, 4, rfl, hS', by omega, by decide, by decide, fun v M1 hv0 hv4 hM1 => ?_⟩
          walk_at "b"
          refine ⟨a, g, cs, _, _, _, rfl, .inl rfl, hM1, by omega, by simpa using hw, by simp [hwl], fun x M2 hx hM2 => ?_⟩
          obtain ⟨w, hw2, rfl⟩ := List.mem_map.mp hx
          walk_at "b"
          refine ⟨by decide, ?_⟩
          exact hK3 _ ⟨v, w, M2, hv0, hv4, hw2, hM2.mono (by omega), rfl⟩
      rintro E' ⟨v, w, M2, hv0, hv4, hw2, hM2, rfl⟩
      refine seq_cut (fun E' => ∃ (t : Str) (M' : Mst) (s8 : Sl), okN t = true ∧ St a g cs (n + 20 * pre.length + 12) M' ∧
        E' = ⟨[.fr (.ptr a), .fr (.int k), .fr (.str "abcdefghijklmnopqrstuvwxyz"), .fr (.lst (wds.map .str)), .ow (.lst (xs.map .str)), .fr d, .fr (.int v), .fr (.str t), s8, s9], M'⟩) (fun K3 hK3 => ?_) ?_
      · unfold r_law_words_5
        walk_at "b"
        by_cases hv : v = 0
        · rw [if_pos hv]
          unfold r_law_words_6
          walk_at "b"
          refine ⟨⟨_, rfl⟩, a, g, cs, _, 8, rfl, hM2, by omega, by decide, by decide, fun b M3 hb0 hb8 hM3 => ?_⟩
          walk_at "b"
          refine ⟨by omega, by omega, ?_⟩
          refine lc_inv _ (fun pre2 acc E' => ∃ (ys : List Str) (M' : Mst), acc = ys.map .str ∧ ys.length = pre2.length ∧ (∀ y ∈ ys, y ∈ lts) ∧ St a g cs (n + 20 * pre.length + 3 + pre2.length) M' ∧
            E' = ⟨[.fr (.ptr a), .fr (.int k), .fr (.str "abcdefghijklmnopqrstuvwxyz"), .fr (.lst (wds.map .str)), .ow (.lst (xs.map .str)), .fr d, .fr (.int v), .fr (.str w), .un, s9], M'⟩) ⟨[], M3, rfl, rfl, by simp, hM3.mono (by simp; omega), rfl⟩ (by rw [sizeL]; simp [rngD]; omega) ?_ ?_
          · rintro pre2 e post2 acc E2 G hd2 ⟨ys, M4, rfl, hyl, hy, hM4, rfl⟩ hG
            have hp2 : pre2.length < 8 := by
              have := congrArg List.length hd2
              simp [rngD] at this
              omega
            unfold lcTurn
            walk_at "b"
            refine ⟨a, g, cs, _, _, _, rfl, .inr ⟨_, rfl, by decide +kernel, lts_items⟩, hM4, by omega, by simp [lts], by simp [lts], fun x M5 hx5 hM5 => ?_⟩
            obtain ⟨y, hy2, rfl⟩ := List.mem_map.mp hx5
            walk_at "b"
            refine hG (some _) _ ⟨ys ++ [y], M5, by simp, by simp [hyl], ?_, hM5.mono (by simp; omega), rfl⟩
            intro z hz
            rcases List.mem_append.mp hz with h | h
            · exact hy z h
            · have : z = y := by simpa using h
              rw [this]; exact hy2
          · rintro acc E2 ⟨ys, M4, rfl, hyl, hy, hM4, rfl⟩
            have hlen : ys.length = (1 + b).toNat := by rw [hyl]; simp [rngD]
            have hl2 : (rngD 0 (1 + b).toNat).length = (1 + b).toNat := by simp [rngD]
            rw [hl2] at hM4
            refine ⟨"", ys, rfl, .inl rfl, ?_, ?_⟩
            · rw [lts_sum hy]
              have : (Str.ofString "").length = 0 := by decide +kernel
              rw [this]; omega
            · walk_at "b"
              exact hK3 _ ⟨_, M4, _, okN_join (by omega) (by omega) hy, hM4.mono (by omega), rfl⟩
        · rw [if_neg hv]
          exact hK3 _ ⟨w, M2, _, hwok w hw2, hM2.mono (by omega), rfl⟩
      · rintro E' ⟨t, M3, s8, ht, hM3, rfl⟩
        refine seq_cut (fun E' => ∃ (t : Str) (M' : Mst), okN t = true ∧ St a g cs (n + 20 * pre.length + 13) M' ∧
          E' = ⟨[.fr (.ptr a), .fr (.int k), .fr (.str "abcdefghijklmnopqrstuvwxyz"), .fr (.lst (wds.map .str)), .ow (.lst (xs.map .str)), .fr d, .fr (.int v), .fr (.str t), s8, s9], M'⟩) (fun K3 hK3 => ?_) ?_
        · unfold r_law_words_7
          walk_at "b"
          by_cases hv : v = 1
          · rw [if_pos hv]
            have oxs : okd false 2 (.lst (xs.map D.str)) = true := okd_strs fun y hy => okN_strOk (hok y hy)
            have o0 : okd false 2 (.lst []) = true := rfl
            by_cases hxs : xs = []
            · rw [dEqA_same oxs o0 (by decide) (by rw [hxs]; rfl)]
              walk_at "b"
              exact hK3 _ ⟨t, M3, ht, hM3.mono (by omega), rfl⟩
            · rw [dEqA_diff oxs o0 (by decide) (by simpa using hxs)]
              walk_at "b"
              unfold r_law_words_8
              walk_at "b"
              obtain ⟨xs', x', exs⟩ : ∃ xs' x', xs = xs' ++ [x'] := ⟨xs.dropLast, xs.getLast hxs, (List.dropLast_concat_getLast hxs).symm⟩
              refine ⟨.str x', by rw [exs]; exact atI_last, a, g, cs, _, _, _, rfl, .inr ⟨_, rfl, by decide +kernel, lts_items⟩, hM3, by omega, by simp [lts], by simp [lts], fun y M4 hy4 hM4 => ?_⟩
              obtain ⟨y, hy2, rfl⟩ := List.mem_map.mp hy4
              walk_at "b"
              have hx' := hok x' (by rw [exs]; simp)
              obtain ⟨i, hi, rfl⟩ := mem_lts hy2
              have hl' := okN_len hx'
              have hl2 := okN_len (okN_ltr hi).1
              have hl3 : (x' ++ ltr i).length = x'.length + (ltr i).length := by simp [len_cod, cod_app]
              refine ⟨by rw [sizeL]; omega, by rw [sizeL]; omega, ?_⟩
              exact hK3 _ ⟨_, M4, okN_cut hx' (okN_ltr hi).1, hM4.mono (by omega), rfl⟩
          · rw [if_neg hv]
            exact hK3 _ ⟨t, M3, ht, hM3.mono (by omega), rfl⟩
        · rintro E' ⟨t, M3, ht, hM3, rfl⟩
          refine seq_cut (fun E' => ∃ (t : Str) (M' : Mst) (s9 : Sl), okN t = true ∧ t ∉ xs ∧ St a g cs (n + 20 * pre.length + 13) M' ∧
            E' = ⟨[.fr (.ptr a), .fr (.int k), .fr (.str "abcdefghijklmnopqrstuvwxyz"), .fr (.lst (wds.map .str)), .ow (.lst (xs.map .str)), .fr d, .fr (.int v), .fr (.str t), s8, s9], M'⟩) (fun K3 hK3 => ?_) ?_
          · unfold r_law_words_9
            walk_at "b"
            have hso : ∀ y ∈ xs, PyData.strOk y = true := fun y hy => okN_strOk (hok y hy)
            have h8 : ∀ K4 : En → Prop, (∀ E', (∃ (y : Str), okN y = true ∧ y ∉ xs ∧ E' = ⟨[.fr (.ptr a), .fr (.int k), .fr (.str "abcdefghijklmnopqrstuvwxyz"), .fr (.lst (wds.map .str)), .ow (.lst (xs.map .str)), .fr d, .fr (.int v), .fr (.str y), s8, .un], M3⟩) → K4 E') →
                ∀ {X : QX} {rt bk ct}, r_law_words_10 spTake spPick { nx := K4, rt := rt, bk := bk, ct := ct } X ⟨[.fr (.ptr a), .fr (.int k), .fr (.str "abcdefghijklmnopqrstuvwxyz"), .fr (.lst (wds.map .str)), .ow (.lst (xs.map .str)), .fr d, .fr (.int v), .fr (.str t), s8, s9], M3⟩ := by
              intro K4 hK4 X rt bk ct
              unfold r_law_words_10
              walk_at "b"
              refine ⟨_, lts_items, ?_⟩
              refine lc_pure (selS fun y => decide (y ∉ xs)) (by rw [sizeL]; simp [lts]) ?_ ?_
              · intro e he G hG
                obtain ⟨y, hy, rfl⟩ := List.mem_map.mp he
                obtain ⟨i, hi, rfl⟩ := mem_lts hy
                unfold lcTurn
                walk_at "b"
                rw [dIn_lst (okd_strs hso) (okd_str (f := false) (n := 0) (okN_strOk (okN_ltr hi).1)) (by decide), memB_str hso (okN_strOk (okN_ltr hi).1)]
                walk_at "b"
                have hG' : G (if decide (ltr i ∉ xs) = true then some (.str (ltr i)) else none) ⟨[.fr (.ptr a), .fr (.int k), .fr (.str "abcdefghijklmnopqrstuvwxyz"), .fr (.lst (wds.map .str)), .ow (.lst (xs.map .str)), .fr d, .fr (.int v), .fr (.str t), s8, .un], M3⟩ := hG
                by_cases hm : ltr i ∈ xs
                · rw [if_neg (by simpa using hm)] at hG'
                  simpa [hm] using hG'
                · rw [if_pos (by simpa using hm)] at hG'
                  simpa [hm] using hG'
              · rw [filterMap_str]
                obtain ⟨y, r, e1, e2, e3⟩ := free_lts (xs := xs) (by omega)
                rw [e1]
                obtain ⟨i, hi, rfl⟩ := mem_lts e2
                walk_at "b"
                exact ⟨_, atI_zero, hK4 _ ⟨_, (okN_ltr hi).1, e3, rfl⟩⟩
            rw [dIn_lst (okd_strs hso) (okd_str (f := false) (n := 0) (okN_strOk ht)) (by decide), memB_str hso (okN_strOk ht)]
            walk_at "b"
            by_cases hm : t ∈ xs
            · rw [if_pos hm]
              exact h8 _ fun E' ⟨y, h1, h3, h4⟩ => hK3 E' ⟨y, M3, _, h1, h3, hM3, h4⟩
            · rw [if_neg hm]
              exact hK3 _ ⟨t, M3, _, ht, hm, hM3, rfl⟩
          · rintro E' ⟨t, M4, s9, ht, hx, hM4, rfl⟩
            unfold r_law_words_11
            walk_at "b"
            refine ⟨⟨_, rfl⟩, ?_, ?_⟩
            · rw [sizeL]; simp; omega
            · refine hK2 _ ⟨xs ++ [t], M4, _, _, _, _, _, _, by simp [hl], ?_, ?_, hM4.mono (by simp; omega), .inl rfl, by rw [List.map_append]; rfl⟩
              · rw [List.nodup_append]
                exact ⟨hnd, by simp, fun y hy z hz e => by
                  have : z = t := by simpa using hz
                  exact hx (by rw [← this, ← e]; exact hy)⟩
              · intro y hy
                rcases List.mem_append.mp hy with h | h
                · exact hok y h
                · have : y = t := by simpa using h
                  rw [this]; exact ht
    · rintro E' ⟨xs, M', s3, s5, s6, s7, s8, s9, h1, h2, h3, h4, _, rfl⟩
      have hl : (rngD 0 k.toNat).length = k.toNat := by simp [rngD]
      rw [hl] at h1 h4
      exact hK _ ⟨xs, M', _, _, _, _, _, _, h1, h2, h3, h4.mono (by omega), rfl⟩
  · rintro E' ⟨xs, M', s3, s5, s6, s7, s8, s9, h1, h2, h3, h4, rfl⟩
    unfold r_law_words_12
    walk_at "b"
    exact hQ xs _ h1 h2 h3 (h4.mono (by omega))
end K17
namespace K17
open PySem PySem.Spec PyProof.Rows L2 B
local macro_rules | `(tactic| walk_at "x") => `(tactic| simp (config := { failIfUnchanged := false }) only [bNext, bIf, bSet, bRet, bRetN, bDrop, bPutD, bPutM, bFld, bFldSet, bFor, bPar, parRun, setS, bUnp, bC, bVar, bPk, bLs, bMv, bLv, bLp, bDe, bV, bOf, bEv, bT, bNot, bAnd, bOr, bAndV, bOrV, bNotV, bIfE, bBin, bUn, bSlc, bPn, bPs, bTup, bLst, bCons, bNil,
  bCall, bCallK, bCallL, blNil, blCons, getA, bMeth, bMake, mkF, bIsN, bChn, bDic0, bLc, cVal, cVar, bDc, bYes, bIt, bRng1, bRng2, bVals, bItems, bApp, bClr, bPopM, bPopA, bToM, bAsM, bDs, dsRun, bJoin,
  En.at, Hd.get, res_fr, res_ow, sd_fr, sd_un, sd_owl, sd_owd, sd_owi, sd_rdl, sd_rdd, sd_rdi, od_l, od_d, od_i, oc_l, oc_d, oc_i, it_l, it_t, it_q, it_P, it_d, it_s, inst_o, En.put, En.wipe, Tgt.set, setD, unlk,
  List.getElem?_cons_zero, List.getElem?_cons_succ, List.set_cons_zero, List.set_cons_succ, List.map_cons, List.map_nil, List.length_cons, List.length_nil, List.length_map, List.foldr_cons, List.foldr_nil, Option.bind_some, Option.bind_none, Option.map_some, Option.map_none, List.lookup_cons, beq_self_eq_true, if_true, if_false, ite_true, ite_false, true_and, and_true, List.nil_append, List.cons_append, List.append_nil, Bool.false_eq_true, Bool.true_eq_false, Nat.zero_le,
  stM_a, stD_fit, stD_great, stD_cells, stD_rest, stD_turn, stD_putR, stD_putT, stD_lt, dEqA_int, Option.some.injEq, exists_eq_left', exists_eq_left, D.int.injEq, D.str.injEq, D.lst.injEq, D.tup.injEq, D.dic.injEq, Ob.lst.injEq, Ob.dic.injEq, Sl.ow.injEq, Sl.fr.injEq, List.cons.injEq, Bool.false_bne, Bool.true_bne, Bool.false_xor, Bool.true_xor, Bool.xor_false, Bool.bne_false, decide_eq_true_eq, Bool.not_eq_true', decide_eq_false_iff_not,
  dLen_q, dLen_l, dLen_t, dLen_d, dLen_r, dLen_s, dLen_P, dSl_Pl, dSl_Pt, dSl_l, dSl_t, dSl_s, dAdd_P1, dAdd_P2, dAdd_i, dAdd_s, dAdd_l, dAdd_t, dIxA_P, dIxA_l, dIxA_t, dIxA_s, dIn_P, dIn_s, dInt1_i, dTuple_l, dTuple_t, dListA_l, dListA_t, dListA_d, dListA_r, dIsB_b, dInt_i, isN_n, isN_t, isN_l, mkP_len, fitP,
  sizeL, Nat.reduceAdd, Nat.reduceLeDiff, at_0, at3_1, at3_2, at2_1, List.mem_cons, List.not_mem_nil, or_false, forall_eq_or_imp, forall_eq, Nat.reduceLT, Int.reduceEq, Int.reduceLT, Int.reduceLE, Bool.not_true, Bool.not_false, isi_str, isi_tup, isi_tupP, isi_dic, isi_bl, isi_lt1, isi_lt2, bIsX, bXv, bXv0, bXf, bListZip, bMx, bDk, dkRun, dRepL])
/-! ### kinds of errors -/
def kwT : List (Str × Str) := [("store", "NoStore"), ("path", "NoPath"), ("file", "NoFile"), ("fact", "NoFact"), ("step", "NoStep"), ("name", "NoName"), ("many", "TooMany"), ("ring", "Ring"), ("order", "NoOrder"), ("clash", "Clash"), ("frame", "NoFrame"), ("case", "NoCase"), ("ends", "ManyEnds"), ("text", "NoText")]
def xnames : List Str := ["StateError", "NoStore", "NoPath", "NoFile", "NoFact", "NoStep", "NoName", "TooMany", "Ring", "NoOrder", "Clash", "NoFrame", "NoCase", "ManyEnds", "NoText"]
def kw (c : Str) : List Str := kwT.filterMap fun p => if p.2 = c then some p.1 else none
theorem cat_NoStore {c : Str} (h : c ∈ xnames) : catOf cl_NoStore c = some (decide (("NoStore" : Str) = c)) := by
  revert h; revert c
  decide +kernel
theorem cat_NoPath {c : Str} (h : c ∈ xnames) : catOf cl_NoPath c = some (decide (("NoPath" : Str) = c)) := by
  revert h; revert c
  decide +kernel
theorem cat_NoFile {c : Str} (h : c ∈ xnames) : catOf cl_NoFile c = some (decide (("NoFile" : Str) = c)) := by
  revert h; revert c
  decide +kernel
theorem cat_NoFact {c : Str} (h : c ∈ xnames) : catOf cl_NoFact c = some (decide (("NoFact" : Str) = c)) := by
  revert h; revert c
  decide +kernel
theorem cat_NoStep {c : Str} (h : c ∈ xnames) : catOf cl_NoStep c = some (decide (("NoStep" : Str) = c)) := by
  revert h; revert c
  decide +kernel
theorem cat_NoName {c : Str} (h : c ∈ xnames) : catOf cl_NoName c = some (decide (("NoName" : Str) = c)) := by
  revert h; revert c
  decide +kernel
theorem cat_TooMany {c : Str} (h : c ∈ xnames) : catOf cl_TooMany c = some (decide (("TooMany" : Str) = c)) := by
  revert h; revert c
  decide +kernel
theorem cat_Ring {c : Str} (h : c ∈ xnames) : catOf cl_Ring c = some (decide (("Ring" : Str) = c)) := by
  revert h; revert c
  decide +kernel
theorem cat_NoOrder {c : Str} (h : c ∈ xnames) : catOf cl_NoOrder c = some (decide (("NoOrder" : Str) = c)) := by
  revert h; revert c
  decide +kernel
theorem cat_Clash {c : Str} (h : c ∈ xnames) : catOf cl_Clash c = some (decide (("Clash" : Str) = c)) := by
  revert h; revert c
  decide +kernel
theorem cat_NoFrame {c : Str} (h : c ∈ xnames) : catOf cl_NoFrame c = some (decide (("NoFrame" : Str) = c)) := by
  revert h; revert c
  decide +kernel
theorem cat_NoCase {c : Str} (h : c ∈ xnames) : catOf cl_NoCase c = some (decide (("NoCase" : Str) = c)) := by
  revert h; revert c
  decide +kernel
theorem cat_ManyEnds {c : Str} (h : c ∈ xnames) : catOf cl_ManyEnds c = some (decide (("ManyEnds" : Str) = c)) := by
  revert h; revert c
  decide +kernel
theorem cat_NoText {c : Str} (h : c ∈ xnames) : catOf cl_NoText c = some (decide (("NoText" : Str) = c)) := by
  revert h; revert c
  decide +kernel
theorem cat_StateError {c : Str} (h : c ∈ xnames) : catOf cl_StateError c = some true := by
  revert h; revert c
  decide +kernel
theorem cat_ValueError {c : Str} (h : c ∈ xnames) : catOf cl_ValueError c = some true := by
  revert h; revert c
  decide +kernel
def spKinds : FnB := fun ds M Q _ => ∃ (c : Str) (fs : List (Str × D)), ds = [.exc c fs] ∧ c ∈ xnames ∧ Q (.ow (.lst ((kw c).map .str))) M
theorem law_kinds (ds : List D) (M : Mst) (Q : Sl → Mst → Prop) (E : Xd → Mst → Prop) (h : spKinds ds M Q E) : bodyF r_law_kinds 4 1 ds M Q E := by
  obtain ⟨c, fs, rfl, h, hQ⟩ := h
  refine ⟨rfl, ?_⟩
  show bSeq _ _ _ _ ⟨[.fr (.exc c fs), .un, .un, .un], _⟩
  refine seq_go ?_
  unfold r_law_kinds_0
  walk_at "x"
  simp only [cat_NoStore h, cat_NoPath h, cat_NoFile h, cat_NoFact h, cat_NoStep h, cat_NoName h, cat_TooMany h, cat_Ring h, cat_NoOrder h, cat_Clash h, cat_NoFrame h, cat_NoCase h, cat_ManyEnds h, cat_NoText h]
  walk_at "x"
  refine seq_go ?_
  unfold r_law_kinds_1
  walk_at "x"
  simp only [cat_NoStore h, cat_NoPath h, cat_NoFile h, cat_NoFact h, cat_NoStep h, cat_NoName h, cat_TooMany h, cat_Ring h, cat_NoOrder h, cat_Clash h, cat_NoFrame h, cat_NoCase h, cat_ManyEnds h, cat_NoText h]
  walk_at "x"
  try (refine ⟨by decide, ?_⟩)
  refine seq_go ?_
  unfold r_law_kinds_2
  walk_at "x"
  simp only [cat_NoStore h, cat_NoPath h, cat_NoFile h, cat_NoFact h, cat_NoStep h, cat_NoName h, cat_TooMany h, cat_Ring h, cat_NoOrder h, cat_Clash h, cat_NoFrame h, cat_NoCase h, cat_ManyEnds h, cat_NoText h]
  walk_at "x"
  try (refine ⟨by decide, ?_⟩)
  refine seq_go ?_
  unfold r_law_kinds_3
  walk_at "x"
  simp only [cat_NoStore h, cat_NoPath h, cat_NoFile h, cat_NoFact h, cat_NoStep h, cat_NoName h, cat_TooMany h, cat_Ring h, cat_NoOrder h, cat_Clash h, cat_NoFrame h, cat_NoCase h, cat_ManyEnds h, cat_NoText h]
  walk_at "x"
  try (refine ⟨by decide, ?_⟩)
  refine seq_go ?_
  unfold r_law_kinds_4
  walk_at "x"
  simp only [cat_NoStore h, cat_NoPath h, cat_NoFile h, cat_NoFact h, cat_NoStep h, cat_NoName h, cat_TooMany h, cat_Ring h, cat_NoOrder h, cat_Clash h, cat_NoFrame h, cat_NoCase h, cat_ManyEnds h, cat_NoText h]
  walk_at "x"
  try (refine ⟨by decide, ?_⟩)
  refine seq_go ?_
  unfold r_law_kinds_5
  walk_at "x"
  simp only [cat_NoStore h, cat_NoPath h, cat_NoFile h, cat_NoFact h, cat_NoStep h, cat_NoName h, cat_TooMany h, cat_Ring h, cat_NoOrder h, cat_Clash h, cat_NoFrame h, cat_NoCase h, cat_ManyEnds h, cat_NoText h]
  walk_at "x"
  try (refine ⟨by decide, ?_⟩)
  refine seq_go ?_
  unfold r_law_kinds_6
  walk_at "x"
  simp only [cat_NoStore h, cat_NoPath h, cat_NoFile h, cat_NoFact h, cat_NoStep h, cat_NoName h, cat_TooMany h, cat_Ring h, cat_NoOrder h, cat_Clash h, cat_NoFrame h, cat_NoCase h, cat_ManyEnds h, cat_NoText h]
  walk_at "x"
  try (refine ⟨by decide, ?_⟩)
  unfold r_law_kinds_7
  walk_at "x"
  refine lc_pureM (fun p : Str × Str => D.tup [.str p.1, .bl (decide (p.2 = c))]) (fun p => if p.2 = c then some (.str p.1) else none) (xs := kwT) (by decide) ?_ ?_
  · intro p hp G hG
    unfold lcTurn
    walk_at "x"
    by_cases hm : p.2 = c
    · rw [if_pos hm] at hG ⊢
      exact hG
    · rw [if_neg hm] at hG ⊢
      exact hG
  · have e : kwT.filterMap (fun p => if p.2 = c then some (D.str p.1) else none) = (kw c).map .str := by
      unfold kw
      rw [List.map_filterMap]
      congr 1
      funext p
      split <;> rfl
    rw [List.nil_append, e]
    walk_at "x"
    exact ⟨_, rfl, hQ⟩
end K17
namespace K17
open PySem PySem.Spec PyProof.Rows L2 B
local macro_rules | `(tactic| walk_at "x") => `(tactic| simp (config := { failIfUnchanged := false }) only [bNext, bIf, bSet, bRet, bRetN, bDrop, bPutD, bPutM, bFld, bFldSet, bFor, bPar, parRun, setS, bUnp, bC, bVar, bPk, bLs, bMv, bLv, bLp, bDe, bV, bOf, bEv, bT, bNot, bAnd, bOr, bAndV, bOrV, bNotV, bIfE, bBin, bUn, bSlc, bPn, bPs, bTup, bLst, bCons, bNil,
  bCall, bCallK, bCallL, blNil, blCons, getA, bMeth, bMake, mkF, bIsN, bChn, bDic0, bLc, cVal, cVar, bDc, bYes, bIt, bRng1, bRng2, bVals, bItems, bApp, bClr, bPopM, bPopA, bToM, bAsM, bDs, dsRun, bJoin,
  En.at, Hd.get, res_fr, res_ow, sd_fr, sd_un, sd_owl, sd_owd, sd_owi, sd_rdl, sd_rdd, sd_rdi, od_l, od_d, od_i, oc_l, oc_d, oc_i, it_l, it_t, it_q, it_P, it_d, it_s, inst_o, En.put, En.wipe, Tgt.set, setD, unlk,
  List.getElem?_cons_zero, List.getElem?_cons_succ, List.set_cons_zero, List.set_cons_succ, List.map_cons, List.map_nil, List.length_cons, List.length_nil, List.length_map, List.foldr_cons, List.foldr_nil, Option.bind_some, Option.bind_none, Option.map_some, Option.map_none, List.lookup_cons, beq_self_eq_true, if_true, if_false, ite_true, ite_false, true_and, and_true, List.nil_append, List.cons_append, List.append_nil, Bool.false_eq_true, Bool.true_eq_false, Nat.zero_le,
  stM_a, stD_fit, stD_great, stD_cells, stD_rest, stD_turn, stD_putR, stD_putT, stD_lt, dEqA_int, Option.some.injEq, exists_eq_left', exists_eq_left, D.int.injEq, D.str.injEq, D.lst.injEq, D.tup.injEq, D.dic.injEq, Ob.lst.injEq, Ob.dic.injEq, Sl.ow.injEq, Sl.fr.injEq, List.cons.injEq, Bool.false_bne, Bool.true_bne, Bool.false_xor, Bool.true_xor, Bool.xor_false, Bool.bne_false, decide_eq_true_eq, Bool.not_eq_true', decide_eq_false_iff_not,
  dLen_q, dLen_l, dLen_t, dLen_d, dLen_r, dLen_s, dLen_P, dSl_Pl, dSl_Pt, dSl_l, dSl_t, dSl_s, dAdd_P1, dAdd_P2, dAdd_i, dAdd_s, dAdd_l, dAdd_t, dIxA_P, dIxA_l, dIxA_t, dIxA_s, dIn_P, dIn_s, dInt1_i, dTuple_l, dTuple_t, dListA_l, dListA_t, dListA_d, dListA_r, dIsB_b, dInt_i, isN_n, isN_t, isN_l, mkP_len, fitP,
  sizeL, Nat.reduceAdd, Nat.reduceLeDiff, at_0, at3_1, at3_2, at2_1, List.mem_cons, List.not_mem_nil, or_false, forall_eq_or_imp, forall_eq, Nat.reduceLT, Int.reduceEq, Int.reduceLT, Int.reduceLE, Bool.not_true, Bool.not_false, isi_str, isi_tup, isi_tupP, isi_dic, isi_bl, isi_lt1, isi_lt2, bIsX, bXv, bXv0, bXf, bListZip, bMx, bDk, dkRun, dRepL])
/-! ### things -/
structure Tg (d : D) : Prop where
  shw : Shw d
  dep : d.py.depth ≤ 10
  wgt : d.py.weight ≤ 5000
theorem word_w {w : Str} (h : okN w = true) : (D.str w).py.weight ≤ 8 := by
  have := okN_len h
  rw [D.py, PyData.weight]
  have e : w.cps.size = w.length := rfl
  omega
theorem tg_str {s : Str} (h : PyData.strOk s = true) (hl : s.length ≤ 8) : Tg (.str s) :=
  ⟨.str s h, by simp [D.py, PyData.depth], by rw [D.py, PyData.weight]; have e : s.cps.size = s.length := rfl; omega⟩
theorem int_w {i : Int} (h : i.natAbs < 10 ^ 60) : (PyData.int i).weight ≤ 300 := by
  rw [PyData.weight]
  split
  · omega
  · rename_i h0
    have h0 : i ≠ 0 := by simpa using h0
    have : i.natAbs.log2 < 200 := by
      rw [Nat.log2_lt (by omega)]
      exact Nat.lt_of_lt_of_le h (by decide)
    omega
def spAny : FnB := fun ds M Q _ => ∃ (a g : Nat) (cs : List Int) (n : Int), ds = [.ptr a] ∧ St a g cs n M ∧ n + 500 < 2 ^ 40 ∧ ∀ d M', Tg d → St a g cs (n + 410) M' → Q (.fr d) M'
theorem law_any (ds : List D) (M : Mst) (Q : Sl → Mst → Prop) (E : Xd → Mst → Prop) (h : spAny ds M Q E) : bodyF (r_law_any spWords spTake spPick) 4 1 ds M Q E := by
  obtain ⟨a, g, cs, n, rfl, hS, hn, hQ⟩ := h
  refine ⟨rfl, ?_⟩
  show bSeq _ _ _ _ ⟨[.fr (.ptr a), .un, .un, .un], _⟩
  refine seq_go ?_
  unfold r_law_any_0
  walk_at "x"
  refine ⟨a, g, cs, n, 1, rfl, hS, by decide, by decide, by omega, fun xs M1 hl hnd hok hM1 => ?_⟩
  obtain ⟨w, rfl⟩ : ∃ w, xs = [w] := by
    match xs, hl with
    | [w], _ => exact ⟨w, rfl⟩
  have hw := hok w (by simp)
  walk_at "x"
  refine ⟨a, g, cs, _, 2000, rfl, hM1, by omega, by decide, by decide, fun v M2 hv0 hv1 hM2 => ?_⟩
  walk_at "x"
  refine seq_go ?_
  unfold r_law_any_1
  walk_at "x"
  refine ⟨⟨by decide, by decide, by decide⟩, ?_⟩
  have em : dMerge [(D.str w, D.lst [D.int (v - 1000)])] = [(D.str w, D.lst [D.int (v - 1000)])] := rfl
  rw [em]
  unfold r_law_any_2
  walk_at "x"
  refine ⟨a, g, cs, _, _, _, rfl, .inl rfl, hM2, by omega, by simp, by simp, fun x M3 hx hM3 => ⟨rfl, hQ x M3 ?_ (hM3.mono (by omega))⟩⟩
  have sw := Shw.str w (okN_strOk hw)
  have h1 : (v - 1000).natAbs < 10 ^ 60 := by omega
  have h2 : ((10 : Int) ^ Int.toNat 30 + (v - 1000)).natAbs < 10 ^ 60 := by
    have : (10 : Int) ^ Int.toNat 30 = 1000000000000000000000000000000 := by decide
    omega
  have si1 := Shw.int _ h1
  have si2 := Shw.int _ h2
  have wi1 := int_w h1
  have wi2 := int_w h2
  have ww : w.cps.size ≤ 8 := (okN_len hw).2
  have e1 : PyData.strOk (Str.ofString "") = true := by decide +kernel
  have e2 : PyData.strOk (Str.ofString "folder") = true := by decide +kernel
  have e3 : PyData.strOk (Str.ofString "row") = true := by decide +kernel
  have z1 : (Str.ofString "").cps.size = 0 := by decide +kernel
  have z2 : (Str.ofString "folder").cps.size = 6 := by decide +kernel
  have z3 : (Str.ofString "row").cps.size = 3 := by decide +kernel
  simp only [List.mem_cons, List.not_mem_nil, or_false] at hx
  have all1 : ∀ {y : D}, Shw y → ∀ x ∈ [y], Shw x := fun h x hx => by rw [List.mem_singleton.mp hx]; exact h
  have all2 : ∀ {y z : D}, Shw y → Shw z → ∀ x ∈ [y, z], Shw x := fun h1 h2 x hx => by
    rcases List.mem_cons.mp hx with e | hx
    · rw [e]; exact h1
    · rw [List.mem_singleton.mp hx]; exact h2
  have all3 : ∀ {y z u : D}, Shw y → Shw z → Shw u → ∀ x ∈ [y, z, u], Shw x := fun h1 h2 h3 x hx => by
    rcases List.mem_cons.mp hx with e | hx
    · rw [e]; exact h1
    · exact all2 h2 h3 x hx
  have nil : ∀ x ∈ ([] : List D), Shw x := fun x hx => by cases hx
  rcases hx with rfl | rfl | rfl | rfl | rfl | rfl | rfl | rfl | rfl | rfl | rfl | rfl | rfl | rfl
  all_goals refine ⟨?_, by simp [D.py, D.pyA, D.pyK, PyData.depth, PyData.depthAll, PyData.depthKv], ?_⟩
  · exact sw
  · simp only [D.py, PyData.weight]; omega
  · exact .tup _ (all1 sw)
  · simp only [D.py, D.pyA, PyData.weight, PyData.weightAll]; omega
  · exact si1
  · simp only [D.py]; omega
  · exact si2
  · simp only [D.py]; omega
  · exact .non
  · simp [D.py, PyData.weight]
  · exact .bl true
  · simp [D.py, PyData.weight]
  · exact .str _ e1
  · simp only [D.py, PyData.weight]; omega
  · exact .lst _ (all2 sw sw)
  · simp only [D.py, D.pyA, PyData.weight, PyData.weightAll]; omega
  · exact .dic _ (fun x hx => by cases hx) (fun x hx => by cases hx)
  · simp [D.py, D.pyK, PyData.weight, PyData.weightKv]
  · exact .tup _ nil
  · simp [D.py, D.pyA, PyData.weight, PyData.weightAll]
  · exact .dic _ (fun x hx => by rw [List.mem_singleton.mp hx]; exact sw) (fun x hx => by rw [List.mem_singleton.mp hx]; exact .lst _ (all1 si1))
  · simp only [D.py, D.pyA, D.pyK, PyData.weight.eq_2, PyData.weight, PyData.weightAll, PyData.weightKv]
    simp only [PyData.weight] at wi1
    omega
  · exact .tup _ (all2 (.tup _ (all2 (.str _ e2) (.tup _ (all1 sw)))) (.tup _ nil))
  · simp only [D.py, D.pyA, PyData.weight, PyData.weightAll]; omega
  · exact .tup _ (all3 (.str _ e3) (.tup _ (all1 sw)) sw)
  · simp only [D.py, D.pyA, PyData.weight, PyData.weightAll]; omega
  · exact .lst _ (all1 (.lst _ (all1 (.lst _ (all1 sw)))))
  · simp only [D.py, D.pyA, PyData.weight, PyData.weightAll]; omega
end K17
namespace K17
open PySem PySem.Spec PyProof.Rows L2 B
local macro_rules | `(tactic| walk_at "x") => `(tactic| simp (config := { failIfUnchanged := false }) only [bNext, bIf, bSet, bRet, bRetN, bDrop, bPutD, bPutM, bFld, bFldSet, bFor, bPar, parRun, setS, bUnp, bC, bVar, bPk, bLs, bMv, bLv, bLp, bDe, bV, bOf, bEv, bT, bNot, bAnd, bOr, bAndV, bOrV, bNotV, bIfE, bBin, bUn, bSlc, bPn, bPs, bTup, bLst, bCons, bNil,
  bCall, bCallK, bCallL, blNil, blCons, getA, bMeth, bMake, mkF, bIsN, bChn, bDic0, bLc, cVal, cVar, bDc, bYes, bIt, bRng1, bRng2, bVals, bItems, bApp, bClr, bPopM, bPopA, bToM, bAsM, bDs, dsRun, bJoin,
  En.at, Hd.get, res_fr, res_ow, sd_fr, sd_un, sd_owl, sd_owd, sd_owi, sd_rdl, sd_rdd, sd_rdi, od_l, od_d, od_i, oc_l, oc_d, oc_i, it_l, it_t, it_q, it_P, it_d, it_s, inst_o, En.put, En.wipe, Tgt.set, setD, unlk,
  List.getElem?_cons_zero, List.getElem?_cons_succ, List.set_cons_zero, List.set_cons_succ, List.map_cons, List.map_nil, List.length_cons, List.length_nil, List.length_map, List.foldr_cons, List.foldr_nil, Option.bind_some, Option.bind_none, Option.map_some, Option.map_none, List.lookup_cons, beq_self_eq_true, if_true, if_false, ite_true, ite_false, true_and, and_true, List.nil_append, List.cons_append, List.append_nil, Bool.false_eq_true, Bool.true_eq_false, Nat.zero_le,
  stM_a, stD_fit, stD_great, stD_cells, stD_rest, stD_turn, stD_putR, stD_putT, stD_lt, dEqA_int, Option.some.injEq, exists_eq_left', exists_eq_left, D.int.injEq, D.str.injEq, D.lst.injEq, D.tup.injEq, D.dic.injEq, Ob.lst.injEq, Ob.dic.injEq, Sl.ow.injEq, Sl.fr.injEq, List.cons.injEq, Bool.false_bne, Bool.true_bne, Bool.false_xor, Bool.true_xor, Bool.xor_false, Bool.bne_false, decide_eq_true_eq, Bool.not_eq_true', decide_eq_false_iff_not,
  dLen_q, dLen_l, dLen_t, dLen_d, dLen_r, dLen_s, dLen_P, dSl_Pl, dSl_Pt, dSl_l, dSl_t, dSl_s, dAdd_P1, dAdd_P2, dAdd_i, dAdd_s, dAdd_l, dAdd_t, dIxA_P, dIxA_l, dIxA_t, dIxA_s, dIn_P, dIn_s, dInt1_i, dTuple_l, dTuple_t, dListA_l, dListA_t, dListA_d, dListA_r, dIsB_b, dInt_i, isN_n, isN_t, isN_l, mkP_len, fitP,
  sizeL, Nat.reduceAdd, Nat.reduceLeDiff, at_0, at3_1, at3_2, at2_1, List.mem_cons, List.not_mem_nil, or_false, forall_eq_or_imp, forall_eq, Nat.reduceLT, Int.reduceEq, Int.reduceLT, Int.reduceLE, Bool.not_true, Bool.not_false, isi_str, isi_tup, isi_tupP, isi_dic, isi_bl, isi_lt1, isi_lt2, bIsX, bXv, bXv0, bXf, bListZip, bMx, bDk, dkRun, dRepL])
/-! ### all errors of a thing -/
def PC1 : List (Str × Str × Str) := [("NoStore", "", "store"), ("NoOrder", "", "order"), ("NoFrame", "", "frame"), ("NoCase", "", "case"), ("ManyEnds", "", "ends")]
def PC2 : List (Str × Str × Str) := [("NoPath", "path", "path"), ("NoFile", "path", "file"), ("NoFact", "fact", "fact"), ("NoStep", "step", "step"), ("NoName", "name", "name"), ("TooMany", "limit", "many"), ("Ring", "ring", "ring"), ("Clash", "name", "clash"), ("NoText", "index", "text")]
def PC : List (Str × Str × Str) := PC1 ++ PC2 ++ PC2
def fsOf (d : D) (f : Str) : List (Str × D) := if f = "" then [] else [(f, d)]
theorem pc_ok : ∀ p ∈ PC, p.1 ∈ xnames ∧ kw p.1 = [p.2.2] ∧ PyData.strOk p.2.2 = true := by decide +kernel
def X9 (d : D) : List D := [.exc "NoPath" [("path", d)], .exc "NoFile" [("path", d)], .exc "NoFact" [("fact", d)], .exc "NoStep" [("step", d)], .exc "NoName" [("name", d)], .exc "TooMany" [("limit", d)], .exc "Ring" [("ring", d)], .exc "Clash" [("name", d)], .exc "NoText" [("index", d)]]
theorem nine {d : D} (h : Tg d) : (∀ Q : Sl → Prop, dRepr (.lst [d, d, d, d, d, d, d, d, d]) Q ↔ Q (.fr (.str (D.lst [d, d, d, d, d, d, d, d, d]).py.shown))) ∧ PyData.strOk (D.lst [d, d, d, d, d, d, d, d, d]).py.shown = true := by
  have hs : Shw (.lst [d, d, d, d, d, d, d, d, d]) := .lst _ fun x hx => by
    simp only [List.mem_cons, List.not_mem_nil, or_false] at hx
    rcases hx with rfl | rfl | rfl | rfl | rfl | rfl | rfl | rfl | rfl <;> exact h.shw
  have h1 := h.dep
  have h2 := h.wgt
  obtain ⟨r1, r2, r3, r4, r5⟩ := hs.repr rfl (by simp only [D.py, D.pyA, PyData.depth, PyData.depthAll]; omega) (by simp only [D.py, D.pyA, PyData.weight, PyData.weightAll]; omega)
  exact ⟨fun Q => ⟨fun q => q.2.2.2.2.2, fun q => ⟨r1, r2, r3, r4, r5, q⟩⟩, (shw_all hs).2.2.2⟩
def spRight : FnB := fun ds M Q _ => ∃ (d : D) (w : Str), ds = [d, .str w] ∧ Tg d ∧ Q (.fr (.bl true)) M
theorem law_right (ds : List D) (M : Mst) (Q : Sl → Mst → Prop) (E : Xd → Mst → Prop) (h : spRight ds M Q E) : bodyF (r_law_right spKinds) 10 2 ds M Q E := by
  obtain ⟨d, w, rfl, hd, hQ⟩ := h
  refine ⟨rfl, ?_⟩
  show bSeq _ _ _ _ ⟨[.fr d, .fr (.str w), .un, .un, .un, .un, .un, .un, .un, .un], _⟩
  refine seq_go ?_
  unfold r_law_right_0
  walk_at "x"
  refine seq_go ?_
  unfold r_law_right_1
  walk_at "x"
  refine seq_go ?_
  unfold r_law_right_2
  walk_at "x"
  refine seq_go ?_
  unfold r_law_right_3
  walk_at "x"
  refine seq_go ?_
  unfold r_law_right_4
  walk_at "x"
  refine seq_go ?_
  unfold r_law_right_5
  walk_at "x"
  refine seq_go ?_
  unfold r_law_right_6
  walk_at "x"
  refine seq_cut (fun E' => ∃ (s2 s3 s6 s7 : Sl), E' = ⟨[.fr d, .fr (.str w), s2, s3, .ow (.lst (X9 d)), .fr (.lst (X9 d)), s6, s7, .un, .un], M⟩) (fun K hK => ?_) ?_
  · unfold r_law_right_7
    walk_at "x"
    refine ⟨of_decide_eq_true rfl, ?_⟩
    change forRun _ _ _ _ (PC.map fun p => D.tup [.exc p.1 (fsOf d p.2.1), .str p.2.2]) _
    refine for_map _ PC (fun _ E' => ∃ (s2 s3 s6 s7 : Sl), E' = ⟨[.fr d, .fr (.str w), s2, s3, .ow (.lst (X9 d)), .fr (.lst (X9 d)), s6, s7, .un, .un], M⟩) ⟨_, _, _, _, rfl⟩ ?_ hK
    rintro pre p post E' K2 hp ⟨s2, s3, s6, s7, rfl⟩ hK2
    obtain ⟨p1, p2, p3⟩ := pc_ok p (by rw [hp]; simp)
    walk_at "x"
    unfold r_law_right_8
    walk_at "x"
    refine ⟨_, _, rfl, p1, ?_⟩
    rw [p2]
    walk_at "x"
    have o1 : okd false 2 (.lst [.str p.2.2]) = true := okd_strs (xs := [p.2.2]) fun y hy => by rw [List.mem_singleton.mp hy]; exact p3
    rw [dEqA_same o1 o1 (by decide) rfl]
    simp only [cat_StateError p1, cat_ValueError p1]
    walk_at "x"
    exact hK2 _ ⟨_, _, _, _, rfl⟩
  · rintro E' ⟨s2, s3, s6, s7, rfl⟩
    refine seq_cut (fun E' => ∃ (s2 s3 s4 s5 s6 s7 s8 s9 : Sl), E' = ⟨[.fr d, .fr (.str w), s2, s3, s4, s5, s6, s7, s8, s9], M⟩) (fun K hK => ?_) ?_
    · unfold r_law_right_10
      walk_at "x"
      change forRun _ _ _ _ ([(), ()].map fun _ => D.lst (X9 d)) _
      refine for_map _ [(), ()] (fun _ E' => ∃ (s2 s3 s4 s5 s6 s7 s8 s9 : Sl), E' = ⟨[.fr d, .fr (.str w), s2, s3, s4, s5, s6, s7, s8, s9], M⟩) ⟨_, _, _, _, _, _, _, _, rfl⟩ ?_ hK
      rintro pre p post E' K2 hp ⟨s2, s3, s4, s5, s6, s7, s8, s9, rfl⟩ hK2
      walk_at "x"
      refine seq_go ?_
      unfold r_law_right_11 X9
      walk_at "x"
      refine ⟨by decide +kernel, by decide +kernel, _, rfl, ?_⟩
      walk_at "x"
      refine ⟨by decide +kernel, _, rfl, ?_⟩
      walk_at "x"
      refine ⟨by decide +kernel, _, rfl, ?_⟩
      walk_at "x"
      refine ⟨by decide +kernel, _, rfl, ?_⟩
      walk_at "x"
      refine ⟨by decide +kernel, _, rfl, ?_⟩
      walk_at "x"
      refine ⟨by decide +kernel, ?_⟩
      unfold r_law_right_12
      walk_at "x"
      refine ⟨_, rfl, ?_⟩
      walk_at "x"
      refine ⟨by decide +kernel, _, rfl, ?_⟩
      walk_at "x"
      refine ⟨by decide +kernel, ?_⟩
      obtain ⟨n1, n2⟩ := nine hd
      rw [n1]
      walk_at "x"
      refine ⟨by decide, by decide, by decide, ?_⟩
      have e9 : (List.replicate (Int.toNat 9) [d]).flatten = [d, d, d, d, d, d, d, d, d] := rfl
      rw [e9, n1]
      walk_at "x"
      rw [dEqA_str n2 n2]
      walk_at "x"
      exact hK2 _ ⟨_, _, _, _, _, _, _, _, rfl⟩
    · rintro E' ⟨s2, s3, s4, s5, s6, s7, s8, s9, rfl⟩
      unfold r_law_right_14
      walk_at "x"
      exact hQ
end K17
namespace K17
open PySem PySem.Spec PyProof.Rows L2 B
local macro_rules | `(tactic| walk_at "x") => `(tactic| simp (config := { failIfUnchanged := false }) only [bNext, bIf, bSet, bRet, bRetN, bDrop, bPutD, bPutM, bFld, bFldSet, bFor, bPar, parRun, setS, bUnp, bC, bVar, bPk, bLs, bMv, bLv, bLp, bDe, bV, bOf, bEv, bT, bNot, bAnd, bOr, bAndV, bOrV, bNotV, bIfE, bBin, bUn, bSlc, bPn, bPs, bTup, bLst, bCons, bNil,
  bCall, bCallK, bCallL, blNil, blCons, getA, bMeth, bMake, mkF, bIsN, bChn, bDic0, bLc, cVal, cVar, bDc, bYes, bIt, bRng1, bRng2, bVals, bItems, bApp, bClr, bPopM, bPopA, bToM, bAsM, bDs, dsRun, bJoin,
  En.at, Hd.get, res_fr, res_ow, sd_fr, sd_un, sd_owl, sd_owd, sd_owi, sd_rdl, sd_rdd, sd_rdi, od_l, od_d, od_i, oc_l, oc_d, oc_i, it_l, it_t, it_q, it_P, it_d, it_s, inst_o, En.put, En.wipe, Tgt.set, setD, unlk,
  List.getElem?_cons_zero, List.getElem?_cons_succ, List.set_cons_zero, List.set_cons_succ, List.map_cons, List.map_nil, List.length_cons, List.length_nil, List.length_map, List.foldr_cons, List.foldr_nil, Option.bind_some, Option.bind_none, Option.map_some, Option.map_none, List.lookup_cons, beq_self_eq_true, if_true, if_false, ite_true, ite_false, true_and, and_true, List.nil_append, List.cons_append, List.append_nil, Bool.false_eq_true, Bool.true_eq_false, Nat.zero_le,
  stM_a, stD_fit, stD_great, stD_cells, stD_rest, stD_turn, stD_putR, stD_putT, stD_lt, dEqA_int, Option.some.injEq, exists_eq_left', exists_eq_left, D.int.injEq, D.str.injEq, D.lst.injEq, D.tup.injEq, D.dic.injEq, Ob.lst.injEq, Ob.dic.injEq, Sl.ow.injEq, Sl.fr.injEq, List.cons.injEq, Bool.false_bne, Bool.true_bne, Bool.false_xor, Bool.true_xor, Bool.xor_false, Bool.bne_false, decide_eq_true_eq, Bool.not_eq_true', decide_eq_false_iff_not,
  dLen_q, dLen_l, dLen_t, dLen_d, dLen_r, dLen_s, dLen_P, dSl_Pl, dSl_Pt, dSl_l, dSl_t, dSl_s, dAdd_P1, dAdd_P2, dAdd_i, dAdd_s, dAdd_l, dAdd_t, dIxA_P, dIxA_l, dIxA_t, dIxA_s, dIn_P, dIn_s, dInt1_i, dTuple_l, dTuple_t, dListA_l, dListA_t, dListA_d, dListA_r, dIsB_b, dInt_i, isN_n, isN_t, isN_l, mkP_len, fitP,
  sizeL, Nat.reduceAdd, Nat.reduceLeDiff, at_0, at3_1, at3_2, at2_1, List.mem_cons, List.not_mem_nil, or_false, forall_eq_or_imp, forall_eq, Nat.reduceLT, Int.reduceEq, Int.reduceLT, Int.reduceLE, Bool.not_true, Bool.not_false, isi_str, isi_tup, isi_tupP, isi_dic, isi_bl, isi_lt1, isi_lt2, bIsX, bXv, bXv0, bXf, bListZip, bMx, bDk, dkRun, dRepL])
local macro_rules | `(tactic| walk_at "c") => `(tactic| simp (config := { failIfUnchanged := false }) only [bNext, bIf, bSet, bRet, bRetN, bDrop, bPutD, bPutM, bFld, bFldSet, bFor, bPar, parRun, setS, bUnp, bC, bVar, bPk, bLs, bMv, bLv, bLp, bDe, bV, bOf, bEv, bT, bNot, bAnd, bOr, bAndV, bOrV, bNotV, bIfE, bBin, bUn, bSlc, bPn, bPs, bTup, bLst, bCons, bNil,
  bCall, bCallK, bCallL, blNil, blCons, getA, bMeth, bMake, mkF, bIsN, bChn, bDic0, bLc, cVal, cVar, bDc, bYes, bIt, bRng1, bRng2, bVals, bItems, bApp, bClr, bPopM, bPopA, bToM, bAsM, bDs, dsRun, bJoin,
  En.at, Hd.get, res_fr, res_ow, sd_fr, sd_un, sd_owl, sd_owd, sd_owi, sd_rdl, sd_rdd, sd_rdi, od_l, od_d, od_i, oc_l, oc_d, oc_i, it_l, it_t, it_P, it_d, it_s, inst_o, En.put, En.wipe, Tgt.set, setD, unlk,
  List.getElem?_cons_zero, List.getElem?_cons_succ, List.set_cons_zero, List.set_cons_succ, List.map_cons, List.map_nil, List.length_cons, List.length_nil, List.length_map, List.foldr_cons, List.foldr_nil, Option.bind_some, Option.bind_none, List.lookup_cons, beq_self_eq_true, if_true, if_false, ite_true, ite_false, true_and, and_true, List.nil_append, List.cons_append, List.append_nil, Bool.false_eq_true, Nat.zero_le,
  stM_a, stD_fit, stD_great, stD_cells, stD_rest, stD_turn, stD_putR, stD_putT, stD_lt, dEqA_int, Option.some.injEq, exists_eq_left', exists_eq_left, D.int.injEq, D.str.injEq, D.lst.injEq, D.tup.injEq, D.dic.injEq, Ob.lst.injEq, Ob.dic.injEq, Sl.ow.injEq, Sl.fr.injEq, List.cons.injEq, Bool.false_bne, Bool.true_bne, Bool.false_xor, Bool.true_xor, Bool.xor_false, Bool.bne_false, decide_eq_true_eq, Bool.not_eq_true', decide_eq_false_iff_not,
  dLen_l, dLen_t, dLen_d, dLen_r, dLen_s, dLen_P, dSl_Pl, dSl_Pt, dSl_l, dSl_t, dSl_s, dAdd_P1, dAdd_P2, dAdd_i, dAdd_s, dAdd_l, dAdd_t, dIxA_P, dIxA_l, dIxA_t, dIxA_s, dIn_P, dInt1_i, dTuple_l, dTuple_t, dListA_l, dListA_t, dListA_d, dListA_r, dIsB_b, dInt_i, isN_n, isN_t, isN_l, mkP_len, fitP,
  sizeL, Nat.reduceAdd, Nat.reduceLeDiff, at_0, at3_1, at3_2, at2_1, List.mem_cons, List.not_mem_nil, or_false, forall_eq_or_imp, forall_eq, Nat.reduceLT, Int.reduceEq, Int.reduceLT, Int.reduceLE, Bool.not_true, Bool.not_false])

def spBegun : FnB := fun ds M Q _ => ∃ ns : List Int, ds = [.scr ns] ∧ M = [] ∧ ns.length ≤ 63 ∧ ∀ (g : Nat) (gs : List Int), (∀ x ∈ gs, 0 ≤ x) → Q (.ow (.dic (stD g ns 0 0))) [(g, .lst (gs.map .int))]
/-- the numbers that pass -/
def selI (f : Int → Option Int) : D → Option D
  | .int y => (f y).map .int
  | _ => none
theorem filterMap_int {xs : List Int} {f : Int → Option Int} : (xs.map D.int).filterMap (selI f) = (xs.filterMap f).map .int := by
  induction xs with
  | nil => rfl
  | cons x xs ih =>
    rw [List.map_cons, List.filterMap_cons, List.filterMap_cons]
    cases h : f x with
    | none => simp [selI, h, ih]
    | some y => simp [selI, h, ih]
theorem law_begun (ds : List D) (M : Mst) (Q : Sl → Mst → Prop) (E : Xd → Mst → Prop) (h : spBegun ds M Q E) : bodyF r_law_begun 3 1 ds M Q E := by
  obtain ⟨ns, rfl, rfl, hn, hQ⟩ := h
  refine ⟨rfl, ?_⟩
  show bSeq _ _ _ _ ⟨[.fr (.scr ns), .un, .un], _⟩
  refine seq_go ?_
  unfold r_law_begun_0
  walk_at "c"
  refine lc_pure (selI fun y => if 1000000000000000000 ≤ y then some (y - 1000000000000000000) else none) (by rw [sizeL]; simp; omega) ?_ ?_
  · intro e he G hG
    obtain ⟨y, hy, rfl⟩ := List.mem_map.mp he
    unfold lcTurn
    walk_at "c"
    have e18 : (10 : Int) ^ (18 : Int).toNat = 1000000000000000000 := rfl
    rw [e18]
    refine ⟨⟨by decide, by decide, by decide⟩, ?_⟩
    by_cases h : 1000000000000000000 ≤ y
    · rw [if_pos h]
      refine ⟨⟨by decide, by decide, by decide⟩, ?_⟩
      simpa [selI, h] using hG
    · rw [if_neg h]
      simpa [selI, h] using hG
  · rw [filterMap_int]
    generalize hw : ns.filterMap (fun y => if 1000000000000000000 ≤ y then some (y - 1000000000000000000) else none) = gs
    have hgs : ∀ x ∈ gs, 0 ≤ x := by
      intro x hx
      rw [← hw] at hx
      obtain ⟨y, _, hy⟩ := List.mem_filterMap.mp hx
      split at hy
      · cases hy; omega
      · cases hy
    unfold r_law_begun_1
    walk_at "c"
    intro p _
    rw [stD_merge]
    exact hQ p gs hgs
/-! ### paths -/
def spLaw : FnB := fun ds M Q _ => ∃ ns : List Int, ds = [.scr ns] ∧ M = [] ∧ ns.length ≤ 63 ∧ ∀ M', Q (.fr (.bl true)) M'
theorem law_law (ds : List D) (M : Mst) (Q : Sl → Mst → Prop) (E : Xd → Mst → Prop) (h : spLaw ds M Q E) : bodyF (r_law spBegun spRight spAny spWords spKinds) 3 1 ds M Q E := by
  obtain ⟨ns, rfl, rfl, hn, hQ⟩ := h
  refine ⟨rfl, ?_⟩
  show bSeq _ _ _ _ ⟨[.fr (.scr ns), .un, .un], _⟩
  refine seq_go ?_
  unfold r_law_0
  walk_at "x"
  refine ⟨ns, rfl, rfl, hn, fun g gs hgs => ?_⟩
  walk_at "x"
  intro a ha
  have hag : a ≠ g := by simpa using ha
  have hM0 : St a g ns 0 ((a, Ob.dic (stD g ns 0 0)) :: [(g, Ob.lst (gs.map D.int))]) := ⟨hag, gs, 0, 0, rfl, by omega, by omega, by omega, hgs⟩
  generalize (a, Ob.dic (stD g ns 0 0)) :: [(g, Ob.lst (gs.map D.int))] = M0 at hM0
  refine seq_cut (fun E' => ∃ s2 M', E' = ⟨[.fr (.scr ns), .fr (.ptr a), s2], M'⟩) (fun K hK => ?_) ?_
  · unfold r_law_1
    walk_at "x"
    obtain ⟨m, em, hm1, hm2⟩ : ∃ m : Int, (if (if (ns.length : Int) < 8 then (ns.length : Int) else 8) > 1 then if (ns.length : Int) < 8 then (ns.length : Int) else 8 else 1) = m ∧ 1 ≤ m ∧ m ≤ 8 := by
      refine ⟨_, rfl, ?_, ?_⟩
      · split <;> omega
      · split
        · split <;> omega
        · omega
    rw [em]
    refine ⟨by omega, by omega, ?_⟩
    refine for_inv _ (fun pre E' => ∃ s2 M', St a g ns (1000 * pre.length) M' ∧ E' = ⟨[.fr (.scr ns), .fr (.ptr a), s2], M'⟩) ⟨_, M0, by simpa using hM0, rfl⟩ ?_ ?_
    rotate_left
    · rintro E' ⟨s2, M', _, rfl⟩
      exact hK _ ⟨_, M', rfl⟩
    rintro pre d post E' K2 hd ⟨s2, M1, hM1, rfl⟩ hK2
    have hpl : pre.length < 8 := by
      have := congrArg List.length hd
      simp [rngD] at this
      omega
    walk_at "x"
    unfold r_law_2
    walk_at "x"
    refine ⟨a, g, ns, _, rfl, hM1, by omega, fun y M2 hy hM2 => ?_⟩
    walk_at "x"
    refine ⟨a, g, ns, _, 1, rfl, hM2, by decide, by decide, by omega, fun xs M3 hl hnd hok hM3 => ?_⟩
    obtain ⟨w, rfl⟩ : ∃ w, xs = [w] := by
      match xs, hl with
      | [w], _ => exact ⟨w, rfl⟩
    walk_at "x"
    refine ⟨y, w, rfl, hy, ?_⟩
    walk_at "x"
    exact hK2 _ ⟨_, M3, hM3.mono (by simp; omega), rfl⟩
  · rintro E' ⟨s2, M', rfl⟩
    unfold r_law_4
    walk_at "x"
    refine ⟨_, _, rfl, by decide +kernel, ?_⟩
    have e : kw (Str.ofString "StateError") = [] := by decide +kernel
    rw [e]
    walk_at "x"
    have o1 : okd false 2 (.lst []) = true := rfl
    rw [dEqA_same o1 o1 (by decide) rfl]
    have e2 : catOf cl_ValueError (Str.ofString "StateError") = some true := by decide +kernel
    simp only [e2]
    walk_at "x"
    exact hQ _
end K17
section
set_option maxHeartbeats 0
namespace K17
open PySem PySem.Spec PyProof.Rows L2 B
abbrev R : PySem.W.OpenRow := PySem.W.OpenLaw.row PySem.Challenge.rw_anystart_k17_errors_apart
def loose : List Str := (["StateError", "NoStore", "NoPath", "NoFile", "NoFact", "NoStep", "NoName", "TooMany", "Ring", "NoOrder", "Clash", "NoFrame", "NoCase", "ManyEnds", "NoText", "_law_begun", "_law_mixed", "_law_take", "_law_pick", "_law_words", "_law_kinds", "_law_any", "_law_right"] : List Str)
abbrev hk : PySem.W.Hook := hookY 6 fa fn tups xf
def ob (s : PySem.W.SharedT) : Bool × He.AlD := obsY 6 fa fn tups xf (HandSHeadRun.getT s)
theorem ob_eq (s : PySem.W.SharedT) : ob s = hk.obs s.abs := obsY_eq (HandSHeadRun.getT_eq s)
theorem run (w : World) : HandSHeadRun.RunEq R (PySem.W.view R.prog [25]) hk ob 9000 loose w := by
  intro os
  kernel_rfl
end K17
open PySem PySem.W PySem.Calls PyProof.Rows B
theorem K17.holds_of {fb : FnB} (hfb : ∀ ns : List Int, ns.length ≤ 63 → fb [.scr ns] [] (fun s _ => s = .fr (.bl true)) fun _ _ => False)
    (HL : ∀ {P : Program} {w : World} {K : PySem.W.Frag} {mg : Str → Option Value} {base : Heap}, K.In base → base.Ns mainGlobals mg → He.SaysD K17.fa K17.fn K → TupsOk K K17.tups → XFs K K17.xf → HasFn P w K mg base K17.d_law 6 ["_law_script"] fb) :
    PySem.Challenge.rw_anystart_k17_errors_apart.Holds := by
  w_on; o_law
  refine HandSHeadRun.head_any (r := OpenLaw.row PySem.Challenge.rw_anystart_k17_errors_apart) (q := view (OpenLaw.row PySem.Challenge.rw_anystart_k17_errors_apart).prog [25]) (H := K17.hk) (ob := K17.ob) (M := 9000) (loose := K17.loose) (d := HandSHeadRun.topDef (OpenLaw.row PySem.Challenge.rw_anystart_k17_errors_apart).prog 25) (kwd := []) K17.ob_eq
    (by kernel_rfl) (fun s => by kernel_rfl) K17.run (by kernel_rfl) (by kernel_rfl) (by kernel_rfl) (by rfl) (by first | assumption | decide +kernel) (by decide +kernel) ⟨rfl, rfl, rfl, rfl, rfl, by decide +kernel⟩ ?hw ?hc
  case hw => w_witness2
  case hc =>
    refine B.walk_ofD (l := PySem.Challenge.rw_anystart_k17_errors_apart) (n := 63) (k := 6) (x := "_law_script") rfl (by decide) (by kernel_rfl) ⟨rfl, by decide, by decide⟩ (by kernel_rfl) ?F
    intro w mg fa h Y G hmg0
    obtain ⟨K, KX, tp, xc, c⟩ := Y
    have hmg : mg ("law" : PySem.Str) = some (.ref fa) := by
      have e : (HandSHeadRun.topDef (OpenLaw.row PySem.Challenge.rw_anystart_k17_errors_apart).prog 25).name = ("law" : PySem.Str) := by kernel_rfl
      rw [← e]
      exact hmg0
    obtain ⟨fd, hb, hF⟩ := end_of (P := (PySem.Challenge.rw_anystart_k17_errors_apart).prog) (w := w) (k := 6) (fb := fb) (d := K17.d_law) (i := 8) (x := "_law_script") (n := "law") (tu := K17.tups) KX G c hmg (c.fact 39) rfl rfl rfl
      (fun _ _ _ _ _ _ us hl => match us, hl with | [_], _ => rfl) fun base X B => HL X B c tp xc
    exact ⟨K, fd, He.ga K, fb, KX, hb, hfb, hF⟩
end
namespace K17
open PySem PySem.Spec PyProof.Rows L2 B
theorem hl {P : Program} {w : World} {K : PySem.W.Frag} {mg : Str → Option Value} {base : Heap} (X : K.In base) (G : base.Ns mainGlobals mg) (c : He.SaysD fa fn K) (tp : TupsOk K tups) (xc : XFs K xf) : HasFn P w K mg base d_law 6 ["_law_script"] spLaw := by
  have h1 := (fn_law_begun (P := P) (w := w) X G c tp xc).imp law_begun
  have h2 := (fn_law_mixed (P := P) (w := w) X G c tp xc).imp law_mixed
  have h3 := (fn_law_take X G c tp xc h2).imp law_take
  have h4 := (fn_law_pick X G c tp xc h3).imp law_pick
  have h5 := (fn_law_words X G c tp xc h3 h4).imp law_words
  have h6 := (fn_law_kinds (P := P) (w := w) X G c tp xc).imp law_kinds
  have h7 := (fn_law_any X G c tp xc h5 h3 h4).imp law_any
  have h8 := (fn_law_right X G c tp xc h6).imp law_right
  exact (fn_law X G c tp xc h1 h8 h7 h5 h6).imp law_law
end K17
set_option maxRecDepth 100000 in
set_option maxHeartbeats 8000000 in
theorem PySem.Challenge.cw_anystart_k17_errors_apart_holds : PySem.Challenge.rw_anystart_k17_errors_apart.Holds := by
  exact K17.holds_of (fb := K17.spLaw) (fun ns hn => ⟨ns, rfl, rfl, hn, fun _ => rfl⟩) (fun X G c tp xc => K17.hl X G c tp xc)
