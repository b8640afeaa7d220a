import PyProof.Rows.All
import Wide.All
import OpenK.AllK
import Wide.FinOn
import HandS.ForMost
import HandS.ForExc
import HandS.Flow
import HandS.Star
import HandS.Style
import HandS.Zip
import HandS.Conv
import HandS.IsInst
import HandS.TupAny
import HandS.Small
import HandS.Deep
import HandS.Defaults
import HandS.Wide
import KE.GoesMore
import KE.GoesEnum
import HandS.SetFor
import HandS.TupMul
import HandS.Ends
import HandS.HeadEnd
import KE.KStateDown
import HandS.More
import HandS.Words
import HandS.WordsExc
import HandS.Head0
import HandS.Head1
import HandS.Head2
import HandS.HeadHook1
import HandS.HeadHook2
import HandS.SortRule
import HandS.SortInts
import KE.SortData
import HandS.ListItems
import KE.KDictList
import KE.DataMinMax
import KE.KDictPairs
import HandS.Exc
import PySem.Challenge.RW_bitswitches_k88_whole_logs
set_option Elab.async false
set_option linter.all false
set_option maxRecDepth 100000
set_option maxHeartbeats 4000000
namespace VL
open PySem PySem.Spec PyProof.Rows L2

def keyD : Key → PyData
  | .inl i => .int i
  | .inr x => .str x
/-- a dict whose keys are tuples, as data -/
def encT (kvs : List (List Key × PyData)) : List (PyData × PyData) := kvs.map fun kv => (.tuple (kv.1.map keyD), kv.2)
/-! ### data over a frozen part of the heap -/
mutual
inductive Dt (K : PySem.W.Frag) (F : Hp) : V → PyData → Prop
  | non : Dt K F .non .none
  | bl (b : Bool) : Dt K F (.bl b) (.bool b)
  | int (i : Int) : Dt K F (.int i) (.int i)
  | str (x : Str) : Dt K F (.str x) (.str x)
  | lst {a : Addr} {xs : List V} {ds : List PyData} : F a = some (.lst xs) → DtAll K F xs ds → Dt K F (.ref a) (.list ds)
  | tup {a : Addr} {xs : List V} {ds : List PyData} : F a = some (.tup xs) → DtAll K F xs ds → Dt K F (.ref a) (.tuple ds)
  | dctT {a : Addr} {ws : List (List Key × V)} {es : List (PyData × PyData)} : F a = some (.dT ws) → DtKv K F ws es → Dt K F (.ref a) (.dict es)
  | dct0 {a : Addr} : F a = some (.dK []) → Dt K F (.ref a) (.dict [])
  | scr {a : Addr} {ns : List Int} : SqL K F a (ns.map V.int) → Dt K F (.ref a) (.dict [(.none, .list (ns.map PyData.int))])
inductive DtAll (K : PySem.W.Frag) (F : Hp) : List V → List PyData → Prop
  | nil : DtAll K F [] []
  | cons {v : V} {vs : List V} {d : PyData} {ds : List PyData} : Dt K F v d → DtAll K F vs ds → DtAll K F (v :: vs) (d :: ds)
inductive DtKv (K : PySem.W.Frag) (F : Hp) : List (List Key × V) → List (PyData × PyData) → Prop
  | nil : DtKv K F [] []
  | cons {k : List Key} {v : V} {d : PyData} {ws : List (List Key × V)} {es : List (PyData × PyData)} : Dt K F v d → DtKv K F ws es → DtKv K F ((k, v) :: ws) ((.tuple (k.map keyD), d) :: es)
end

section
variable {K : PySem.W.Frag} {F F' H H' : Hp}
theorem rdM {a : Addr} {u : HO} (e : Same F F') (h : Rd F a u) : Rd F' a u := by
  rcases h with h | ⟨o, h⟩
  · exact .inl (e _ _ h)
  · exact .inr ⟨o, e _ _ h⟩
theorem sqLM {a : Addr} {xs : List V} (e : Same F F') (h : SqL K F a xs) : SqL K F' a xs := by
  rcases h with h | h
  · exact .inl (rdM e h)
  · exact .inr h
theorem sqTM {a : Addr} {xs : List V} (e : Same F F') (h : SqT K F a xs) : SqT K F' a xs := by
  rcases h with h | h
  · exact .inl (rdM e h)
  · exact .inr h
mutual
theorem Dt.mono (e : Same F F') : ∀ {d : PyData} {v : V}, Dt K F v d → Dt K F' v d
  | _, _, .non => .non
  | _, _, .bl b => .bl b
  | _, _, .int i => .int i
  | _, _, .str x => .str x
  | .list ds, _, .lst h1 h2 => .lst (e _ _ h1) (DtAll.mono e h2)
  | .tuple ds, _, .tup h1 h2 => .tup (e _ _ h1) (DtAll.mono e h2)
  | .dict es, _, .dctT h1 h2 => .dctT (e _ _ h1) (DtKv.mono e h2)
  | _, _, .dct0 h => .dct0 (e _ _ h)
  | _, _, .scr h => .scr (sqLM e h)
theorem DtAll.mono (e : Same F F') : ∀ {ds : List PyData} {vs : List V}, DtAll K F vs ds → DtAll K F' vs ds
  | _, _, .nil => .nil
  | _ :: _, _, .cons h1 h2 => .cons (Dt.mono e h1) (DtAll.mono e h2)
theorem DtKv.mono (e : Same F F') : ∀ {es : List (PyData × PyData)} {ws : List (List Key × V)}, DtKv K F ws es → DtKv K F' ws es
  | _, _, .nil => .nil
  | _ :: _, _, .cons h1 h2 => .cons (Dt.mono e h1) (DtKv.mono e h2)
end
theorem tupS {a : Addr} {xs : List V} (h : F a = some (.tup xs)) : SqT K F a xs := .inl (.inl h)
theorem DtAll.len : ∀ {ds : List PyData} {vs : List V}, DtAll K F vs ds → vs.length = ds.length
  | _, _, .nil => rfl
  | _ :: _, _, .cons _ h => congrArg Nat.succ (DtAll.len h)
theorem DtAll.get : ∀ {ds : List PyData} {vs : List V} {i : Nat} {d : PyData}, DtAll K F vs ds → ds[i]? = some d → ∃ v, vs[i]? = some v ∧ Dt K F v d
  | _, _, _, _, .nil, e => by simp at e
  | _ :: _, _, 0, _, .cons h _, e => by simp at e; subst e; exact ⟨_, rfl, h⟩
  | _ :: _, _, i + 1, _, .cons _ t, e => by
    obtain ⟨v, h1, h2⟩ := DtAll.get (i := i) t (by simpa using e)
    exact ⟨v, by simpa using h1, h2⟩
theorem DtAll.getV : ∀ {ds : List PyData} {vs : List V} {i : Nat} {v : V}, DtAll K F vs ds → vs[i]? = some v → ∃ d, ds[i]? = some d ∧ Dt K F v d
  | _, _, _, _, .nil, e => by simp at e
  | _ :: _, _, 0, _, .cons h _, e => by simp at e; subst e; exact ⟨_, rfl, h⟩
  | _ :: _, _, i + 1, _, .cons _ t, e => by
    obtain ⟨d, h1, h2⟩ := DtAll.getV (i := i) t (by simpa using e)
    exact ⟨d, by simpa using h1, h2⟩
theorem DtAll.app : ∀ {ds es : List PyData} {vs ws : List V}, DtAll K F vs ds → DtAll K F ws es → DtAll K F (vs ++ ws) (ds ++ es)
  | _, _, _, _, .nil, t => t
  | _ :: _, _, _, _, .cons h r, t => .cons h (DtAll.app r t)
theorem DtAll.one {v : V} {d : PyData} (h : Dt K F v d) : DtAll K F [v] [d] := .cons h .nil
theorem DtAll.set {v : V} {d : PyData} (h : Dt K F v d) : ∀ {ds : List PyData} {vs : List V} (i : Nat), DtAll K F vs ds → DtAll K F (vs.set i v) (ds.set i d)
  | _, _, _, .nil => .nil
  | _ :: _, _, 0, .cons _ t => .cons h t
  | _ :: _, _, i + 1, .cons q t => .cons q (DtAll.set h i t)
theorem DtAll.take : ∀ {ds : List PyData} {vs : List V} (n : Nat), DtAll K F vs ds → DtAll K F (vs.take n) (ds.take n)
  | _, _, 0, _ => .nil
  | _, _, _ + 1, .nil => .nil
  | _ :: _, _, n + 1, .cons r t => .cons r (DtAll.take n t)
theorem DtAll.drop : ∀ {ds : List PyData} {vs : List V} (n : Nat), DtAll K F vs ds → DtAll K F (vs.drop n) (ds.drop n)
  | _, _, 0, r => r
  | _, _, _ + 1, .nil => .nil
  | _ :: _, _, n + 1, .cons _ t => DtAll.drop n t
theorem DtAll.rev : ∀ {ds : List PyData} {vs : List V}, DtAll K F vs ds → DtAll K F vs.reverse ds.reverse
  | _, _, .nil => .nil
  | _ :: _, _, .cons h t => by
    rw [List.reverse_cons, List.reverse_cons]
    exact (DtAll.rev t).app (.one h)
theorem DtAll.erase : ∀ {ds : List PyData} {vs : List V} (n : Nat), DtAll K F vs ds → DtAll K F (vs.eraseIdx n) (ds.eraseIdx n)
  | _, _, _, .nil => .nil
  | _ :: _, _, 0, .cons _ t => t
  | _ :: _, _, n + 1, .cons h t => .cons h (DtAll.erase n t)
theorem DtAll.rep : ∀ {ds : List PyData} {vs : List V} (n : Nat), DtAll K F vs ds → DtAll K F (List.replicate n vs).flatten (List.replicate n ds).flatten
  | _, _, 0, _ => .nil
  | _, _, n + 1, h => by
    rw [List.replicate_succ, List.replicate_succ, List.flatten_cons, List.flatten_cons]
    exact h.app (DtAll.rep n h)
/-- no dict within -/
def noDict : PyData → Bool := fun d => d.canLay0
mutual
theorem Dt.dp : ∀ {d : PyData} {v : V}, Dt K F v d → d.canLay0 = true → Dp K F v d
  | _, _, .non, _ => .non
  | _, _, .bl b, _ => .bl b
  | _, _, .int i, _ => .int i
  | _, _, .str x, _ => .str x
  | .list ds, _, .lst h1 h2, h => .lst (.of h1) (DtAll.dp h2 (by simpa [PyData.canLay0] using h))
  | .tuple ds, _, .tup h1 h2, h => .tup (tupS h1) (DtAll.dp h2 (by simpa [PyData.canLay0] using h))
  | _, _, .dctT _ _, h => by simp [PyData.canLay0] at h
  | _, _, .dct0 _, h => by simp [PyData.canLay0] at h
  | _, _, .scr _, h => by simp [PyData.canLay0] at h
theorem DtAll.dp : ∀ {ds : List PyData} {vs : List V}, DtAll K F vs ds → PyData.canLayAll0 ds = true → DpAll K F vs ds
  | _, _, .nil, _ => .nil
  | d :: ds, _, .cons h1 h2, h => by
    have z : d.canLay0 = true ∧ PyData.canLayAll0 ds = true := by simpa [PyData.canLayAll0] using h
    exact .cons (Dt.dp h1 z.1) (DtAll.dp h2 z.2)
end
end
end VL

namespace VL
open PySem PySem.Spec PyProof.Rows L2

/-- the state of the law's drawn numbers -/
structure DS where
  cells : List Int
  great : List Int
  spot : Int
/-- what a slot holds: frozen data; a list of its own; a dict of its own; the drawing state -/
inductive VB where
  | dat (d : PyData)
  | own (ds : List PyData)
  | dk (kvs : List (Key × PyData))
  | dt (kvs : List (List Key × PyData))
  | drw
def VB.isDat : VB → Bool
  | .dat _ => true
  | .drw => true
  | _ => false
structure Sx where
  g : List (Option VB)
  m : DS
/-- what an expression gives: frozen data; a new list, a new dict; the thing of an own slot -/
inductive RV where
  | dat (d : PyData)
  | tmp (ds : List PyData)
  | tk (kvs : List (Key × PyData))
  | tt (kvs : List (List Key × PyData))
  | slot (i : Nat)
/-- an end -/
inductive Out (α : Type) where
  | ok (a : α) (s : Sx)
  | exc (c : Nat) (fs : List PyData) (s : Sx)
  | bad
def Out.bind {α β : Type} (o : Out α) (f : α → Sx → Out β) : Out β :=
  match o with
  | .ok a s => f a s
  | .exc c fs s => .exc c fs s
  | .bad => .bad

/-- the static context of a body: K; the frozen part and the heap at the entry; the drawing dict; what is wanted of an exception -/
structure Ct (K : PySem.W.Frag) where
  F0 : Hp
  H0 : Hp
  dr : Option Addr
  dc : Addr
  dg : Addr
  xw : Nat → List PyData → Sx → L2.St → (Addr → Option Nat) → Hp → Hp → Prop

abbrev Ow := Addr → Option Nat
def updO (O : Ow) (p : Addr) (x : Option Nat) : Ow := fun q => if q = p then x else O q
theorem updO_same {O : Ow} {p : Addr} {x : Option Nat} : updO O p x p = x := by unfold updO; rw [if_pos rfl]
theorem updO_ne {O : Ow} {p q : Addr} {x : Option Nat} (h : q ≠ p) : updO O p x q = O q := by unfold updO; rw [if_neg h]

def KvOk {κ : Type} (K : PySem.W.Frag) (F : Hp) : List (κ × V) → List (κ × PyData) → Prop := Paired fun p q => p.1 = q.1 ∧ Dt K F p.2 q.2

def BOk {K : PySem.W.Frag} (C : Ct K) (O : Ow) (F H : Hp) (i : Nat) (b : VB) (v : V) : Prop :=
  match b with
  | .dat d => Dt K F v d
  | .own ds => ∃ p vs, v = .ref p ∧ O p = some (i + 2) ∧ H p = some (.lst vs) ∧ DtAll K F vs ds
  | .dk kvs => ∃ p ws, v = .ref p ∧ O p = some (i + 2) ∧ H p = some (.dK ws) ∧ KvOk K F ws kvs
  | .dt kvs => ∃ p ws, v = .ref p ∧ O p = some (i + 2) ∧ H p = some (.dT ws) ∧ KvOk K F ws kvs
  | .drw => ∃ p, v = .ref p ∧ C.dr = some p

def mKvs (pc pg : Addr) (n : Int) : List (Key × V) := [(.inr "cells", .ref pc), (.inr "great", .ref pg), (.inr "spot", .int n)]
def DrOk {K : PySem.W.Frag} (C : Ct K) (O : Ow) (F H : Hp) (m : DS) : Prop := ∀ pm, C.dr = some pm → ∃ pc pg, O pm = some 0 ∧ (O pg = some 1 ∧ pc = C.dc ∧ pg = C.dg) ∧ H pm = some (.dK (mKvs pc pg m.spot)) ∧
  H pg = some (.lst (m.great.map V.int)) ∧ SqL K F pc (m.cells.map V.int)

/-- all tuples are frozen -/
def Tp (F H : Hp) : Prop := ∀ a xs, H a = some (.tup xs) → F a = some (.tup xs)
structure VS {K : PySem.W.Frag} (C : Ct K) (O : Ow) (F : Hp) (s : Sx) (σ : L2.St) (H : Hp) : Prop where
  len : σ.length = s.g.length
  fh : Same F H
  hh : Same C.H0 H
  ff : Same C.F0 F
  nw : ∀ a o, F a = some o → C.F0 a = none → C.H0 a = none
  ow : ∀ p i, O p = some i → F p = none ∧ C.H0 p = none ∧ H p ≠ none
  pl : ∀ i b, s.g[i]? = some (some b) → ∃ v, σ[i]? = some (some v) ∧ BOk C O F H i b v
  dr : DrOk C O F H s.m
  tp : Tp F H

/-- how one comes from a state to a later one -/
structure Tr (O : Ow) (F H : Hp) (O' : Ow) (F' H' : Hp) : Prop where
  ff : Same F F'
  kp : ∀ p o, H p = some o → O p = none → H' p = some o
  hs : ∀ p, H p ≠ none → H' p ≠ none
  nf : ∀ a o, F' a = some o → F a = some o ∨ H a = none ∨ O a ≠ none
  no : ∀ p i, O' p = some i → O p ≠ none ∨ H p = none

section
variable {K : PySem.W.Frag} {C : Ct K} {O O' O'' : Ow} {F F' F'' H H' H'' : Hp} {s s' : Sx} {σ σ' : L2.St}
theorem Tr.refl : Tr O F H O F H := ⟨Same.refl _, fun _ _ h _ => h, fun _ h => h, fun _ _ h => .inl h, fun p i h => .inl (by rw [h]; exact fun z => nomatch z)⟩
theorem Tr.trans (a : Tr O F H O' F' H') (b : Tr O' F' H' O'' F'' H'') : Tr O F H O'' F'' H'' := by
  have ho : ∀ p o, H p = some o → O p = none → O' p = none := fun p o h1 h2 => by
    cases q : O' p with
    | none => rfl
    | some i =>
      rcases a.no p i q with z | z
      · exact absurd h2 z
      · rw [z] at h1; cases h1
  refine ⟨a.ff.trans b.ff, fun p o h1 h2 => b.kp p o (a.kp p o h1 h2) (ho p o h1 h2), fun p h => b.hs p (a.hs p h), fun x o h => ?_, fun p i h => ?_⟩
  · rcases b.nf x o h with z | z | z
    · exact a.nf x o z
    · refine .inr (.inl ?_)
      cases q : H x with
      | none => rfl
      | some u => exact absurd z (a.hs x (by rw [q]; exact fun z => nomatch z))
    · cases q : O' x with
      | none => exact absurd q z
      | some i =>
        rcases a.no x i q with z | z
        · exact .inr (.inr z)
        · exact .inr (.inl z)
  · rcases b.no p i h with z | z
    · cases q : O' p with
      | none => exact absurd q z
      | some j => exact a.no p j q
    · refine .inr ?_
      cases q : H p with
      | none => rfl
      | some u => exact absurd z (a.hs p (by rw [q]; exact fun z => nomatch z))

theorem KvOk.mono {κ : Type} (e : Same F F') {ws : List (κ × V)} {kvs : List (κ × PyData)} (h : KvOk K F ws kvs) : KvOk K F' ws kvs :=
  Paired.mapP h fun _ _ z => ⟨z.1, z.2.mono e⟩
/-- the heap grows: frozen things come new -/
theorem VS.grow (v : VS C O F s σ H) (h1 : Same H H') (h2 : Same F F') (h3 : Same F' H') (h4 : ∀ a o, F' a = some o → F a = some o ∨ H a = none) (h5 : Tp F' H') :
    VS C O F' s σ H' ∧ Tr O F H O F' H' := by
  have hne : ∀ p, H p ≠ none → H' p ≠ none := fun p h => by
    cases q : H p with
    | none => exact absurd q h
    | some o => rw [h1 _ _ q]; exact fun z => nomatch z
  refine ⟨⟨v.len, h3, v.hh.trans h1, v.ff.trans h2, fun a o e e0 => ?_, fun p i e => ?_, fun i b e => ?_, fun pm e => ?_, h5⟩, ⟨h2, fun p o e _ => h1 p o e, hne, fun a o e => ?_, fun p i e => .inl (by rw [e]; exact fun z => nomatch z)⟩⟩
  · rcases h4 a o e with z | z
    · exact v.nw a o z e0
    · exact v.hh.free z
  · obtain ⟨a1, a2, a3⟩ := v.ow p i e
    refine ⟨?_, a2, hne p a3⟩
    cases q : F' p with
    | none => rfl
    | some o =>
      rcases h4 p o q with z | z
      · rw [a1] at z; cases z
      · exact absurd z a3
  · obtain ⟨x, e1, e2⟩ := v.pl i b e
    refine ⟨x, e1, ?_⟩
    cases b with
    | dat d => exact Dt.mono h2 e2
    | own ds => obtain ⟨p, vs, a1, a2, a3, a4⟩ := e2; exact ⟨p, vs, a1, a2, h1 _ _ a3, a4.mono h2⟩
    | dk kvs => obtain ⟨p, vs, a1, a2, a3, a4⟩ := e2; exact ⟨p, vs, a1, a2, h1 _ _ a3, a4.mono h2⟩
    | dt kvs => obtain ⟨p, vs, a1, a2, a3, a4⟩ := e2; exact ⟨p, vs, a1, a2, h1 _ _ a3, a4.mono h2⟩
    | drw => exact e2
  · obtain ⟨pc, pg, a1, a2, a3, a4, a5⟩ := v.dr pm e
    exact ⟨pc, pg, a1, a2, h1 _ _ a3, h1 _ _ a4, h2.seq a5⟩
  · rcases h4 a o e with z | z
    · exact .inl z
    · exact .inr (.inl z)
theorem same_upd {H : Hp} {p : Addr} {o : HO} (h : H p = none) : Same H (upd H p o) := fun b x e => by
  rw [upd_ne (ne_of_none e h)]
  exact e
/-- a new frozen thing -/
theorem VS.laid (v : VS C O F s σ H) {p : Addr} (o : HO) (hp : H p = none) : VS C O (upd F p o) s σ (upd H p o) ∧ Tr O F H O (upd F p o) (upd H p o) := by
  have fp : F p = none := v.fh.free hp
  refine v.grow (same_upd hp) (same_upd fp) (fun b u e => ?_) (fun a u e => ?_) (fun a xs e => ?_)
  · by_cases hb : b = p
    · subst hb; rw [upd_same] at e ⊢; exact e
    · rw [upd_ne hb] at e ⊢; exact v.fh _ _ e
  · by_cases hb : a = p
    · subst hb; exact .inr hp
    · rw [upd_ne hb] at e; exact .inl e
  · by_cases hb : a = p
    · subst hb; rw [upd_same] at e ⊢; exact e
    · rw [upd_ne hb] at e ⊢; exact v.tp _ _ e
/-- a new thing that is not frozen -/
theorem VS.fresh (v : VS C O F s σ H) {p : Addr} (o : HO) (hp : H p = none) (ho : ∀ xs, o ≠ .tup xs := by intro _ z; cases z) : VS C O F s σ (upd H p o) ∧ Tr O F H O F (upd H p o) :=
  v.grow (same_upd hp) (Same.refl _) (v.fh.trans (same_upd hp)) (fun _ _ e => .inl e) fun a xs e => by
    by_cases hb : a = p
    · subst hb; rw [upd_same] at e; exact absurd (Option.some.inj e) (ho xs)
    · rw [upd_ne hb] at e; exact v.tp _ _ e
theorem VS.ofree (v : VS C O F s σ H) {p : Addr} (hp : H p = none) : O p = none := by
  cases q : O p with
  | none => rfl
  | some i => exact absurd hp (v.ow p i q).2.2
/-- a thing that is neither frozen nor owned is changed -/
theorem VS.wtmp (v : VS C O F s σ H) {p : Addr} {o u : HO} (e : H p = some u) (hf : F p = none) (h0 : C.H0 p = none) (ho : O p = none) (hot : ∀ xs, o ≠ .tup xs := by intro _ z; cases z) : VS C O F s σ (upd H p o) := by
  have ne : ∀ q, q ≠ p → (upd H p o) q = H q := fun q h => upd_ne h
  have nep : ∀ q i, O q = some i → q ≠ p := fun q i h z => by subst z; rw [ho] at h; cases h
  refine ⟨v.len, fun b x h => ?_, fun b x h => ?_, v.ff, v.nw, fun q i h => ?_, fun i b h => ?_, fun pm h => ?_, fun a xs e => ?_⟩
  · rw [ne b (fun z => by subst z; rw [hf] at h; cases h)]; exact v.fh _ _ h
  · rw [ne b (fun z => by subst z; rw [h0] at h; cases h)]; exact v.hh _ _ h
  · obtain ⟨a1, a2, a3⟩ := v.ow q i h
    exact ⟨a1, a2, by rw [ne q (nep q i h)]; exact a3⟩
  · obtain ⟨x, e1, e2⟩ := v.pl i b h
    refine ⟨x, e1, ?_⟩
    cases b with
    | dat d => exact e2
    | own ds => obtain ⟨q, vs, a1, a2, a3, a4⟩ := e2; exact ⟨q, vs, a1, a2, by rw [ne q (nep q _ a2)]; exact a3, a4⟩
    | dk kvs => obtain ⟨q, vs, a1, a2, a3, a4⟩ := e2; exact ⟨q, vs, a1, a2, by rw [ne q (nep q _ a2)]; exact a3, a4⟩
    | dt kvs => obtain ⟨q, vs, a1, a2, a3, a4⟩ := e2; exact ⟨q, vs, a1, a2, by rw [ne q (nep q _ a2)]; exact a3, a4⟩
    | drw => exact e2
  · obtain ⟨pc, pg, a1, a2, a3, a4, a5⟩ := v.dr pm h
    exact ⟨pc, pg, a1, a2, by rw [ne pm (nep pm _ a1)]; exact a3, by rw [ne pg (nep pg _ a2.1)]; exact a4, a5⟩
  · by_cases hb : a = p
    · subst hb; rw [upd_same] at e; exact absurd (Option.some.inj e) (hot xs)
    · rw [ne a hb] at e; exact v.tp _ _ e
/-- a slot is set to frozen data -/
theorem VS.setD (v : VS C O F s σ H) {i : Nat} {x : V} {d : PyData} (h : Dt K F x d) : VS C O F { s with g := s.g.set i (some (.dat d)) } (σ.set i (some x)) H := by
  refine ⟨by simp [v.len], v.fh, v.hh, v.ff, v.nw, v.ow, fun j b e => ?_, v.dr, v.tp⟩
  by_cases hj : j = i
  · subst hj
    by_cases hl : j < s.g.length
    · have e : (s.g.set j (some (.dat d)))[j]? = some (some b) := e
      rw [List.getElem?_set_self hl] at e
      cases e
      exact ⟨x, by rw [List.getElem?_set_self (by rw [v.len]; exact hl)], h⟩
    · have e : (s.g.set j (some (.dat d)))[j]? = some (some b) := e
      rw [List.getElem?_eq_none (by simpa using hl)] at e; cases e
  · have e : (s.g.set i (some (.dat d)))[j]? = some (some b) := e
    rw [List.getElem?_set_ne (Ne.symm hj)] at e
    obtain ⟨y, e1, e2⟩ := v.pl j b e
    exact ⟨y, by rw [List.getElem?_set_ne (Ne.symm hj)]; exact e1, e2⟩
/-- slots forgotten -/
theorem VS.weak (v : VS C O F s σ H) {g' : List (Option VB)} {τ : L2.St} (hl : g'.length = s.g.length) (ht : τ.length = σ.length) (h : ∀ (i : Nat) (b : VB), g'[i]? = some (some b) → s.g[i]? = some (some b) ∧ (∀ x, σ[i]? = some (some x) → τ[i]? = some (some x))) :
    VS C O F { s with g := g' } τ H :=
  ⟨by show τ.length = g'.length; rw [ht, hl, v.len], v.fh, v.hh, v.ff, v.nw, v.ow, fun i b e => by
    obtain ⟨e1, e2⟩ := h i b e
    obtain ⟨x, q1, q2⟩ := v.pl i b e1
    exact ⟨x, e2 x q1, q2⟩, v.dr, v.tp⟩
/-- the frozen part, with all new tuples -/
def fz (F H H' : Hp) : Hp := fun a => match H a with
  | some _ => F a
  | none => (match H' a with
    | some (.tup xs) => some (.tup xs)
    | _ => none)
theorem fz_old {a : Addr} (h : H a ≠ none) : fz F H H' a = F a := by
  unfold fz
  cases q : H a with
  | none => exact absurd q h
  | some o => rfl
theorem fz_new {a : Addr} {xs : List V} (h : H a = none) (e : H' a = some (.tup xs)) : fz F H H' a = some (.tup xs) := by
  unfold fz
  rw [h, e]
theorem fz_cases {a : Addr} {o : HO} (e : fz F H H' a = some o) : (H a ≠ none ∧ F a = some o) ∨ (H a = none ∧ ∃ xs, o = .tup xs ∧ H' a = some o) := by
  unfold fz at e
  cases q : H a with
  | some u => rw [q] at e; exact .inl ⟨(fun z => nomatch z), e⟩
  | none =>
    rw [q] at e
    simp only at e
    split at e
    · rename_i xs z
      cases e
      exact .inr ⟨rfl, xs, rfl, z⟩
    · cases e
theorem fz_same (h : Same F H) : Same F (fz F H H') := fun a o e => by
  rw [fz_old (by rw [h _ _ e]; exact fun z => nomatch z)]
  exact e
/-- the heap grows by things that are not looked at -/
theorem VS.growT (v : VS C O F s σ H) (h1 : Same H H') : VS C O (fz F H H') s σ H' ∧ Tr O F H O (fz F H H') H' := by
  refine v.grow h1 (fz_same v.fh) (fun a o e => ?_) (fun a o e => ?_) (fun a xs e => ?_)
  · rcases fz_cases e with ⟨_, z⟩ | ⟨_, _, _, z⟩
    · exact h1 _ _ (v.fh _ _ z)
    · exact z
  · rcases fz_cases e with ⟨_, z⟩ | ⟨z, _⟩
    · exact .inl z
    · exact .inr z
  · cases q : H a with
    | none => exact fz_new q e
    | some u =>
      have := h1 _ _ q
      rw [e] at this
      cases this
      rw [fz_old (by rw [q]; exact fun z => nomatch z)]
      exact v.tp _ _ q
end
end VL

namespace VL
open PySem PySem.Spec PyProof.Rows L2

def RVok {K : PySem.W.Frag} (C : Ct K) (O : Ow) (F H : Hp) (σ : L2.St) (r : RV) (v : V) : Prop :=
  match r with
  | .dat d => Dt K F v d
  | .tmp ds => ∃ p vs, v = .ref p ∧ H p = some (.lst vs) ∧ F p = none ∧ C.H0 p = none ∧ O p = none ∧ DtAll K F vs ds
  | .tk kvs => ∃ p ws, v = .ref p ∧ H p = some (.dK ws) ∧ F p = none ∧ C.H0 p = none ∧ O p = none ∧ KvOk K F ws kvs
  | .tt kvs => ∃ p ws, v = .ref p ∧ H p = some (.dT ws) ∧ F p = none ∧ C.H0 p = none ∧ O p = none ∧ KvOk K F ws kvs
  | .slot i => σ[i]? = some (some v)
def RVs {K : PySem.W.Frag} (C : Ct K) (O : Ow) (F H : Hp) (σ : L2.St) : List RV → List V → Prop := Paired (RVok C O F H σ)

section
variable {K : PySem.W.Frag} {C : Ct K} {O O' O1 : Ow} {F F' F1 H H' H1 : Hp} {s s' : Sx} {σ : L2.St}
theorem Tr.tmp (t : Tr O F H O' F' H') {p : Addr} {o : HO} (h : H p = some o) (hf : F p = none) (ho : O p = none) : H' p = some o ∧ F' p = none ∧ O' p = none := by
  refine ⟨t.kp p o h ho, ?_, ?_⟩
  · cases q : F' p with
    | none => rfl
    | some u =>
      rcases t.nf p u q with z | z | z
      · rw [hf] at z; cases z
      · rw [z] at h; cases h
      · exact absurd ho z
  · cases q : O' p with
    | none => rfl
    | some i =>
      rcases t.no p i q with z | z
      · exact absurd ho z
      · rw [z] at h; cases h
theorem RVok.tr {r : RV} {v : V} (h : RVok C O F H σ r v) (t : Tr O F H O' F' H') : RVok C O' F' H' σ r v := by
  cases r with
  | dat d => exact Dt.mono t.ff h
  | tmp ds =>
    obtain ⟨p, vs, a1, a2, a3, a4, a5, a6⟩ := h
    obtain ⟨b1, b2, b3⟩ := t.tmp a2 a3 a5
    exact ⟨p, vs, a1, b1, b2, a4, b3, a6.mono t.ff⟩
  | tk kvs =>
    obtain ⟨p, vs, a1, a2, a3, a4, a5, a6⟩ := h
    obtain ⟨b1, b2, b3⟩ := t.tmp a2 a3 a5
    exact ⟨p, vs, a1, b1, b2, a4, b3, a6.mono t.ff⟩
  | tt kvs =>
    obtain ⟨p, vs, a1, a2, a3, a4, a5, a6⟩ := h
    obtain ⟨b1, b2, b3⟩ := t.tmp a2 a3 a5
    exact ⟨p, vs, a1, b1, b2, a4, b3, a6.mono t.ff⟩
  | slot i => exact h
theorem RVs.tr {rs : List RV} {vs : List V} (h : RVs C O F H σ rs vs) (t : Tr O F H O' F' H') : RVs C O' F' H' σ rs vs := Paired.mapP h fun _ _ z => RVok.tr z t

/-- a new thing is new since then -/
def RVf (O : Ow) (H : Hp) (r : RV) (v : V) : Prop :=
  match r with
  | .dat _ => True
  | .slot _ => True
  | _ => ∀ p, v = .ref p → H p = none ∨ O p ≠ none
theorem Tr.back (t : Tr O F H O1 F1 H1) {p : Addr} (h : H1 p = none ∨ O1 p ≠ none) : H p = none ∨ O p ≠ none := by
  rcases h with h | h
  · cases q : H p with
    | none => exact .inl rfl
    | some u => exact absurd h (t.hs p (by rw [q]; exact fun z => nomatch z))
  · cases q : O1 p with
    | none => exact absurd q h
    | some i => exact (t.no p i q).symm
theorem RVf.back {r : RV} {v : V} (h : RVf O1 H1 r v) (t : Tr O F H O1 F1 H1) : RVf O H r v := by
  cases r with
  | dat d => trivial
  | slot i => trivial
  | tmp ds => exact fun p e => t.back (h p e)
  | tk ds => exact fun p e => t.back (h p e)
  | tt ds => exact fun p e => t.back (h p e)
/-- what is wanted behind an end -/
def Rd0 {α : Type} {K : PySem.W.Frag} (C : Ct K) (σ : L2.St) (O : Ow) (F H : Hp) (o : Out α) (P : α → Sx → Ow → Hp → Hp → Prop) : Prop :=
  match o with
  | .ok a s' => ∀ O' F' H', VS C O' F' s' σ H' → Tr O F H O' F' H' → P a s' O' F' H'
  | .exc c fs s' => ∀ O' F' H', VS C O' F' s' σ H' → Tr O F H O' F' H' → C.xw c fs s' σ O' F' H'
  | .bad => False
theorem Rd0.tr {α : Type} {o : Out α} {P : α → Sx → Ow → Hp → Hp → Prop} (h : Rd0 C σ O F H o P) (t : Tr O F H O1 F1 H1) : Rd0 C σ O1 F1 H1 o P := by
  cases o with
  | ok a s' => exact fun O' F' H' v u => h O' F' H' v (t.trans u)
  | exc c fs s' => exact fun O' F' H' v u => h O' F' H' v (t.trans u)
  | bad => exact h
theorem Rd0.bind {α β : Type} {o : Out α} {k : α → Sx → Out β} {P : β → Sx → Ow → Hp → Hp → Prop} {P' : α → Sx → Ow → Hp → Hp → Prop} (h : Rd0 C σ O F H (o.bind k) P) (t : Tr O F H O1 F1 H1)
    (f : ∀ a s2 O2 F2 H2, VS C O2 F2 s2 σ H2 → Tr O1 F1 H1 O2 F2 H2 → Rd0 C σ O F H (k a s2) P → P' a s2 O2 F2 H2) : Rd0 C σ O1 F1 H1 o P' := by
  cases o with
  | ok a s' => exact fun O' F' H' v u => f a s' O' F' H' v u h
  | exc c fs s' => exact fun O' F' H' v u => h O' F' H' v (t.trans u)
  | bad => exact h
theorem Rd0.mp {α : Type} {o : Out α} {P P' : α → Sx → Ow → Hp → Hp → Prop} (h : Rd0 C σ O F H o P)
    (f : ∀ a s1 O1 F1 H1, VS C O1 F1 s1 σ H1 → Tr O F H O1 F1 H1 → P a s1 O1 F1 H1 → P' a s1 O1 F1 H1) : Rd0 C σ O F H o P' := by
  cases o with
  | ok a s' => exact fun O' F' H' v u => f a s' O' F' H' v u (h O' F' H' v u)
  | exc c fs s' => exact h
  | bad => exact h
theorem Rd0.here {α : Type} {a : α} {P : α → Sx → Ow → Hp → Hp → Prop} (h : Rd0 C σ O F H (.ok a s) P) (v : VS C O1 F1 s σ H1) (t : Tr O F H O1 F1 H1) : P a s O1 F1 H1 := h O1 F1 H1 v t

abbrev RdE {K : PySem.W.Frag} (C : Ct K) (σ : L2.St) (O : Ow) (F H : Hp) (o : Out RV) (Q : VK) : Prop := Rd0 C σ O F H o fun r _ O' F' H' => ∀ v, RVok C O' F' H' σ r v → RVf O H r v → Q v H'
abbrev RdA {K : PySem.W.Frag} (C : Ct K) (σ : L2.St) (O : Ow) (F H : Hp) (o : Out (List RV)) (Q : List V → Hp → Prop) : Prop := Rd0 C σ O F H o fun r _ O' F' H' => ∀ vs, RVs C O' F' H' σ r vs → Q vs H'
abbrev RdD {K : PySem.W.Frag} (C : Ct K) (σ : L2.St) (O : Ow) (F H : Hp) (o : Out PyData) (Q : VK) : Prop := Rd0 C σ O F H o fun d _ O' F' H' => ∀ v, Dt K F' v d → Q v H'
abbrev RdDs {K : PySem.W.Frag} (C : Ct K) (σ : L2.St) (O : Ow) (F H : Hp) (o : Out (List PyData)) (Q : List V → Hp → Prop) : Prop := Rd0 C σ O F H o fun d _ O' F' H' => ∀ v, DtAll K F' v d → Q v H'
abbrev RdT {K : PySem.W.Frag} (C : Ct K) (σ : L2.St) (O : Ow) (F H : Hp) (o : Out Bool) (Q : Bool → Hp → Prop) : Prop := Rd0 C σ O F H o fun b _ _ _ H' => Q b H'
end

abbrev DE := Sx → Out RV
abbrev DA := Sx → Out (List RV)
abbrev DT := Sx → Out Bool
abbrev DD := Sx → Out PyData
abbrev DDs := Sx → Out (List PyData)
def tE {K : PySem.W.Frag} (C : Ct K) (f : DE) : TE := fun σ H Q => ∃ O F s, VS C O F s σ H ∧ RdE C σ O F H (f s) Q
def tA {K : PySem.W.Frag} (C : Ct K) (f : DA) : TA := fun σ H Q => ∃ O F s, VS C O F s σ H ∧ RdA C σ O F H (f s) Q
def tT {K : PySem.W.Frag} (C : Ct K) (f : DT) : TT := fun σ H Q => ∃ O F s, VS C O F s σ H ∧ RdT C σ O F H (f s) Q
def tD {K : PySem.W.Frag} (C : Ct K) (f : DD) : TE := fun σ H Q => ∃ O F s, VS C O F s σ H ∧ RdD C σ O F H (f s) Q
def tDs {K : PySem.W.Frag} (C : Ct K) (f : DDs) : TA := fun σ H Q => ∃ O F s, VS C O F s σ H ∧ RdDs C σ O F H (f s) Q
structure VD (X : Cx) (C : Ct X.K) (e : Expr) (f : DD) : Prop where
  run : PE X e (tD C f)
structure VDs (X : Cx) (C : Ct X.K) (es : List Expr) (f : DDs) : Prop where
  run : PA X es (tDs C f)
structure VE (X : Cx) (C : Ct X.K) (e : Expr) (f : DE) : Prop where
  run : PE X e (tE C f)
structure VA (X : Cx) (C : Ct X.K) (es : List Expr) (f : DA) : Prop where
  run : PA X es (tA C f)
structure VT (X : Cx) (C : Ct X.K) (e : Expr) (f : DT) : Prop where
  run : PT X e (tT C f)
theorem peI {X : Cx} {e : Expr} {t t' : TE} (h : PE X e t) (f : ∀ σ H Q, t' σ H Q → t σ H Q) : PE X e t' := ⟨fun pins s σ H Q I q => h.run pins s σ H Q I (f σ H Q q)⟩
theorem paI {X : Cx} {e : List Expr} {t t' : TA} (h : PA X e t) (f : ∀ σ H Q, t' σ H Q → t σ H Q) : PA X e t' := ⟨fun pos pins s σ H Q I q => h.run pos pins s σ H Q I (f σ H Q q)⟩
theorem ptI {X : Cx} {e : Expr} {t t' : TT} (h : PT X e t) (f : ∀ σ H Q, t' σ H Q → t σ H Q) : PT X e t' := ⟨fun pins s σ H Q I q => h.run pins s σ H Q I (f σ H Q q)⟩

/-! ### what a thing is, read as data -/
def VB.data : VB → Option PyData
  | .dat d => some d
  | .own ds => some (.list ds)
  | _ => none
def RV.res (r : RV) (s : Sx) : Option PyData :=
  match r with
  | .dat d => some d
  | .tmp ds => some (.list ds)
  | .slot i => (s.g[i]?.getD none).bind VB.data
  | _ => none
/-- data that may be read: frozen, or a list whose items are frozen -/
def Bo (K : PySem.W.Frag) (F H : Hp) (v : V) (d : PyData) : Prop := Dt K F v d ∨ ∃ p vs ds, v = .ref p ∧ d = .list ds ∧ H p = some (.lst vs) ∧ DtAll K F vs ds
theorem Bo.dt {K : PySem.W.Frag} {F H : Hp} {v : V} {d : PyData} (h : Bo K F H v d) (e : Same F H) : Dt K H v d := by
  rcases h with h | ⟨p, vs, ds, rfl, rfl, h1, h2⟩
  · exact h.mono e
  · exact .lst h1 (h2.mono e)
/-- its items, if it is a list or a tuple -/
theorem Bo.list {K : PySem.W.Frag} {F H : Hp} {v : V} {ds : List PyData} (h : Bo K F H v (.list ds)) (e : Same F H) : ∃ p vs, v = .ref p ∧ H p = some (.lst vs) ∧ DtAll K F vs ds := by
  rcases h with h | ⟨p, vs, es, rfl, h0, h1, h2⟩
  · cases h with
    | lst h1 h2 => exact ⟨_, _, rfl, e _ _ h1, h2⟩
  · cases h0
    exact ⟨p, vs, rfl, h1, h2⟩
theorem Bo.tuple {K : PySem.W.Frag} {F H : Hp} {v : V} {ds : List PyData} (h : Bo K F H v (.tuple ds)) (e : Same F H) : ∃ p vs, v = .ref p ∧ SqT K H p vs ∧ DtAll K F vs ds := by
  rcases h with h | ⟨p, vs, es, rfl, h0, h1, h2⟩
  · cases h with
    | tup h1 h2 => exact ⟨_, _, rfl, tupS (e _ _ h1), h2⟩
  · cases h0
theorem Bo.tupF {K : PySem.W.Frag} {F H : Hp} {v : V} {ds : List PyData} (h : Bo K F H v (.tuple ds)) : Dt K F v (.tuple ds) := by
  rcases h with h | ⟨p, vs, es, rfl, h0, h1, h2⟩
  · exact h
  · cases h0
theorem Bo.int {K : PySem.W.Frag} {F H : Hp} {v : V} {i : Int} (h : Bo K F H v (.int i)) : v = .int i := by
  rcases h with h | ⟨p, vs, es, rfl, h0, h1, h2⟩
  · cases h; rfl
  · cases h0
theorem Bo.bl {K : PySem.W.Frag} {F H : Hp} {v : V} {i : Bool} (h : Bo K F H v (.bool i)) : v = .bl i := by
  rcases h with h | ⟨p, vs, es, rfl, h0, h1, h2⟩
  · cases h; rfl
  · cases h0
theorem Bo.str {K : PySem.W.Frag} {F H : Hp} {v : V} {i : Str} (h : Bo K F H v (.str i)) : v = .str i := by
  rcases h with h | ⟨p, vs, es, rfl, h0, h1, h2⟩
  · cases h; rfl
  · cases h0
theorem Bo.non {K : PySem.W.Frag} {F H : Hp} {v : V} (h : Bo K F H v .none) : v = .non := by
  rcases h with h | ⟨p, vs, es, rfl, h0, h1, h2⟩
  · cases h; rfl
  · cases h0
section
variable {K : PySem.W.Frag} {C : Ct K} {O O' : Ow} {F F' H H' : Hp} {s s' : Sx} {σ : L2.St}
theorem RVok.bo {r : RV} {x : V} {d : PyData} (h : RVok C O F H σ r x) (v : VS C O F s σ H) (e : r.res s = some d) : Bo K F H x d := by
  cases r with
  | dat d' => cases e; exact .inl h
  | tmp ds =>
    cases e
    obtain ⟨p, vs, a1, a2, a3, a4, a5, a6⟩ := h
    exact .inr ⟨p, vs, ds, a1, rfl, a2, a6⟩
  | tk kvs => cases e
  | tt kvs => cases e
  | slot i =>
    have e : (s.g[i]?.getD none).bind VB.data = some d := e
    cases q : s.g[i]? with
    | none => rw [q] at e; cases e
    | some ob =>
      cases ob with
      | none => rw [q] at e; cases e
      | some b =>
        rw [q] at e
        obtain ⟨y, e1, e2⟩ := v.pl i b q
        have h : σ[i]? = some (some x) := h
        rw [h] at e1
        cases e1
        cases b with
        | dat d' => cases e; exact .inl e2
        | own ds =>
          cases e
          obtain ⟨p, vs, a1, a2, a3, a4⟩ := e2
          exact .inr ⟨p, vs, ds, a1, rfl, a3, a4⟩
        | dk kvs => cases e
        | dt kvs => cases e
        | drw => cases e
end
/-! ### freezing -/
def frz (r : RV) (s : Sx) : Out PyData :=
  match r with
  | .dat d => .ok d s
  | .tmp ds => .ok (.list ds) s
  | .slot i =>
    match s.g[i]? with
    | some (some (.dat d)) => .ok d s
    | some (some (.own ds)) => .ok (.list ds) { s with g := s.g.set i (some (.dat (.list ds))) }
    | some (some (.dt kvs)) => .ok (.dict (encT kvs)) { s with g := s.g.set i (some (.dat (.dict (encT kvs)))) }
    | _ => .bad
  | .tk [] => .ok (.dict []) s
  | .tt kvs => .ok (.dict (encT kvs)) s
  | _ => .bad
section
variable {K : PySem.W.Frag} {C : Ct K} {O O1 : Ow} {F F1 H H1 : Hp} {s s' : Sx} {σ : L2.St}
theorem kvT {ws : List (List Key × V)} {kvs : List (List Key × PyData)} (h : KvOk K F ws kvs) : DtKv K F ws (encT kvs) := by
  induction h with
  | nil => exact .nil
  | @cons p q ps qs r t ih =>
    obtain ⟨pk, pv⟩ := p
    obtain ⟨qk, qd⟩ := q
    obtain ⟨e, r⟩ := r
    cases e
    exact .cons r ih
/-- a thing that is neither frozen nor owned, or that is owned no more, is frozen -/
theorem VS.freeze (v : VS C O1 F1 s σ H1) (t : Tr O F H O1 F1 H1) {p : Addr} {o : HO} {g' : List (Option VB)} (e : H1 p = some o) (hf : F1 p = none) (h0 : C.H0 p = none) (hn : H p = none ∨ O p ≠ none)
    (hl : g'.length = s.g.length) (hm : ∀ pm pg, C.dr = some pm → O1 pm = some 0 → O1 pg = some 1 → pm ≠ p ∧ pg ≠ p)
    (hg : ∀ (i : Nat) (b : VB), g'[i]? = some (some b) → (s.g[i]? = some (some b) ∧ O1 p ≠ some (i + 2)) ∨ ∃ d, b = .dat d ∧ ∃ x, σ[i]? = some (some x) ∧ Dt K (upd F1 p o) x d) :
    VS C (updO O1 p none) (upd F1 p o) { s with g := g' } σ H1 ∧ Tr O F H (updO O1 p none) (upd F1 p o) H1 := by
  have sf : Same F1 (upd F1 p o) := same_upd hf
  have oo : ∀ q i, updO O1 p none q = some i → q ≠ p ∧ O1 q = some i := fun q i h => by
    by_cases z : q = p
    · subst z; rw [updO_same] at h; cases h
    · rw [updO_ne z] at h; exact ⟨z, h⟩
  refine ⟨⟨by show σ.length = g'.length; rw [v.len, hl], fun b u h => ?_, v.hh, v.ff.trans sf, fun a u h h' => ?_, fun q i h => ?_, fun i b h => ?_, fun pm h => ?_, fun a xs h => ?_⟩, ⟨t.ff.trans sf, t.kp, t.hs, fun a u h => ?_, fun q i h => ?_⟩⟩
  · by_cases z : b = p
    · subst z; rw [upd_same] at h; rw [e]; exact h
    · rw [upd_ne z] at h; exact v.fh _ _ h
  · by_cases z : a = p
    · subst z; exact h0
    · rw [upd_ne z] at h; exact v.nw a u h h'
  · obtain ⟨z, h2⟩ := oo q i h
    obtain ⟨a1, a2, a3⟩ := v.ow q i h2
    exact ⟨by rw [upd_ne z]; exact a1, a2, a3⟩
  · rcases hg i b h with ⟨h2, h3⟩ | ⟨d, rfl, x, h2, h3⟩
    · obtain ⟨x, e1, e2⟩ := v.pl i b h2
      refine ⟨x, e1, ?_⟩
      cases b with
      | dat d => exact Dt.mono sf e2
      | own ds => obtain ⟨q, vs, a1, a2, a3, a4⟩ := e2; exact ⟨q, vs, a1, by rw [updO_ne (fun z => by subst z; exact h3 a2)]; exact a2, a3, a4.mono sf⟩
      | dk ds => obtain ⟨q, vs, a1, a2, a3, a4⟩ := e2; exact ⟨q, vs, a1, by rw [updO_ne (fun z => by subst z; exact h3 a2)]; exact a2, a3, KvOk.mono sf a4⟩
      | dt ds => obtain ⟨q, vs, a1, a2, a3, a4⟩ := e2; exact ⟨q, vs, a1, by rw [updO_ne (fun z => by subst z; exact h3 a2)]; exact a2, a3, KvOk.mono sf a4⟩
      | drw => exact e2
    · exact ⟨x, h2, h3⟩
  · obtain ⟨pc, pg, a1, a2, a3, a4, a5⟩ := v.dr pm h
    obtain ⟨z1, z2⟩ := hm pm pg h a1 a2.1
    exact ⟨pc, pg, by rw [updO_ne z1]; exact a1, by rw [updO_ne z2]; exact a2, a3, a4, sf.seq a5⟩
  · by_cases z : a = p
    · subst z; rw [upd_same]; rw [e] at h; exact h
    · rw [upd_ne z]; exact v.tp _ _ h
  · by_cases z : a = p
    · subst z; exact .inr hn
    · rw [upd_ne z] at h; exact t.nf a u h
  · exact t.no q i (oo q i h).2
theorem ownNe {O : Ow} {p q : Addr} {i j : Option Nat} (h : O p = i) (h' : O q = j) (n : i ≠ j) : q ≠ p := fun z => by
  subst z
  exact n (h.symm.trans h')
theorem frz_ok {r : RV} {v : V} {d : PyData} (h : RVok C O1 F1 H1 σ r v) (hf : RVf O H r v) (t : Tr O F H O1 F1 H1) (vs : VS C O1 F1 s σ H1) (e : frz r s = .ok d s') : ∃ O2 F2, VS C O2 F2 s' σ H1 ∧ Tr O F H O2 F2 H1 ∧ Dt K F2 v d := by
  cases r with
  | dat d' => cases e; exact ⟨O1, F1, vs, t, h⟩
  | tmp ds =>
    cases e
    obtain ⟨p, xs, rfl, a2, a3, a4, a5, a6⟩ := h
    obtain ⟨v2, t2⟩ := vs.freeze t (g' := s.g) a2 a3 a4 (hf p rfl) rfl (fun pm pg _ h1 h2 => ⟨ownNe a5 h1 (by exact fun z => nomatch z), ownNe a5 h2 (by exact fun z => nomatch z)⟩) (fun i b q => .inl ⟨q, by rw [a5]; exact fun z => nomatch z⟩)
    exact ⟨_, _, v2, t2, .lst upd_same (a6.mono (same_upd a3))⟩
  | tk ds =>
    cases ds with
    | nil =>
      cases e
      obtain ⟨p, xs, rfl, a2, a3, a4, a5, a6⟩ := h
      cases a6
      obtain ⟨v2, t2⟩ := vs.freeze t (g' := s.g) a2 a3 a4 (hf p rfl) rfl (fun pm pg _ h1 h2 => ⟨ownNe a5 h1 (by exact fun z => nomatch z), ownNe a5 h2 (by exact fun z => nomatch z)⟩) (fun i b q => .inl ⟨q, by rw [a5]; exact fun z => nomatch z⟩)
      exact ⟨_, _, v2, t2, .dct0 upd_same⟩
    | cons a b => cases e
  | tt ds =>
    cases e
    obtain ⟨p, xs, rfl, a2, a3, a4, a5, a6⟩ := h
    obtain ⟨v2, t2⟩ := vs.freeze t (g' := s.g) a2 a3 a4 (hf p rfl) rfl (fun pm pg _ h1 h2 => ⟨ownNe a5 h1 (by exact fun z => nomatch z), ownNe a5 h2 (by exact fun z => nomatch z)⟩) (fun i b q => .inl ⟨q, by rw [a5]; exact fun z => nomatch z⟩)
    exact ⟨_, _, v2, t2, .dctT upd_same (kvT (KvOk.mono (same_upd a3) a6))⟩
  | slot i =>
    unfold frz at e
    simp only at e
    cases q : s.g[i]? with
    | none => rw [q] at e; cases e
    | some ob =>
      cases ob with
      | none => rw [q] at e; cases e
      | some b =>
        rw [q] at e
        obtain ⟨y, e1, e2⟩ := vs.pl i b q
        have h : σ[i]? = some (some v) := h
        rw [h] at e1
        cases e1
        cases b with
        | dat d' => cases e; exact ⟨O1, F1, vs, t, e2⟩
        | own ds =>
          cases e
          obtain ⟨p, xs, rfl, a2, a3, a4⟩ := e2
          obtain ⟨b1, b2, b3⟩ := vs.ow p _ a2
          have hi : i < s.g.length := (List.getElem?_eq_some_iff.mp q).1
          obtain ⟨v2, t2⟩ := vs.freeze t (g' := s.g.set i (some (.dat (.list ds)))) a3 b1 b2 (by
            exact t.back (.inr (by rw [a2]; exact fun z => nomatch z))) (by simp) (fun pm pg _ h1 h2 => ⟨ownNe a2 h1 (by simp), ownNe a2 h2 (by simp)⟩) (fun j b q => by
            by_cases hj : j = i
            · subst hj
              rw [List.getElem?_set_self hi] at q
              cases q
              exact .inr ⟨_, rfl, _, h, .lst upd_same (a4.mono (same_upd b1))⟩
            · rw [List.getElem?_set_ne (Ne.symm hj)] at q
              exact .inl ⟨q, by rw [a2]; exact fun z => hj (by injection z with z; omega)⟩)
          exact ⟨_, _, v2, t2, .lst upd_same (a4.mono (same_upd b1))⟩
        | dk kvs => cases e
        | dt kvs =>
          cases e
          obtain ⟨p, xs, rfl, a2, a3, a4⟩ := e2
          obtain ⟨b1, b2, b3⟩ := vs.ow p _ a2
          have hi : i < s.g.length := (List.getElem?_eq_some_iff.mp q).1
          obtain ⟨v2, t2⟩ := vs.freeze t (g' := s.g.set i (some (.dat (.dict (encT kvs))))) a3 b1 b2 (by
            exact t.back (.inr (by rw [a2]; exact fun z => nomatch z))) (by simp) (fun pm pg _ h1 h2 => ⟨ownNe a2 h1 (by simp), ownNe a2 h2 (by simp)⟩) (fun j b q => by
            by_cases hj : j = i
            · subst hj
              rw [List.getElem?_set_self hi] at q
              cases q
              exact .inr ⟨_, rfl, _, h, .dctT upd_same (kvT (KvOk.mono (same_upd b1) a4))⟩
            · rw [List.getElem?_set_ne (Ne.symm hj)] at q
              exact .inl ⟨q, by rw [a2]; exact fun z => hj (by injection z with z; omega)⟩)
          exact ⟨_, _, v2, t2, .dctT upd_same (kvT (KvOk.mono (same_upd b1) a4))⟩
        | drw => cases e
def dFrz (f : DE) : DD := fun s => (f s).bind frz
end
theorem vd_of {X : Cx} {C : Ct X.K} {e : Expr} {f : DE} (h : VE X C e f) : VD X C e (dFrz f) := by
  refine ⟨peI h.run fun σ H Q ⟨O, F, s, v, q⟩ => ⟨O, F, s, v, Rd0.bind q Tr.refl fun r s1 O1 F1 H1 v1 t1 q1 x hx hf => ?_⟩⟩
  cases e : frz r s1 with
  | bad => rw [e] at q1; exact q1.elim
  | exc c fs s2 => 
    exfalso
    unfold frz at e
    split at e <;> try cases e
    split at e <;> cases e
  | ok d s2 =>
    rw [e] at q1
    obtain ⟨O2, F2, v2, t2, hd⟩ := frz_ok hx hf t1 v1 e
    exact q1 O2 F2 H1 v2 t2 x hd
end VL

namespace VL
open PySem PySem.Spec PyProof.Rows L2

section
variable {K : PySem.W.Frag} {C : Ct K} {O O1 : Ow} {F F1 H H1 : Hp} {s : Sx} {σ : L2.St} {Q : VK}
theorem RdE.dat {d : PyData} {v : V} (rd : RdE C σ O F H (.ok (.dat d) s) Q) (t0 : Tr O F H O1 F1 H1) (vs : VS C O1 F1 s σ H1) (h : Dt K F1 v d) : Q v H1 := rd O1 F1 H1 vs t0 v h trivial
theorem RdE.tmpNew {p : Addr} {xs : List V} {ds : List PyData} (rd : RdE C σ O F H (.ok (.tmp ds) s) Q) (t0 : Tr O F H O1 F1 H1) (vs : VS C O1 F1 s σ H1) (hp : H1 p = none) (h : DtAll K F1 xs ds) : Q (.ref p) (upd H1 p (.lst xs)) := by
  obtain ⟨v2, t⟩ := vs.fresh (.lst xs) hp
  exact rd _ _ _ v2 (t0.trans t) _ ⟨p, xs, rfl, upd_same, vs.fh.free hp, vs.hh.free hp, vs.ofree hp, h⟩ (fun q e => by cases e; exact t0.back (.inl hp))
theorem RdE.tupNew {p : Addr} {xs : List V} {ds : List PyData} (rd : RdE C σ O F H (.ok (.dat (.tuple ds)) s) Q) (t0 : Tr O F H O1 F1 H1) (vs : VS C O1 F1 s σ H1) (hp : H1 p = none) (h : DtAll K F1 xs ds) : Q (.ref p) (upd H1 p (.tup xs)) := by
  obtain ⟨v2, t⟩ := vs.laid (.tup xs) hp
  exact rd _ _ _ v2 (t0.trans t) _ (.tup upd_same (h.mono t.ff)) trivial
theorem RdE.dkNew {p : Addr} (rd : RdE C σ O F H (.ok (.tk []) s) Q) (t0 : Tr O F H O1 F1 H1) (vs : VS C O1 F1 s σ H1) (hp : H1 p = none) : Q (.ref p) (upd H1 p (.dK [])) := by
  obtain ⟨v2, t⟩ := vs.fresh (.dK []) hp
  exact rd _ _ _ v2 (t0.trans t) _ ⟨p, [], rfl, upd_same, vs.fh.free hp, vs.hh.free hp, vs.ofree hp, .nil⟩ (fun q e => by cases e; exact t0.back (.inl hp))
theorem RdE.dtNew {p : Addr} (rd : RdE C σ O F H (.ok (.tt []) s) Q) (t0 : Tr O F H O1 F1 H1) (vs : VS C O1 F1 s σ H1) (hp : H1 p = none) : Q (.ref p) (upd H1 p (.dT [])) := by
  obtain ⟨v2, t⟩ := vs.fresh (.dT []) hp
  exact rd _ _ _ v2 (t0.trans t) _ ⟨p, [], rfl, upd_same, vs.fh.free hp, vs.hh.free hp, vs.ofree hp, .nil⟩ (fun q e => by cases e; exact t0.back (.inl hp))
end

/-! ### names, constants -/
def dVar (i : Nat) : DE := fun s =>
  match s.g[i]? with
  | some (some (.dat d)) => .ok (.dat d) s
  | some (some _) => .ok (.slot i) s
  | _ => .bad
def dC (d : PyData) : DE := fun s => .ok (.dat d) s
section
variable {X : Cx} {C : Ct X.K} {pos : Pos}
theorem ve_var (i : Nat) {x : Str} (hN : X.N[i]? = some x := by rfl) (hv : Vis X.env.scope x := by first | exact Or.inl rfl | exact Or.inr (Or.inl rfl) | exact Or.inr (Or.inr rfl)) (hd : (x == ("__debug__" : Str)) = false := by decide)
    (hcd : (x == ("__classdict__" : Str)) = false := by decide) : VE X C (.Name x pos) (dVar i) := by
  refine ⟨peI (pe_var hN hv hd hcd) fun σ H Q ⟨O, F, s, v, h⟩ => ?_⟩
  unfold dVar at h
  cases q : s.g[i]? with
  | none => rw [q] at h; exact h.elim
  | some ob =>
    cases ob with
    | none => rw [q] at h; exact h.elim
    | some b =>
      obtain ⟨y, e1, e2⟩ := v.pl i b q
      rw [q] at h
      refine ⟨y, e1, ?_⟩
      cases b with
      | dat d => exact RdE.dat h Tr.refl v e2
      | own ds => exact h O F H v Tr.refl y e1 trivial
      | dk ds => exact h O F H v Tr.refl y e1 trivial
      | dt ds => exact h O F H v Tr.refl y e1 trivial
      | drw => exact h O F H v Tr.refl y e1 trivial
theorem ve_c {e : Expr} {v : V} {d : PyData} (h : PE X e (tC v)) (hd : ∀ F, Dt X.K F v d) : VE X C e (dC d) :=
  ⟨peI h fun σ H Q ⟨O, F, s, vs, q⟩ => RdE.dat q Tr.refl vs (hd F)⟩
theorem ve_int {i j} : VE X C (.Constant (.int i) j pos) (dC (.int i)) := ve_c pe_int fun _ => .int i
theorem ve_bl {b j} : VE X C (.Constant (.bool b) j pos) (dC (.bool b)) := ve_c pe_bl fun _ => .bl b
theorem ve_non {j} : VE X C (.Constant .none j pos) (dC .none) := ve_c pe_non fun _ => .non
theorem ve_str {x j} : VE X C (.Constant (.str x) j pos) (dC (.str x)) := ve_c pe_str fun _ => .str x
theorem ve_globI {x : Str} {i : Int} {t : Tok} (hm : X.mg x = some (.int i t)) (hg : Gl X x := by rfl) (hd : (x == ("__debug__" : Str)) = false := by decide) : VE X C (.Name x pos) (dC (.int i)) := ve_c (v := .int i) (pe_glob hg hm ⟨t, rfl⟩ hd) fun _ => .int i
theorem ve_globS {x : Str} {i : Str} {t : Tok} (hm : X.mg x = some (.str i t)) (hg : Gl X x := by rfl) (hd : (x == ("__debug__" : Str)) = false := by decide) : VE X C (.Name x pos) (dC (.str i)) := ve_c (v := .str i) (pe_glob hg hm ⟨t, rfl⟩ hd) fun _ => .str i
end

/-! ### operators by data -/
def fin2 (g : PyData → PyData → Option RV) (ra rb : RV) (s : Sx) : Out RV :=
  match ra.res s, rb.res s with
  | some d, some e => (match g d e with | some r => .ok r s | none => .bad)
  | _, _ => .bad
def fin1 (g : PyData → Option RV) (ra : RV) (s : Sx) : Out RV :=
  match ra.res s with
  | some d => (match g d with | some r => .ok r s | none => .bad)
  | _ => .bad
def rOp {K : PySem.W.Frag} (C : Ct K) (g : PyData → PyData → Option RV) : R2 := fun x y H Q => ∃ σ O0 F0 H0 O F s d e r, VS C O F s σ H ∧ Tr O0 F0 H0 O F H ∧ Bo K F H x d ∧ Bo K F H y e ∧ g d e = some r ∧ RdE C σ O0 F0 H0 (.ok r s) Q
def rUn {K : PySem.W.Frag} (C : Ct K) (g : PyData → Option RV) : V → Hp → VK → Prop := fun x H Q => ∃ σ O0 F0 H0 O F s d r, VS C O F s σ H ∧ Tr O0 F0 H0 O F H ∧ Bo K F H x d ∧ g d = some r ∧ RdE C σ O0 F0 H0 (.ok r s) Q
theorem fin2_ok {K : PySem.W.Frag} {C : Ct K} {O O0 : Ow} {F H F0 H0 : Hp} {s : Sx} {σ : L2.St} {Q : VK} {g : PyData → PyData → Option RV} {ra rb : RV} {x y : V} (h : RdE C σ O0 F0 H0 (fin2 g ra rb s) Q) (t : Tr O0 F0 H0 O F H) (v : VS C O F s σ H) (ha : RVok C O F H σ ra x) (hb : RVok C O F H σ rb y) : rOp C g x y H Q := by
  unfold fin2 at h
  cases e1 : ra.res s with
  | none => rw [e1] at h; exact h.elim
  | some d =>
    cases e2 : rb.res s with
    | none => rw [e1, e2] at h; exact h.elim
    | some e =>
      rw [e1, e2] at h
      simp only at h
      cases e3 : g d e with
      | none => rw [e3] at h; exact h.elim
      | some r =>
        rw [e3] at h
        exact ⟨σ, O0, F0, H0, O, F, s, d, e, r, v, t, ha.bo v e1, hb.bo v e2, e3, h⟩
theorem fin1_ok {K : PySem.W.Frag} {C : Ct K} {O O0 : Ow} {F H F0 H0 : Hp} {s : Sx} {σ : L2.St} {Q : VK} {g : PyData → Option RV} {ra : RV} {x : V} (h : RdE C σ O0 F0 H0 (fin1 g ra s) Q) (t : Tr O0 F0 H0 O F H) (v : VS C O F s σ H) (ha : RVok C O F H σ ra x) : rUn C g x H Q := by
  unfold fin1 at h
  cases e1 : ra.res s with
  | none => rw [e1] at h; exact h.elim
  | some d =>
    rw [e1] at h
    simp only at h
    cases e3 : g d with
    | none => rw [e3] at h; exact h.elim
    | some r =>
      rw [e3] at h
      exact ⟨σ, O0, F0, H0, O, F, s, d, r, v, t, ha.bo v e1, e3, h⟩
def dOp (g : PyData → PyData → Option RV) (fa fb : DE) : DE := fun s => (fa s).bind fun ra s1 => (fb s1).bind fun rb s2 => fin2 g ra rb s2
def dUn (g : PyData → Option RV) (fa : DE) : DE := fun s => (fa s).bind fun ra s1 => fin1 g ra s1
section
variable {X : Cx} {C : Ct X.K} {pos : Pos} {a b : Expr} {fa fb : DE}
theorem tOp_of {g : PyData → PyData → Option RV} {σ : L2.St} {H : Hp} {Q : VK} (h : tE C (dOp g fa fb) σ H Q) : tOp (rOp C g) (tE C fa) (tE C fb) σ H Q := by
  obtain ⟨O, F, s, v, h⟩ := h
  refine ⟨O, F, s, v, Rd0.bind h Tr.refl fun ra s1 O1 F1 H1 v1 t1 h1 x hx _ => ?_⟩
  refine ⟨O1, F1, s1, v1, Rd0.bind h1 t1 fun rb s2 O2 F2 H2 v2 t2 h2 y hy _ => ?_⟩
  exact fin2_ok h2 (t1.trans t2) v2 (hx.tr t2) hy
theorem ve_op {op : Operator} {g : PyData → PyData → Option RV} (ho : OpR X (binaryOp op) (rOp C g)) (ha : VE X C a fa) (hb : VE X C b fb) : VE X C (.BinOp a op b pos) (dOp g fa fb) :=
  ⟨peI (pe_op ho ha.run hb.run) fun _ _ _ h => tOp_of h⟩
theorem ve_cmp {op : CmpOp} {g : PyData → PyData → Option RV} (ho : OpR X (compareOp op) (rOp C g)) (ha : VE X C a fa) (hb : VE X C b fb) (hm : behindInMarks op b = false := by first | exact nobehind _ (by decide) (by decide) | rfl) : VE X C (.Compare a [op] [b] pos) (dOp g fa fb) :=
  ⟨peI (pe_cmpR ho ha.run hb.run hm) fun _ _ _ h => tOp_of h⟩
theorem ve_un {op : UnaryOp} {g : PyData → Option RV} (ho : UnR X (unaryOp op) (rUn C g)) (ha : VE X C a fa) : VE X C (.UnaryOp op a pos) (dUn g fa) :=
  ⟨peI (pe_un ho ha.run) fun σ H Q ⟨O, F, s, v, h⟩ => ⟨O, F, s, v, Rd0.bind h Tr.refl fun ra s1 O1 F1 H1 v1 t1 h1 x hx _ => fin1_ok h1 t1 v1 hx⟩⟩
end

/-! ### the operators -/
def int_ (i : Int) : RV := .dat (.int i)
def bl_ (b : Bool) : RV := .dat (.bool b)
def gAdd : PyData → PyData → Option RV
  | .int i, .int j => some (int_ (i + j))
  | .list xs, .list ys => if xs.length + ys.length ≤ sizeLine then some (.tmp (xs ++ ys)) else none
  | .tuple xs, .tuple ys => if xs.length + ys.length ≤ sizeLine then some (.dat (.tuple (xs ++ ys))) else none
  | .str x, .str y => if x.length + y.length ≤ sizeLine then some (.dat (.str (x ++ y))) else none
  | .int i, .bool j => some (int_ (i + b2i j))
  | _, _ => none
def gSub : PyData → PyData → Option RV
  | .int i, .int j => some (int_ (i - j))
  | _, _ => none
def mulOk (i j : Int) : Bool := (decide (-(2 ^ 64) < i) && decide (i < 2 ^ 64)) || (decide (-(2 ^ 64) < j) && decide (j < 2 ^ 64))
def gMul : PyData → PyData → Option RV
  | .int i, .int j => if mulOk i j = true then some (int_ (i * j)) else none
  | .list xs, .int k => if k ≤ 1000 ∧ -1000 ≤ k ∧ xs.length ≤ 1000 then some (.tmp (List.replicate k.toNat xs).flatten) else none
  | _, _ => none
def gDiv : PyData → PyData → Option RV
  | .int i, .int j => if 0 < j ∧ j < 1073741824 then some (int_ (i / j)) else none
  | _, _ => none
def gMod : PyData → PyData → Option RV
  | .int i, .int j => if 0 < j then some (int_ (i % j)) else none
  | _, _ => none
def gPow : PyData → PyData → Option RV
  | .int i, .int j => if 0 ≤ j ∧ j ≤ 1000 ∧ i.natAbs < 18446744073709551616 then some (int_ (i ^ j.toNat)) else none
  | _, _ => none
def gShl : PyData → PyData → Option RV
  | .int i, .int j => if 0 ≤ j ∧ j ≤ 1000 ∧ i.natAbs < 18446744073709551616 then some (int_ (i * 2 ^ j.toNat)) else none
  | _, _ => none
def gLt : PyData → PyData → Option RV
  | .int i, .int j => some (bl_ (decide (i < j)))
  | _, _ => none
def gLe : PyData → PyData → Option RV
  | .int i, .int j => some (bl_ (decide (i ≤ j)))
  | _, _ => none
def gGt : PyData → PyData → Option RV
  | .int i, .int j => some (bl_ (decide (j < i)))
  | _, _ => none
def gGe : PyData → PyData → Option RV
  | .int i, .int j => some (bl_ (decide (j ≤ i)))
  | _, _ => none
def gNeg : PyData → Option RV
  | .int i => some (int_ (-i))
  | _ => none
def gEq (d e : PyData) : Option RV :=
  match d, e with
  | .str x, .str y => some (bl_ (decide (x = y)))
  | d, e => if SeqAt.shaped d = true ∧ SeqAt.shaped e = true then some (bl_ (PyData.eqv d e)) else none
def gNe (d e : PyData) : Option RV :=
  match d, e with
  | .str x, .str y => some (bl_ (!decide (x = y)))
  | d, e => if SeqAt.shaped d = true ∧ SeqAt.shaped e = true then some (bl_ (!PyData.eqv d e)) else none
def isNone : PyData → Bool
  | .none => true
  | _ => false
def gIs (d e : PyData) : Option RV := if isNone e = true then some (bl_ (isNone d)) else none
def gIsNot (d e : PyData) : Option RV := if isNone e = true then some (bl_ (!isNone d)) else none

section
variable {X : Cx} {C : Ct X.K}
theorem o_sub : OpR X (binaryOp .Sub) (rOp C gSub) := by
  intro pins s σ H x y v u Q I rx ry ⟨σ', O0, F0, H0, O, F, st, d, e, r, vs, tr, b1, b2, hg, rd⟩
  unfold gSub at hg
  split at hg
  · cases hg
    exact op_sub pins s σ H x y v u Q I rx ry ⟨_, _, b1.int, b2.int, rd.dat tr vs (.int _)⟩
  · cases hg
theorem o_mul : OpR X (binaryOp .Mult) (rOp C gMul) := by
  intro pins s σ H x y v u Q I rx ry ⟨σ', O0, F0, H0, O, F, st, d, e, r, vs, tr, b1, b2, hg, rd⟩
  unfold gMul at hg
  split at hg
  · split at hg
    · cases hg
      rename_i i j hm
      unfold mulOk at hm
      simp only [Bool.or_eq_true, Bool.and_eq_true, decide_eq_true_eq] at hm
      exact op_mul pins s σ H x y v u Q I rx ry ⟨_, _, b1.int, b2.int, hm, rd.dat tr vs (.int _)⟩
    · cases hg
  · split at hg
    · cases hg
      rename_i ds k hm
      obtain ⟨p, xs, rfl, h1, d1⟩ := b1.list vs.fh
      have dl := d1.len
      have hz : xs.length * k.toNat ≤ sizeLine := by
        have a1 : xs.length * k.toNat ≤ 1000 * 1000 := Nat.mul_le_mul (by omega) (by omega)
        rw [sizeLine_eq]
        omega
      exact op_rep pins s σ H _ _ v u Q I rx ry ⟨p, k, xs, rfl, b2.int, h1, by omega, by omega, hz, fun p' hp => rd.tmpNew tr vs hp (d1.rep _)⟩
    · cases hg
  · cases hg
theorem o_div : OpR X (binaryOp .FloorDiv) (rOp C gDiv) := by
  intro pins s σ H x y v u Q I rx ry ⟨σ', O0, F0, H0, O, F, st, d, e, r, vs, tr, b1, b2, hg, rd⟩
  unfold gDiv at hg
  split at hg
  · split at hg
    · cases hg
      rename_i hm
      exact op_fdiv pins s σ H x y v u Q I rx ry ⟨_, _, b1.int, b2.int, hm, rd.dat tr vs (.int _)⟩
    · cases hg
  · cases hg
theorem o_mod : OpR X (binaryOp .Mod) (rOp C gMod) := by
  intro pins s σ H x y v u Q I rx ry ⟨σ', O0, F0, H0, O, F, st, d, e, r, vs, tr, b1, b2, hg, rd⟩
  unfold gMod at hg
  split at hg
  · split at hg
    · cases hg
      rename_i hm
      exact op_mod pins s σ H x y v u Q I rx ry ⟨_, _, b1.int, b2.int, hm, rd.dat tr vs (.int _)⟩
    · cases hg
  · cases hg
theorem o_pow : OpR X (binaryOp .Pow) (rOp C gPow) := by
  intro pins s σ H x y v u Q I rx ry ⟨σ', O0, F0, H0, O, F, st, d, e, r, vs, tr, b1, b2, hg, rd⟩
  unfold gPow at hg
  split at hg
  · split at hg
    · cases hg
      rename_i hm
      exact op_pow pins s σ H x y v u Q I rx ry ⟨_, _, b1.int, b2.int, ⟨hm.1, by omega, by omega⟩, rd.dat tr vs (.int _)⟩
    · cases hg
  · cases hg
theorem o_shl : OpR X (binaryOp .LShift) (rOp C gShl) := by
  intro pins s σ H x y v u Q I rx ry ⟨σ', O0, F0, H0, O, F, st, d, e, r, vs, tr, b1, b2, hg, rd⟩
  unfold gShl at hg
  split at hg
  · split at hg
    · cases hg
      rename_i hm
      exact op_shl pins s σ H x y v u Q I rx ry ⟨_, _, b1.int, b2.int, ⟨hm.1, by omega, by omega⟩, rd.dat tr vs (.int _)⟩
    · cases hg
  · cases hg
theorem o_lt : OpR X (compareOp .Lt) (rOp C gLt) := by
  intro pins s σ H x y v u Q I rx ry ⟨σ', O0, F0, H0, O, F, st, d, e, r, vs, tr, b1, b2, hg, rd⟩
  unfold gLt at hg
  split at hg
  · cases hg
    exact op_lt pins s σ H x y v u Q I rx ry ⟨_, _, b1.int, b2.int, rd.dat tr vs (.bl _)⟩
  · cases hg
theorem o_le : OpR X (compareOp .LtE) (rOp C gLe) := by
  intro pins s σ H x y v u Q I rx ry ⟨σ', O0, F0, H0, O, F, st, d, e, r, vs, tr, b1, b2, hg, rd⟩
  unfold gLe at hg
  split at hg
  · cases hg
    exact op_le pins s σ H x y v u Q I rx ry ⟨_, _, b1.int, b2.int, rd.dat tr vs (.bl _)⟩
  · cases hg
theorem o_gt : OpR X (compareOp .Gt) (rOp C gGt) := by
  intro pins s σ H x y v u Q I rx ry ⟨σ', O0, F0, H0, O, F, st, d, e, r, vs, tr, b1, b2, hg, rd⟩
  unfold gGt at hg
  split at hg
  · cases hg
    exact op_gt pins s σ H x y v u Q I rx ry ⟨_, _, b1.int, b2.int, rd.dat tr vs (.bl _)⟩
  · cases hg
theorem o_ge : OpR X (compareOp .GtE) (rOp C gGe) := by
  intro pins s σ H x y v u Q I rx ry ⟨σ', O0, F0, H0, O, F, st, d, e, r, vs, tr, b1, b2, hg, rd⟩
  unfold gGe at hg
  split at hg
  · cases hg
    exact op_ge pins s σ H x y v u Q I rx ry ⟨_, _, b1.int, b2.int, rd.dat tr vs (.bl _)⟩
  · cases hg
theorem o_neg : UnR X (unaryOp .USub) (rUn C gNeg) := by
  intro pins s σ H x v Q I rx ⟨σ', O0, F0, H0, O, F, st, d, r, vs, tr, b1, hg, rd⟩
  unfold gNeg at hg
  split at hg
  · cases hg
    exact un_neg pins s σ H x v Q I rx ⟨_, b1.int, rd.dat tr vs (.int _)⟩
  · cases hg
theorem dec_str' {x y : Str} : decide (V.str x = V.str y) = decide (x = y) := by
  rw [Bool.eq_iff_iff, decide_eq_true_eq, decide_eq_true_eq]
  exact ⟨fun h => V.str.inj h, fun h => by rw [h]⟩
theorem shaped_lay {d : PyData} (h : SeqAt.shaped d = true) : d.canLay0 = true := SeqAt.canLay_of_shaped h
theorem o_eq (hu : X.A.units + 64 < cLine) : OpR X (compareOp .Eq) (rOp C gEq) := by
  intro pins s σ H x y v u Q I rx ry ⟨σ', O0, F0, H0, O, F, st, d, e, r, vs, tr, b1, b2, hg, rd⟩
  unfold gEq at hg
  split at hg
  · cases hg
    obtain rfl := b1.str
    obtain rfl := b2.str
    refine op_eq pins s σ H _ _ v u Q I rx ry ⟨rfl, ?_⟩
    rw [dec_str']
    exact rd.dat tr vs (.bl _)
  split at hg
  · cases hg
    rename_i hs
    exact op_eqD hu pins s σ H x y v u Q I rx ry ⟨d, e, (b1.dt vs.fh).dp (shaped_lay hs.1), (b2.dt vs.fh).dp (shaped_lay hs.2), hs.1, hs.2, rd.dat tr vs (.bl _)⟩
  · cases hg
theorem o_ne (hu : X.A.units + 64 < cLine) : OpR X (compareOp .NotEq) (rOp C gNe) := by
  intro pins s σ H x y v u Q I rx ry ⟨σ', O0, F0, H0, O, F, st, d, e, r, vs, tr, b1, b2, hg, rd⟩
  unfold gNe at hg
  split at hg
  · cases hg
    obtain rfl := b1.str
    obtain rfl := b2.str
    refine op_ne pins s σ H _ _ v u Q I rx ry ⟨rfl, ?_⟩
    rw [dec_str']
    exact rd.dat tr vs (.bl _)
  split at hg
  · cases hg
    rename_i hs
    exact op_neD hu pins s σ H x y v u Q I rx ry ⟨d, e, (b1.dt vs.fh).dp (shaped_lay hs.1), (b2.dt vs.fh).dp (shaped_lay hs.2), hs.1, hs.2, rd.dat tr vs (.bl _)⟩
  · cases hg
theorem bo_none {F H : Hp} {x : V} {d : PyData} (h : Bo X.K F H x d) : decide (x = .non) = isNone d := by
  rcases h with h | ⟨p, vs, ds, rfl, rfl, _⟩
  · cases h <;> rfl
  · rfl
theorem o_is : OpR X (compareOp .Is) (rOp C gIs) := by
  intro pins s σ H x y v u Q I rx ry ⟨σ', O0, F0, H0, O, F, st, d, e, r, vs, tr, b1, b2, hg, rd⟩
  unfold gIs at hg
  split at hg
  · cases hg
    rename_i hn
    have ey : y = .non := of_decide_eq_true ((bo_none b2).trans hn)
    exact op_isN pins s σ H x y v u Q I rx ry ⟨ey, by rw [bo_none b1]; exact rd.dat tr vs (.bl _)⟩
  · cases hg
theorem o_isnot : OpR X (compareOp .IsNot) (rOp C gIsNot) := by
  intro pins s σ H x y v u Q I rx ry ⟨σ', O0, F0, H0, O, F, st, d, e, r, vs, tr, b1, b2, hg, rd⟩
  unfold gIsNot at hg
  split at hg
  · cases hg
    rename_i hn
    have ey : y = .non := of_decide_eq_true ((bo_none b2).trans hn)
    exact op_notN pins s σ H x y v u Q I rx ry ⟨ey, by rw [bo_none b1]; exact rd.dat tr vs (.bl _)⟩
  · cases hg
theorem o_add : OpR X (binaryOp .Add) (rOp C gAdd) := by
  intro pins s σ H x y v u Q I rx ry ⟨σ', O0, F0, H0, O, F, st, d, e, r, vs, tr, b1, b2, hg, rd⟩
  unfold gAdd at hg
  split at hg
  · cases hg
    exact op_add pins s σ H x y v u Q I rx ry ⟨_, _, b1.int, b2.int, rd.dat tr vs (.int _)⟩
  · split at hg
    · cases hg
      obtain ⟨p, xs, rfl, h1, d1⟩ := b1.list vs.fh
      obtain ⟨q, ys, rfl, h2, d2⟩ := b2.list vs.fh
      rename_i hz
      rw [← d1.len, ← d2.len] at hz
      exact op_cat pins s σ H _ _ v u Q I rx ry ⟨p, q, xs, ys, rfl, rfl, h1, h2, hz, fun p' hp => rd.tmpNew tr vs hp (d1.app d2)⟩
    · cases hg
  · split at hg
    · cases hg
      obtain ⟨p, xs, rfl, h1, d1⟩ := b1.tuple vs.fh
      obtain ⟨q, ys, rfl, h2, d2⟩ := b2.tuple vs.fh
      rename_i hz
      rw [← d1.len, ← d2.len] at hz
      refine op_catA pins s σ H _ _ v u Q I rx ry ⟨p, q, xs, ys, rfl, rfl, h1, h2, hz, fun e => ?_, fun _ e => ?_, fun _ _ p' hp => rd.tupNew tr vs hp (d1.app d2)⟩
      · subst e
        cases d1
        exact rd.dat tr vs (b2.tupF)
      · subst e
        cases d2
        rw [List.append_nil] at rd
        exact rd.dat tr vs (b1.tupF)
    · cases hg
  · split at hg
    · cases hg
      rename_i hz
      exact op_add_str pins s σ H x y v u Q I rx ry ⟨_, _, b1.str, b2.str, hz, rd.dat tr vs (.str _)⟩
    · cases hg
  · cases hg
    exact op_add_ib pins s σ H x y v u Q I rx ry ⟨_, _, b1.int, b2.bl, rd.dat tr vs (.int _)⟩
  · cases hg
end
end VL

namespace VL
open PySem PySem.Spec PyProof.Rows L2

/-! ### truth -/
def asB (r : RV) (s : Sx) : Out Bool :=
  match r.res s with
  | some (.bool b) => .ok b s
  | _ => .bad
def dTest (f : DE) : DT := fun s => (f s).bind asB
def dAnd (fa fb : DE) : DE := fun s => (fa s).bind fun r s1 => (asB r s1).bind fun b s2 => if b = true then fb s2 else .ok (bl_ false) s2
def dOr (fa fb : DE) : DE := fun s => (fa s).bind fun r s1 => (asB r s1).bind fun b s2 => if b = true then .ok (bl_ true) s2 else fb s2
def dNot (fa : DE) : DE := fun s => (fa s).bind fun r s1 => (asB r s1).bind fun b s2 => .ok (bl_ (!b)) s2
def tdAnd (fa fb : DT) : DT := fun s => (fa s).bind fun b s1 => if b = true then fb s1 else .ok false s1
def tdOr (fa fb : DT) : DT := fun s => (fa s).bind fun b s1 => if b = true then .ok true s1 else fb s1
def tdNot (fa : DT) : DT := fun s => (fa s).bind fun b s1 => .ok (!b) s1
def dIf (c : DT) (fa fb : DE) : DE := fun s => (c s).bind fun b s1 => if b = true then fa s1 else fb s1
theorem asB_ok {K : PySem.W.Frag} {C : Ct K} {O O1 : Ow} {F H F1 H1 : Hp} {s : Sx} {σ : L2.St} {α : Type} {k : Bool → Sx → Out α} {r : RV} {x : V} {P : α → Sx → Ow → Hp → Hp → Prop} (h : Rd0 C σ O F H ((asB r s).bind k) P) (v : VS C O1 F1 s σ H1) (hx : RVok C O1 F1 H1 σ r x) :
    ∃ b, x = .bl b ∧ Rd0 C σ O F H (k b s) P := by
  unfold asB at h
  cases e : r.res s with
  | none => rw [e] at h; exact h.elim
  | some d =>
    rw [e] at h
    have bo := hx.bo v e
    cases d with
    | bool b => exact ⟨b, bo.bl, h⟩
    | _ => exact h.elim
theorem asB_fin {K : PySem.W.Frag} {C : Ct K} {O O1 : Ow} {F H F1 H1 : Hp} {s : Sx} {σ : L2.St} {r : RV} {x : V} {P : Bool → Sx → Ow → Hp → Hp → Prop} (h : Rd0 C σ O F H (asB r s) P) (v : VS C O1 F1 s σ H1) (t : Tr O F H O1 F1 H1) (hx : RVok C O1 F1 H1 σ r x) :
    ∃ b, x = .bl b ∧ P b s O1 F1 H1 := by
  unfold asB at h
  cases e : r.res s with
  | none => rw [e] at h; exact h.elim
  | some d =>
    rw [e] at h
    have bo := hx.bo v e
    cases d with
    | bool b => exact ⟨b, bo.bl, h _ _ _ v t⟩
    | _ => exact h.elim
structure VW (X : Cx) (C : Ct X.K) (e : Expr) (f : DT) : Prop where
  run : PW X e (tT C f)
theorem pwI {X : Cx} {e : Expr} {t t' : TT} (h : PW X e t) (f : ∀ σ H Q, t' σ H Q → t σ H Q) : PW X e t' := ⟨fun w pins s σ H Q I q => h.run w pins s σ H Q I (f σ H Q q)⟩
section
variable {X : Cx} {C : Ct X.K} {pos : Pos} {a b c e : Expr} {rest : List Expr} {fa fb : DE} {ta tb tc : DT} {f : DE}
theorem tB_of {σ : L2.St} {H : Hp} {Q : Bool → Hp → Prop} (h : tT C (dTest f) σ H Q) : tB (tE C f) σ H Q := by
  obtain ⟨O, F, s, v, h⟩ := h
  refine ⟨O, F, s, v, Rd0.bind h Tr.refl fun r s1 O1 F1 H1 v1 t1 h1 x hx _ => ?_⟩
  obtain ⟨b, e, q⟩ := asB_fin h1 v1 t1 hx
  exact ⟨b, e, q⟩
theorem vt_val (h : VE X C e f) (he : ∀ whole, isTrue e X.env whole = (do let v ← whole; standAt e.pos; holding [v] (truthy v)) := by intro _; rfl) : VT X C e (dTest f) := ⟨ptI (pt_val h.run he) fun _ _ _ q => tB_of q⟩
theorem vt_cmp {op : CmpOp} {g : PyData → PyData → Option RV} (ho : OpR X (compareOp op) (rOp C g)) (ha : VE X C a fa) (hb : VE X C b fb) (hm : behindInMarks op b = false := by first | exact nobehind _ (by decide) (by decide) | rfl) : VT X C (.Compare a [op] [b] pos) (dTest (dOp g fa fb)) := by
  refine ⟨ptI (pt_cmpR ho ha.run hb.run hm) fun σ H Q h => ?_⟩
  have h2 : tB (tE C (dOp g fa fb)) σ H Q := tB_of h
  exact tOp_of h2
theorem vw_and1 (ha : VT X C a ta) : VW X C (.BoolOp .And [a] pos) ta := ⟨pw_and1 ha.run⟩
theorem vw_or1 (ha : VT X C a ta) : VW X C (.BoolOp .Or [a] pos) ta := ⟨pw_or1 ha.run⟩
theorem vw_and (ha : VT X C a ta) (hb : VW X C (.BoolOp .And (b :: rest) pos) tb) : VW X C (.BoolOp .And (a :: b :: rest) pos) (tdAnd ta tb) := by
  refine ⟨pwI (pw_and ha.run hb.run) fun σ H Q ⟨O, F, s, v, h⟩ => ⟨O, F, s, v, Rd0.bind h Tr.refl fun k s1 O1 F1 H1 v1 t1 h1 => ?_⟩⟩
  cases k with
  | true => exact ⟨O1, F1, s1, v1, Rd0.tr h1 t1⟩
  | false => exact h1 O1 F1 H1 v1 t1
theorem vw_or (ha : VT X C a ta) (hb : VW X C (.BoolOp .Or (b :: rest) pos) tb) : VW X C (.BoolOp .Or (a :: b :: rest) pos) (tdOr ta tb) := by
  refine ⟨pwI (pw_or ha.run hb.run) fun σ H Q ⟨O, F, s, v, h⟩ => ⟨O, F, s, v, Rd0.bind h Tr.refl fun k s1 O1 F1 H1 v1 t1 h1 => ?_⟩⟩
  cases k with
  | true => exact h1 O1 F1 H1 v1 t1
  | false => exact ⟨O1, F1, s1, v1, Rd0.tr h1 t1⟩
theorem vt_w (h : VW X C e ta) : VT X C e ta := ⟨h.run.pt⟩
theorem vt_not (ha : VT X C a ta) : VT X C (.UnaryOp .Not a pos) (tdNot ta) :=
  ⟨ptI (pt_not ha.run) fun σ H Q ⟨O, F, s, v, h⟩ => ⟨O, F, s, v, Rd0.bind h Tr.refl fun k s1 O1 F1 H1 v1 t1 h1 => h1 O1 F1 H1 v1 t1⟩⟩
theorem rdE_tr {σ : L2.St} {O O1 : Ow} {F H F1 H1 : Hp} {o : Out RV} {Q : VK} (h : RdE C σ O F H o Q) (t : Tr O F H O1 F1 H1) : RdE C σ O1 F1 H1 o Q := by
  cases o with
  | ok a s' => exact fun O' F' H' v u x hx hf => h O' F' H' v (t.trans u) x hx (hf.back t)
  | exc c fs s' => exact fun O' F' H' v u => h O' F' H' v (t.trans u)
  | bad => exact h
theorem ve_one {op} (h : VE X C a fa) : VE X C (.BoolOp op [a] pos) fa := ⟨pe_one h.run⟩
theorem ve_and (ha : VE X C a fa) (hb : VE X C (.BoolOp .And (b :: rest) pos) fb) : VE X C (.BoolOp .And (a :: b :: rest) pos) (dAnd fa fb) := by
  refine ⟨peI (pe_and ha.run hb.run) fun σ H Q ⟨O, F, s, v, h⟩ => ⟨O, F, s, v, Rd0.bind h Tr.refl fun r s1 O1 F1 H1 v1 t1 h1 x hx _ => ?_⟩⟩
  obtain ⟨b, e, q⟩ := asB_ok h1 v1 hx
  refine ⟨b, e, ?_⟩
  cases b with
  | true => exact ⟨O1, F1, s1, v1, rdE_tr q t1⟩
  | false => exact q O1 F1 H1 v1 t1 _ (.bl false) trivial
theorem ve_or (ha : VE X C a fa) (hb : VE X C (.BoolOp .Or (b :: rest) pos) fb) : VE X C (.BoolOp .Or (a :: b :: rest) pos) (dOr fa fb) := by
  refine ⟨peI (pe_or ha.run hb.run) fun σ H Q ⟨O, F, s, v, h⟩ => ⟨O, F, s, v, Rd0.bind h Tr.refl fun r s1 O1 F1 H1 v1 t1 h1 x hx _ => ?_⟩⟩
  obtain ⟨b, e, q⟩ := asB_ok h1 v1 hx
  refine ⟨b, e, ?_⟩
  cases b with
  | true => exact q O1 F1 H1 v1 t1 _ (.bl true) trivial
  | false => exact ⟨O1, F1, s1, v1, rdE_tr q t1⟩
theorem ve_not (ha : VE X C a fa) : VE X C (.UnaryOp .Not a pos) (dNot fa) := by
  refine ⟨peI (pe_not ha.run) fun σ H Q ⟨O, F, s, v, h⟩ => ⟨O, F, s, v, Rd0.bind h Tr.refl fun r s1 O1 F1 H1 v1 t1 h1 x hx _ => ?_⟩⟩
  obtain ⟨b, e, q⟩ := asB_ok h1 v1 hx
  exact ⟨b, e, q O1 F1 H1 v1 t1 _ (.bl _) trivial⟩
theorem ve_if (hc : VT X C c tc) (ha : VE X C a fa) (hb : VE X C b fb) : VE X C (.IfExp c a b pos) (dIf tc fa fb) := by
  refine ⟨peI (pe_ifExp hc.run ha.run hb.run) fun σ H Q ⟨O, F, s, v, h⟩ => ⟨O, F, s, v, Rd0.bind h Tr.refl fun k s1 O1 F1 H1 v1 t1 h1 => ?_⟩⟩
  cases k with
  | true => exact ⟨O1, F1, s1, v1, rdE_tr h1 t1⟩
  | false => exact ⟨O1, F1, s1, v1, rdE_tr h1 t1⟩
end

/-! ### items frozen one by one; displays -/
def ddNil : DDs := fun s => .ok [] s
def ddCons (fa : DD) (fr : DDs) : DDs := fun s => (fa s).bind fun d s1 => (fr s1).bind fun ds s2 => .ok (d :: ds) s2
def starD : PyData → Option (List PyData)
  | .list ds => some ds
  | .tuple ds => some ds
  | _ => none
def ddStar (fa : DD) (fr : DDs) : DDs := fun s => (fa s).bind fun d s1 => match starD d with | some xs => (fr s1).bind fun ds s2 => .ok (xs ++ ds) s2 | none => .bad
def dTup (f : DDs) : DE := fun s => (f s).bind fun ds s1 => if ds.length ≤ sizeLine then .ok (.dat (.tuple ds)) s1 else .bad
def dLst (f : DDs) : DE := fun s => (f s).bind fun ds s1 => if ds.length ≤ sizeLine then .ok (.tmp ds) s1 else .bad
section
variable {X : Cx} {C : Ct X.K} {pos : Pos} {a : Expr} {es : List Expr} {fa : DD} {fr : DDs}
theorem vds_nil : VDs X C [] ddNil := ⟨paI pa_nil fun σ H Q ⟨O, F, s, v, h⟩ => h O F H v Tr.refl [] .nil⟩
theorem vds_cons (ha : VD X C a fa) (hr : VDs X C es fr) (he : starEach (a :: es) X.env = (false, eval a X.env) :: starEach es X.env := by rfl) : VDs X C (a :: es) (ddCons fa fr) := by
  refine ⟨paI (pa_cons ha.run hr.run he) fun σ H Q ⟨O, F, s, v, h⟩ => ⟨O, F, s, v, Rd0.bind h Tr.refl fun d s1 O1 F1 H1 v1 t1 h1 x hx => ?_⟩⟩
  refine ⟨O1, F1, s1, v1, Rd0.bind h1 t1 fun ds s2 O2 F2 H2 v2 t2 h2 xs hxs => ?_⟩
  exact h2 O2 F2 H2 v2 (t1.trans t2) (x :: xs) (.cons (hx.mono t2.ff) hxs)
theorem vds_star {p : Pos} (ha : VD X C a fa) (hr : VDs X C es fr) : VDs X C (.Starred a p :: es) (ddStar fa fr) := by
  refine ⟨paI (StX.pa_star ha.run hr.run) fun σ H Q ⟨O, F, s, v, h⟩ => ⟨O, F, s, v, Rd0.bind h Tr.refl fun d s1 O1 F1 H1 v1 t1 h1 x hx => ?_⟩⟩
  cases e : starD d with
  | none => rw [e] at h1; exact h1.elim
  | some ys =>
    rw [e] at h1
    have hs : ∃ p vs, x = .ref p ∧ (SqT X.K H1 p vs ∨ SqL X.K H1 p vs) ∧ DtAll X.K F1 vs ys := by
      cases d with
      | list ds => cases e; cases hx with | lst q1 q2 => exact ⟨_, _, rfl, .inr (.of (v1.fh _ _ q1)), q2⟩
      | tuple ds => cases e; cases hx with | tup q1 q2 => exact ⟨_, _, rfl, .inl (tupS (v1.fh _ _ q1)), q2⟩
      | _ => cases e
    obtain ⟨p, vs, e1, e2, e3⟩ := hs
    refine ⟨p, vs, e1, e2, O1, F1, s1, v1, Rd0.bind h1 t1 fun ds s2 O2 F2 H2 v2 t2 h2 xs hxs => ?_⟩
    exact h2 O2 F2 H2 v2 (t1.trans t2) (vs ++ xs) ((e3.mono t2.ff).app hxs)
theorem ve_tup {k} (h : VDs X C es fr) : VE X C (.Tuple es k pos) (dTup fr) := by
  refine ⟨peI (pe_tup h.run) fun σ H Q ⟨O, F, s, v, h⟩ => ⟨O, F, s, v, Rd0.bind h Tr.refl fun ds s1 O1 F1 H1 v1 t1 h1 xs hxs => ?_⟩⟩
  split at h1
  · rename_i hz
    exact ⟨by rw [hxs.len]; exact hz, fun p hp => RdE.tupNew h1 t1 v1 hp hxs⟩
  · exact h1.elim
theorem ve_lst (h : VDs X C es fr) : VE X C (.List es pos) (dLst fr) := by
  refine ⟨peI (pe_lst h.run) fun σ H Q ⟨O, F, s, v, h⟩ => ⟨O, F, s, v, Rd0.bind h Tr.refl fun ds s1 O1 F1 H1 v1 t1 h1 xs hxs => ?_⟩⟩
  split at h1
  · rename_i hz
    exact ⟨by rw [hxs.len]; exact hz, fun p hp => RdE.tmpNew h1 t1 v1 hp hxs⟩
  · exact h1.elim
theorem ve_dk0 : VE X C (.Dict [] [] pos) (fun s => .ok (.tk []) s) := ⟨peI pe_dnewK fun σ H Q ⟨O, F, s, v, h⟩ p hp => RdE.dkNew h Tr.refl v hp⟩
theorem ve_dt0 : VE X C (.Dict [] [] pos) (fun s => .ok (.tt []) s) := ⟨peI pe_dnewT fun σ H Q ⟨O, F, s, v, h⟩ p hp => RdE.dtNew h Tr.refl v hp⟩
end

/-! ### arguments that are read -/
def daNil : DA := fun s => .ok [] s
def daCons (fa : DE) (fr : DA) : DA := fun s => (fa s).bind fun r s1 => (fr s1).bind fun rs s2 => .ok (r :: rs) s2
section
variable {X : Cx} {C : Ct X.K} {pos : Pos} {a : Expr} {es : List Expr} {fa : DE} {fr : DA}
theorem va_nil : VA X C [] daNil := ⟨paI pa_nil fun σ H Q ⟨O, F, s, v, h⟩ => h O F H v Tr.refl [] .nil⟩
theorem va_cons (ha : VE X C a fa) (hr : VA X C es fr) (he : starEach (a :: es) X.env = (false, eval a X.env) :: starEach es X.env := by rfl) : VA X C (a :: es) (daCons fa fr) := by
  refine ⟨paI (pa_cons ha.run hr.run he) fun σ H Q ⟨O, F, s, v, h⟩ => ⟨O, F, s, v, Rd0.bind h Tr.refl fun r s1 O1 F1 H1 v1 t1 h1 x hx _ => ?_⟩⟩
  refine ⟨O1, F1, s1, v1, Rd0.bind h1 t1 fun rs s2 O2 F2 H2 v2 t2 h2 xs hxs => ?_⟩
  exact h2 O2 F2 H2 v2 (t1.trans t2) (x :: xs) (.cons (hx.tr t2) hxs)
end
/-! ### built-in calls by data -/
def resAll : List RV → Sx → Option (List PyData)
  | [], _ => some []
  | r :: rs, s => match r.res s, resAll rs s with
    | some d, some ds => some (d :: ds)
    | _, _ => none
def BoAll (K : PySem.W.Frag) (F H : Hp) : List V → List PyData → Prop := Paired (Bo K F H)
theorem RVs.bo {K : PySem.W.Frag} {C : Ct K} {O : Ow} {F H : Hp} {s : Sx} {σ : L2.St} (v : VS C O F s σ H) : ∀ {rs : List RV} {xs : List V} {ds : List PyData}, RVs C O F H σ rs xs → resAll rs s = some ds → BoAll K F H xs ds
  | _, _, _, .nil, e => by cases e; exact .nil
  | r :: rs, x :: xs, ds, .cons h t, e => by
    unfold resAll at e
    cases e1 : r.res s with
    | none => rw [e1] at e; cases e
    | some d =>
      cases e2 : resAll rs s with
      | none => rw [e1, e2] at e; cases e
      | some es =>
        rw [e1, e2] at e
        cases e
        exact .cons (RVok.bo h v e1) (RVs.bo v t e2)
def finN (g : List PyData → Option RV) (rs : List RV) (s : Sx) : Out RV :=
  match resAll rs s with
  | some ds => (match g ds with | some r => .ok r s | none => .bad)
  | none => .bad
def rCall {K : PySem.W.Frag} (C : Ct K) (g : List PyData → Option RV) : List V → Hp → VK → Prop := fun xs H Q => ∃ σ O0 F0 H0 O F s ds r, VS C O F s σ H ∧ Tr O0 F0 H0 O F H ∧ BoAll K F H xs ds ∧ g ds = some r ∧ RdE C σ O0 F0 H0 (.ok r s) Q
theorem finN_ok {K : PySem.W.Frag} {C : Ct K} {O O0 : Ow} {F H F0 H0 : Hp} {s : Sx} {σ : L2.St} {Q : VK} {g : List PyData → Option RV} {rs : List RV} {xs : List V} (h : RdE C σ O0 F0 H0 (finN g rs s) Q) (t : Tr O0 F0 H0 O F H) (v : VS C O F s σ H) (ha : RVs C O F H σ rs xs) : rCall C g xs H Q := by
  unfold finN at h
  cases e1 : resAll rs s with
  | none => rw [e1] at h; exact h.elim
  | some d =>
    rw [e1] at h
    simp only at h
    cases e3 : g d with
    | none => rw [e3] at h; exact h.elim
    | some r =>
      rw [e3] at h
      exact ⟨σ, O0, F0, H0, O, F, s, d, r, v, t, RVs.bo v ha e1, e3, h⟩
def dCall (g : List PyData → Option RV) (fa : DA) : DE := fun s => (fa s).bind fun rs s1 => finN g rs s1
section
variable {X : Cx} {C : Ct X.K} {pos p : Pos} {e : Expr} {es : List Expr} {x : Str} {fa : DA} {g : List PyData → Option RV}
theorem tCB_of {σ : L2.St} {H : Hp} {Q : VK} (h : tE C (dCall g fa) σ H Q) : tCB (rCall C g) (tA C fa) σ H Q := by
  obtain ⟨O, F, s, v, h⟩ := h
  refine ⟨O, F, s, v, Rd0.bind h Tr.refl fun rs s1 O1 F1 H1 v1 t1 h1 xs hxs => ?_⟩
  exact finN_ok h1 t1 v1 hxs
theorem ve_callB {id : String} (hc : CallR X (.builtin id) (rCall C g)) (ha : VA X C (e :: es) fa) (hm : X.mg x = none) (hv : bootBuiltins x = some (.builtin id)) (hg : Gl X x := by rfl) (hn : x ≠ "__name__" := by decide) (hd : (x == ("__debug__" : Str)) = false := by decide)
    (he : starEach (e :: es) X.env = (false, eval e X.env) :: starEach es X.env := by rfl) (hpl : (backTo pos (starEach es X.env)).any (·.1) = false := by rfl) : VE X C (.Call (.Name x p) (e :: es) [] pos) (dCall g fa) :=
  ⟨peI (pe_callB hc hg hm hv ha.run hn hd he hpl) fun _ _ _ h => tCB_of h⟩
theorem ve_callTy {id : String} (hc : CallR X (.type id) (rCall C g)) (ha : VA X C (e :: es) fa) (hm : X.mg x = none) (hv : bootBuiltins x = some (.type id)) (hg : Gl X x := by rfl) (hn : x ≠ "__name__" := by decide) (hd : (x == ("__debug__" : Str)) = false := by decide)
    (he : starEach (e :: es) X.env = (false, eval e X.env) :: starEach es X.env := by rfl) (hpl : (backTo pos (starEach es X.env)).any (·.1) = false := by rfl) : VE X C (.Call (.Name x p) (e :: es) [] pos) (dCall g fa) :=
  ⟨peI (pe_callTy hc hg hm hv ha.run hn hd he hpl) fun _ _ _ h => tCB_of h⟩
end
end VL

namespace VL
open PySem PySem.Spec PyProof.Rows L2

/-! ### the built-ins -/
def gLen : List PyData → Option RV
  | [.list ds] => some (int_ ds.length)
  | [.tuple ds] => some (int_ ds.length)
  | [.str x] => if x.length ≤ sizeLine then some (int_ x.length) else none
  | _ => none
def gTuple : List PyData → Option RV
  | [.list ds] => some (.dat (.tuple ds))
  | [.tuple ds] => some (.dat (.tuple ds))
  | _ => none
def gList : List PyData → Option RV
  | [.list ds] => some (.tmp ds)
  | [.tuple ds] => some (.tmp ds)
  | _ => none
def boolsD : List PyData → Option (List Bool)
  | [] => some []
  | .bool b :: r => (boolsD r).map (b :: ·)
  | _ => none
def intsD : List PyData → Option (List Int)
  | [] => some []
  | .int b :: r => (intsD r).map (b :: ·)
  | _ => none
def gAll : List PyData → Option RV
  | [.list ds] => (boolsD ds).map fun bs => bl_ (bs.all id)
  | _ => none
def gAny : List PyData → Option RV
  | [.list ds] => (boolsD ds).map fun bs => bl_ (bs.any id)
  | _ => none
def gSum : List PyData → Option RV
  | [.list ds] => (intsD ds).map fun ns => int_ ns.sum
  | _ => none
def gInt : List PyData → Option RV
  | [.int i] => some (int_ i)
  | [.bool b] => some (int_ (if b then 1 else 0))
  | _ => none
def gMin2 : List PyData → Option RV
  | [.int i, .int j] => some (int_ (if j < i then j else i))
  | _ => none
def maxL : List Int → Int
  | [] => 0
  | [x] => x
  | x :: y :: r => max x (maxL (y :: r))
def minL : List Int → Int
  | [] => 0
  | [x] => x
  | x :: y :: r => min x (minL (y :: r))
def gMax : List PyData → Option RV
  | [.list ds] => (intsD ds).bind fun ns => if ns = [] then none else some (int_ (maxL ns))
  | _ => none
def gMin : List PyData → Option RV
  | [.list ds] => (intsD ds).bind fun ns => if ns = [] then none else some (int_ (minL ns))
  | _ => none

theorem maxL_mem : ∀ (x : Int) (r : List Int), maxL (x :: r) ∈ (x :: r) ∧ ∀ y ∈ (x :: r), y ≤ maxL (x :: r)
  | x, [] => ⟨by simp [maxL], by simp [maxL]⟩
  | x, y :: r => by
    obtain ⟨h1, h2⟩ := maxL_mem y r
    unfold maxL
    refine ⟨?_, fun z hz => ?_⟩
    · by_cases h : x ≤ maxL (y :: r)
      · rw [Int.max_eq_right h]; exact List.mem_cons_of_mem _ h1
      · rw [Int.max_eq_left (by omega)]; exact List.mem_cons_self
    · rcases List.mem_cons.mp hz with e | hz
      · rw [e]; omega
      · have := h2 z hz; omega
theorem minL_mem : ∀ (x : Int) (r : List Int), minL (x :: r) ∈ (x :: r) ∧ ∀ y ∈ (x :: r), minL (x :: r) ≤ y
  | x, [] => ⟨by simp [minL], by simp [minL]⟩
  | x, y :: r => by
    obtain ⟨h1, h2⟩ := minL_mem y r
    unfold minL
    refine ⟨?_, fun z hz => ?_⟩
    · by_cases h : x ≤ minL (y :: r)
      · rw [Int.min_eq_left h]; exact List.mem_cons_self
      · rw [Int.min_eq_right (by omega)]; exact List.mem_cons_of_mem _ h1
    · rcases List.mem_cons.mp hz with e | hz
      · rw [e]; omega
      · have := h2 z hz; omega
theorem bools_ok {K : PySem.W.Frag} {F : Hp} : ∀ {ds : List PyData} {vs : List V} {bs : List Bool}, DtAll K F vs ds → boolsD ds = some bs → vs = bs.map V.bl
  | _, _, _, .nil, e => by cases e; rfl
  | d :: ds, _, bs, .cons h t, e => by
    cases d with
    | bool b =>
      simp only [boolsD] at e
      cases q : boolsD ds with
      | none => rw [q] at e; cases e
      | some r =>
        rw [q] at e
        cases e
        cases h
        rw [bools_ok t q]; rfl
    | _ => cases e
theorem ints_ok {K : PySem.W.Frag} {F : Hp} : ∀ {ds : List PyData} {vs : List V} {bs : List Int}, DtAll K F vs ds → intsD ds = some bs → vs = bs.map V.int
  | _, _, _, .nil, e => by cases e; rfl
  | d :: ds, _, bs, .cons h t, e => by
    cases d with
    | int b =>
      simp only [intsD] at e
      cases q : intsD ds with
      | none => rw [q] at e; cases e
      | some r =>
        rw [q] at e
        cases e
        cases h
        rw [ints_ok t q]; rfl
    | _ => cases e
theorem boAll1 {K : PySem.W.Frag} {F H : Hp} {xs : List V} {d : PyData} (h : BoAll K F H xs [d]) : ∃ x, xs = [x] ∧ Bo K F H x d := by
  cases h with
  | cons a t => cases t; exact ⟨_, rfl, a⟩
theorem boAll2 {K : PySem.W.Frag} {F H : Hp} {xs : List V} {d e : PyData} (h : BoAll K F H xs [d, e]) : ∃ x y, xs = [x, y] ∧ Bo K F H x d ∧ Bo K F H y e := by
  cases h with
  | cons a t => obtain ⟨y, rfl, b⟩ := boAll1 t; exact ⟨_, y, rfl, a, b⟩
section
variable {X : Cx} {C : Ct X.K}
theorem c_len : CallR X (.builtin "len") (rCall C gLen) := by
  intro pins s σ H xs us Q I r ⟨σ', O0, F0, H0, O, F, st, ds, rv, vs, tr, bo, hg, rd⟩
  unfold gLen at hg
  split at hg
  · cases hg
    obtain ⟨x, rfl, b⟩ := boAll1 bo
    obtain ⟨p, zs, rfl, h1, d1⟩ := b.list vs.fh
    exact call_len_seq pins s σ H _ us Q I r ⟨p, zs, rfl, .inl (.of h1), by rw [d1.len]; exact rd.dat tr vs (.int _)⟩
  · cases hg
    obtain ⟨x, rfl, b⟩ := boAll1 bo
    obtain ⟨p, zs, rfl, h1, d1⟩ := b.tuple vs.fh
    exact call_len_seq pins s σ H _ us Q I r ⟨p, zs, rfl, .inr h1, by rw [d1.len]; exact rd.dat tr vs (.int _)⟩
  · split at hg
    · cases hg
      rename_i hz
      obtain ⟨x, rfl, b⟩ := boAll1 bo
      obtain rfl := b.str
      exact call_len_str pins s σ H _ us Q I r ⟨_, rfl, hz, rd.dat tr vs (.int _)⟩
    · cases hg
  · cases hg
theorem c_tuple : CallR X (.type "tuple") (rCall C gTuple) := by
  intro pins s σ H xs us Q I r ⟨σ', O0, F0, H0, O, F, st, ds, rv, vs, tr, bo, hg, rd⟩
  unfold gTuple at hg
  split at hg
  · cases hg
    obtain ⟨x, rfl, b⟩ := boAll1 bo
    obtain ⟨p, zs, rfl, h1, d1⟩ := b.list vs.fh
    exact call_tuple_of pins s σ H _ us Q I r ⟨p, zs, rfl, .inl ⟨.of h1, fun l hl => rd.tupNew tr vs hl d1⟩⟩
  · cases hg
    obtain ⟨x, rfl, b⟩ := boAll1 bo
    have hd := b.tupF
    obtain ⟨p, zs, rfl, h1, d1⟩ := b.tuple vs.fh
    exact call_tuple_of pins s σ H _ us Q I r ⟨p, zs, rfl, .inr ⟨h1, rd.dat tr vs hd⟩⟩
  · cases hg
theorem c_list : CallR X (.type "list") (rCall C gList) := by
  intro pins s σ H xs us Q I r ⟨σ', O0, F0, H0, O, F, st, ds, rv, vs, tr, bo, hg, rd⟩
  unfold gList at hg
  split at hg
  · cases hg
    obtain ⟨x, rfl, b⟩ := boAll1 bo
    obtain ⟨p, zs, rfl, h1, d1⟩ := b.list vs.fh
    exact call_list_of pins s σ H _ us Q I r ⟨p, zs, rfl, .inl (.of h1), fun l hl => rd.tmpNew tr vs hl d1⟩
  · cases hg
    obtain ⟨x, rfl, b⟩ := boAll1 bo
    obtain ⟨p, zs, rfl, h1, d1⟩ := b.tuple vs.fh
    exact call_list_of pins s σ H _ us Q I r ⟨p, zs, rfl, .inr h1, fun l hl => rd.tmpNew tr vs hl d1⟩
  · cases hg
theorem c_all (hc : X.calm = true) : CallR X (.builtin "all") (rCall C gAll) := by
  intro pins s σ H xs us Q I r ⟨σ', O0, F0, H0, O, F, st, ds, rv, vs, tr, bo, hg, rd⟩
  unfold gAll at hg
  split at hg
  · rename_i ds
    cases q : boolsD ds with
    | none => rw [q] at hg; cases hg
    | some bs =>
      rw [q] at hg
      cases hg
      obtain ⟨x, rfl, b⟩ := boAll1 bo
      obtain ⟨p, zs, rfl, h1, d1⟩ := b.list vs.fh
      rw [bools_ok d1 q] at h1
      exact cr_all hc pins s σ H _ us Q I r ⟨p, bs, rfl, .of h1, rd.dat tr vs (.bl _)⟩
  · cases hg
theorem c_any (hc : X.calm = true) : CallR X (.builtin "any") (rCall C gAny) := by
  intro pins s σ H xs us Q I r ⟨σ', O0, F0, H0, O, F, st, ds, rv, vs, tr, bo, hg, rd⟩
  unfold gAny at hg
  split at hg
  · rename_i ds
    cases q : boolsD ds with
    | none => rw [q] at hg; cases hg
    | some bs =>
      rw [q] at hg
      cases hg
      obtain ⟨x, rfl, b⟩ := boAll1 bo
      obtain ⟨p, zs, rfl, h1, d1⟩ := b.list vs.fh
      rw [bools_ok d1 q] at h1
      exact cr_any hc pins s σ H _ us Q I r ⟨p, bs, rfl, .of h1, rd.dat tr vs (.bl _)⟩
  · cases hg
theorem c_sum (hc : X.calm = true) : CallR X (.builtin "sum") (rCall C gSum) := by
  intro pins s σ H xs us Q I r ⟨σ', O0, F0, H0, O, F, st, ds, rv, vs, tr, bo, hg, rd⟩
  unfold gSum at hg
  split at hg
  · rename_i ds
    cases q : intsD ds with
    | none => rw [q] at hg; cases hg
    | some bs =>
      rw [q] at hg
      cases hg
      obtain ⟨x, rfl, b⟩ := boAll1 bo
      obtain ⟨p, zs, rfl, h1, d1⟩ := b.list vs.fh
      rw [ints_ok d1 q] at h1
      exact cr_sum hc pins s σ H _ us Q I r ⟨p, bs, rfl, .of h1, rd.dat tr vs (.int _)⟩
  · cases hg
theorem c_max (hc : X.calm = true) : CallR X (.builtin "max") (rCall C gMax) := by
  intro pins s σ H xs us Q I r ⟨σ', O0, F0, H0, O, F, st, ds, rv, vs, tr, bo, hg, rd⟩
  unfold gMax at hg
  split at hg
  · rename_i ds
    cases q : intsD ds with
    | none => rw [q] at hg; cases hg
    | some bs =>
      rw [q] at hg
      obtain ⟨x, rfl, b⟩ := boAll1 bo
      obtain ⟨p, zs, rfl, h1, d1⟩ := b.list vs.fh
      rw [ints_ok d1 q] at h1
      cases bs with
      | nil => cases hg
      | cons i t =>
        cases hg
        obtain ⟨m1, m2⟩ := maxL_mem i t
        refine cr_max hc pins s σ H _ us Q I r ⟨p, i :: t, rfl, .of h1, by simp, fun m a1 a2 => ?_⟩
        have e : m = maxL (i :: t) := Int.le_antisymm (m2 m a1) (a2 _ m1)
        rw [e]
        exact rd.dat tr vs (.int _)
  · cases hg
theorem c_min (hc : X.calm = true) : CallR X (.builtin "min") (rCall C gMin) := by
  intro pins s σ H xs us Q I r ⟨σ', O0, F0, H0, O, F, st, ds, rv, vs, tr, bo, hg, rd⟩
  unfold gMin at hg
  split at hg
  · rename_i ds
    cases q : intsD ds with
    | none => rw [q] at hg; cases hg
    | some bs =>
      rw [q] at hg
      obtain ⟨x, rfl, b⟩ := boAll1 bo
      obtain ⟨p, zs, rfl, h1, d1⟩ := b.list vs.fh
      rw [ints_ok d1 q] at h1
      cases bs with
      | nil => cases hg
      | cons i t =>
        cases hg
        obtain ⟨m1, m2⟩ := minL_mem i t
        refine cr_min hc pins s σ H _ us Q I r ⟨p, i :: t, rfl, .of h1, by simp, fun m a1 a2 => ?_⟩
        have e : m = minL (i :: t) := Int.le_antisymm (a2 _ m1) (m2 m a1)
        rw [e]
        exact rd.dat tr vs (.int _)
  · cases hg
theorem c_int : CallR X (.type "int") (rCall C gInt) := by
  intro pins s σ H xs us Q I r ⟨σ', O0, F0, H0, O, F, st, ds, rv, vs, tr, bo, hg, rd⟩
  unfold gInt at hg
  split at hg
  · cases hg
    obtain ⟨x, rfl, b⟩ := boAll1 bo
    obtain rfl := b.int
    exact call_int1 pins s σ H _ us Q I r (.inl ⟨_, rfl, rd.dat tr vs (.int _)⟩)
  · cases hg
    obtain ⟨x, rfl, b⟩ := boAll1 bo
    obtain rfl := b.bl
    exact call_int1 pins s σ H _ us Q I r (.inr ⟨_, rfl, rd.dat tr vs (.int _)⟩)
  · cases hg
theorem c_min2 (hc : X.calm = true) : CallR X (.builtin "min") (rCall C gMin2) := by
  intro pins s σ H xs us Q I r ⟨σ', O0, F0, H0, O, F, st, ds, rv, vs, tr, bo, hg, rd⟩
  unfold gMin2 at hg
  split at hg
  · cases hg
    obtain ⟨x, y, rfl, b1, b2⟩ := boAll2 bo
    obtain rfl := b1.int
    obtain rfl := b2.int
    exact call_min2 hc pins s σ H _ us Q I r ⟨_, _, rfl, rd.dat tr vs (.int _)⟩
  · cases hg
end

/-! ### isinstance of a built-in class -/
def tyD : PyData → String
  | .none => "NoneType"
  | .bool _ => "bool"
  | .int _ => "int"
  | .str _ => "str"
  | .list _ => "list"
  | .tuple _ => "tuple"
  | .dict _ => "dict"
inductive Ty4 where
  | int | bool | str | tuple | list
def Ty4.nm : Ty4 → String
  | .int => "int"
  | .bool => "bool"
  | .str => "str"
  | .tuple => "tuple"
  | .list => "list"
def isiD : Ty4 → PyData → Bool
  | .int, .int _ => true
  | .int, .bool _ => true
  | .bool, .bool _ => true
  | .str, .str _ => true
  | .tuple, .tuple _ => true
  | .list, .list _ => true
  | _, _ => false
theorem isiD_kit : ∀ (t : Ty4) (d : PyData), kitB (tyD d) t.nm = some (isiD t d) := by
  intro t d
  cases t <;> cases d <;> (dsimp only [tyD, Ty4.nm, isiD]; decide +kernel)
def tyOk : PyData → Bool
  | .dict (_ :: _) => false
  | _ => true
def dIsi (t : Ty4) (fa : DE) : DE := fun s => (fa s).bind fun r s1 => match r.res s1 with | some d => if tyOk d = true then .ok (bl_ (isiD t d)) s1 else .bad | none => .bad
theorem bo_ty {K : PySem.W.Frag} {F H : Hp} {x : V} {d : PyData} (h : Bo K F H x d) (e : Same F H) (hk0 : tyOk d = true) : TyX K H x (.type (tyD d)) := by
  have hk : ∀ a xs, SqT K H a xs → TyX K H (.ref a) (.type "tuple") := fun a xs q => by
    rcases q with (q | ⟨o, q⟩) | ⟨o, its, n, q1, q2, _⟩
    · exact .base (.tup q)
    · exact .fTuple q
    · exact .kTuple q1 q2
  rcases h with h | ⟨p, vs, ds, rfl, rfl, h1, _⟩
  · cases h with
    | non => exact .base .non
    | bl b => exact .base (.bl b)
    | int i => exact .base (.int i)
    | str z => exact .base (.str z)
    | lst h1 _ => exact .base (.lst (e _ _ h1))
    | tup h1 _ => exact hk _ _ (tupS (e _ _ h1))
    | dctT h1 _ => exact .base (.dT (e _ _ h1))
    | dct0 h1 => exact .base (.dK (e _ _ h1))
    | scr _ => cases hk0
  · exact .base (.lst h1)
section
variable {X : Cx} {C : Ct X.K} {pos p q : Pos} {a : Expr} {fa : DE}
theorem ve_isi {T : Str} (t : Ty4) (ha : VE X C a fa) (hm : X.mg "isinstance" = none) (hT : X.mg T = none) (hv : bootBuiltins T = some (.type t.nm)) (hg : Gl X "isinstance" := by rfl) (hgT : Gl X T := by rfl) (hn : T ≠ "__name__" := by decide) (hd : (T == ("__debug__" : Str)) = false := by decide)
    (he : starEach [a, .Name T q] X.env = (false, eval a X.env) :: starEach [.Name T q] X.env := by rfl) : VE X C (.Call (.Name "isinstance" p) [a, .Name T q] [] pos) (dIsi t fa) := by
  refine ⟨peI (pe_callB call_isi hg hm (by decide +kernel) (pa_cons ha.run (pa_cons (pe_bltn (v := .ty t.nm) hgT hT hv rfl hn hd) pa_nil) he) (he := he)) fun σ H Q ⟨O, F, s, v, h⟩ => ⟨O, F, s, v, Rd0.bind h Tr.refl fun r s1 O1 F1 H1 v1 t1 h1 x hx _ => ?_⟩⟩
  cases e : r.res s1 with
  | none => rw [e] at h1; exact h1.elim
  | some d =>
    rw [e] at h1
    simp only at h1
    split at h1
    · rename_i hk
      exact ⟨x, .ty t.nm, .type (tyD d), .type t.nm, isiD t d, rfl, .ty _, bo_ty (hx.bo v1 e) v1.fh hk, kit_ty (isiD_kit t d), RdE.dat h1 t1 v1 (.bl _)⟩
    · exact h1.elim
end

/-! ### subscripts, slices -/
def gIx : PyData → PyData → Option RV
  | .list ds, .int i => (atI ds i).map .dat
  | .tuple ds, .int i => (atI ds i).map .dat
  | .str z, .int i => if z.length ≤ sizeLine then (atI z.cps.toList i).map fun c => .dat (.str ⟨#[c]⟩) else none
  | _, _ => none
theorem atI_all {K : PySem.W.Frag} {F : Hp} {ds : List PyData} {vs : List V} {i : Int} {d : PyData} (h : DtAll K F vs ds) (e : atI ds i = some d) : ∃ v, atI vs i = some v ∧ Dt K F v d := by
  unfold atI at e ⊢
  rw [h.len]
  cases q : ixN ds.length i with
  | none => rw [q] at e; cases e
  | some j =>
    rw [q] at e
    exact h.get e
section
variable {X : Cx} {C : Ct X.K} {pos p2 : Pos} {a b : Expr} {fa fb : DE}
theorem x_ix : IxR X (rOp C gIx) := by
  intro value slice pins s σ H x y v u Q I rx ry ⟨σ', O0, F0, H0, O, F, st, d, e, r, vs, tr, b1, b2, hg, rd⟩ hs
  unfold gIx at hg
  split at hg
  · rename_i ds i
    cases q : atI ds i with
    | none => rw [q] at hg; cases hg
    | some z =>
      rw [q] at hg
      cases hg
      obtain ⟨p, xs, rfl, h1, d1⟩ := b1.list vs.fh
      obtain ⟨w, e1, e2⟩ := atI_all d1 q
      exact ix_list value slice pins s σ H _ _ v u Q I rx ry ⟨p, xs, i, w, rfl, b2.int, .of h1, e1, rd.dat tr vs e2⟩ hs
  · rename_i ds i
    cases q : atI ds i with
    | none => rw [q] at hg; cases hg
    | some z =>
      rw [q] at hg
      cases hg
      obtain ⟨p, xs, rfl, h1, d1⟩ := b1.tuple vs.fh
      obtain ⟨w, e1, e2⟩ := atI_all d1 q
      exact ix_tup value slice pins s σ H _ _ v u Q I rx ry ⟨p, xs, i, w, rfl, b2.int, h1, e1, rd.dat tr vs e2⟩ hs
  · rename_i z i
    split at hg
    · rename_i hz
      cases q : atI z.cps.toList i with
      | none => rw [q] at hg; cases hg
      | some c =>
        rw [q] at hg
        cases hg
        exact ix_str value slice pins s σ H _ _ v u Q I rx ry ⟨z, i, c, b1.str, b2.int, hz, q, rd.dat tr vs (.str _)⟩ hs
    · cases hg
  · cases hg
theorem ve_ix (ha : VE X C a fa) (hb : VE X C b fb) (hs : PlainIx b := by intro _ _; rfl) : VE X C (.Subscript a b pos) (dOp gIx fa fb) :=
  ⟨peI (pe_ix x_ix ha.run hb.run hs) fun _ _ _ h => tOp_of h⟩

/-- a slice's part -/
def dNo : Sx → Out (Option Int) := fun s => .ok none s
def asI (r : RV) (s : Sx) : Out (Option Int) :=
  match r.res s with
  | some (.int i) => .ok (some i) s
  | _ => .bad
def dPart (f : DE) : Sx → Out (Option Int) := fun s => (f s).bind asI
structure VO (X : Cx) (C : Ct X.K) (e : Option Expr) (f : Sx → Out (Option Int)) : Prop where
  run : PO X e (fun σ H Q => ∃ O F s, VS C O F s σ H ∧ Rd0 C σ O F H (f s) fun i _ _ _ H' => Q i H')
theorem vo_none : VO X C none dNo := ⟨⟨fun pins s σ H Q I ⟨O, F, st, v, h⟩ => po_none.run pins s σ H Q I (h O F H v Tr.refl)⟩⟩
theorem vo_some (ha : VE X C a fa) : VO X C (some a) (dPart fa) := by
  refine ⟨⟨fun pins s σ H Q I ⟨O, F, st, v, h⟩ => (po_some ha.run).run pins s σ H Q I ⟨O, F, st, v, Rd0.bind h Tr.refl fun r s1 O1 F1 H1 v1 t1 h1 x hx _ => ?_⟩⟩⟩
  unfold asI at h1
  cases e : r.res s1 with
  | none => rw [e] at h1; exact h1.elim
  | some d =>
    rw [e] at h1
    have bo := hx.bo v1 e
    cases d with
    | int i => exact ⟨i, bo.int, h1 O1 F1 H1 v1 t1⟩
    | _ => exact h1.elim
def cutD (xs : List PyData) (lo hi : Option Int) : List PyData := (xs.drop (HT.sIx xs.length 0 lo)).take (HT.sIx xs.length xs.length hi - HT.sIx xs.length 0 lo)
theorem cut_all {K : PySem.W.Frag} {F : Hp} {ds : List PyData} {vs : List V} {lo hi : Option Int} (h : DtAll K F vs ds) : DtAll K F (cutV vs lo hi) (cutD ds lo hi) := by
  unfold cutV cutD
  rw [h.len]
  exact (h.drop _).take _
def gSl (d : PyData) (lo hi : Option Int) : Option RV :=
  match d with
  | .list ds => some (.tmp (cutD ds lo hi))
  | .tuple ds => some (.dat (.tuple (cutD ds lo hi)))
  | _ => none
def dSl (fa : DE) (fl fh : Sx → Out (Option Int)) : DE := fun s => (fa s).bind fun r s1 => (fl s1).bind fun lo s2 => (fh s2).bind fun hi s3 =>
  match r.res s3 with
  | some d => (match gSl d lo hi with | some r => .ok r s3 | none => .bad)
  | none => .bad
def rSl {K : PySem.W.Frag} (C : Ct K) : V → Option Int → Option Int → Hp → VK → Prop := fun x lo hi H Q => ∃ σ O0 F0 H0 O F s d r, VS C O F s σ H ∧ Tr O0 F0 H0 O F H ∧ Bo K F H x d ∧ gSl d lo hi = some r ∧ RdE C σ O0 F0 H0 (.ok r s) Q
theorem x_sl : SlR X (rSl C) := by
  intro pins s σ H x v vl vu lo hi sl Q I rx hs pl pu ⟨σ', O0, F0, H0, O, F, st, d, r, vs, tr, b1, hg, rd⟩
  unfold gSl at hg
  split at hg
  · cases hg
    obtain ⟨p, xs, rfl, h1, d1⟩ := b1.list vs.fh
    exact sl_list pins s σ H _ v vl vu lo hi sl Q I rx hs pl pu ⟨p, xs, rfl, .of h1, fun q hq => rd.tmpNew tr vs hq (cut_all d1)⟩
  · rename_i ds
    cases hg
    have hd := b1.tupF
    obtain ⟨p, xs, rfl, h1, d1⟩ := b1.tuple vs.fh
    refine sl_tupA pins s σ H _ v vl vu lo hi sl Q I rx hs pl pu ⟨p, xs, rfl, h1, fun ⟨z1, z2⟩ => ?_, fun _ q hq => rd.tupNew tr vs hq (cut_all d1)⟩
    have e : cutD ds lo hi = ds := by
      rw [d1.len] at z1 z2
      unfold cutD
      rw [z1, z2, List.drop_zero, Nat.sub_zero]
      exact List.take_length
    rw [e] at rd
    exact rd.dat tr vs hd
  · cases hg
theorem ve_sl {lo hi : Option Expr} {fl fh : Sx → Out (Option Int)} (ha : VE X C a fa) (hl : VO X C lo fl) (hh : VO X C hi fh) : VE X C (.Subscript a (.Slice lo hi none p2) pos) (dSl fa fl fh) := by
  refine ⟨peI (pe_slice (x_sl (C := C)) ha.run hl.run hh.run) fun σ H Q ⟨O, F, s, v, h⟩ => ⟨O, F, s, v, Rd0.bind h Tr.refl fun r s1 O1 F1 H1 v1 t1 h1 x hx _ => ?_⟩⟩
  refine ⟨O1, F1, s1, v1, Rd0.bind h1 t1 fun l s2 O2 F2 H2 v2 t2 h2 => ?_⟩
  refine ⟨O2, F2, s2, v2, Rd0.bind h2 (t1.trans t2) fun u s3 O3 F3 H3 v3 t3 h3 => ?_⟩
  cases e : r.res s3 with
  | none => rw [e] at h3; exact h3.elim
  | some d =>
    rw [e] at h3
    simp only at h3
    cases e3 : gSl d l u with
    | none => rw [e3] at h3; exact h3.elim
    | some rr =>
      rw [e3] at h3
      exact ⟨σ, O, F, H, O3, F3, s3, d, rr, v3, (t1.trans t2).trans t3, ((hx.tr t2).tr t3).bo v3 e, e3, h3⟩
end
end VL

namespace VL
open PySem PySem.Spec PyProof.Rows L2

inductive SOut where
  | nx (s : Sx)
  | rt (d : PyData) (s : Sx)
  | brk (s : Sx)
  | ct (s : Sx)
  | exc (c : Nat) (fs : List PyData) (s : Sx)
  | bad
abbrev DSt := Sx → SOut
def Out.toS {α : Type} (o : Out α) (k : α → Sx → SOut) : SOut :=
  match o with
  | .ok a s => k a s
  | .exc c fs s => .exc c fs s
  | .bad => .bad
def SOut.then (o : SOut) (k : Sx → SOut) : SOut :=
  match o with
  | .nx s => k s
  | o => o
def RdS {K : PySem.W.Frag} (C : Ct K) (O : Ow) (F H : Hp) (o : SOut) (D : Ends) : Prop :=
  match o with
  | .nx s' => ∀ σ' O' F' H', VS C O' F' s' σ' H' → Tr O F H O' F' H' → D.nx σ' H'
  | .rt d s' => ∀ v σ' O' F' H', VS C O' F' s' σ' H' → Tr O F H O' F' H' → Dt K F' v d → D.rt v H'
  | .brk s' => ∀ σ' O' F' H', VS C O' F' s' σ' H' → Tr O F H O' F' H' → D.bk σ' H'
  | .ct s' => ∀ σ' O' F' H', VS C O' F' s' σ' H' → Tr O F H O' F' H' → D.ct σ' H'
  | .exc c fs s' => ∀ σ' O' F' H', VS C O' F' s' σ' H' → Tr O F H O' F' H' → C.xw c fs s' σ' O' F' H'
  | .bad => False
def tS {K : PySem.W.Frag} (C : Ct K) (f : DSt) : TS := fun D σ H => ∃ O F s, VS C O F s σ H ∧ RdS C O F H (f s) D
structure VSt (X : Cx) (C : Ct X.K) (st : Stmt) (f : DSt) : Prop where
  run : PS X st (tS C f)
structure VSs (X : Cx) (C : Ct X.K) (sts : List Stmt) (f : DSt) : Prop where
  run : PSs X sts (tS C f)
theorem psI {X : Cx} {e : Stmt} {t t' : TS} (h : PS X e t) (f : ∀ D σ H, t' D σ H → t D σ H) : PS X e t' := ⟨fun pins s σ H D I q => h.run pins s σ H D I (f D σ H q)⟩
theorem pssI {X : Cx} {e : List Stmt} {t t' : TS} (h : PSs X e t) (f : ∀ D σ H, t' D σ H → t D σ H) : PSs X e t' := ⟨fun pins s σ H D I q => h.run pins s σ H D I (f D σ H q)⟩

section
variable {K : PySem.W.Frag} {C : Ct K} {O O1 : Ow} {F F1 H H1 : Hp} {s s' : Sx} {σ : L2.St} {D : Ends}
theorem RdS.tr {o : SOut} (h : RdS C O F H o D) (t : Tr O F H O1 F1 H1) : RdS C O1 F1 H1 o D := by
  cases o with
  | nx s' => exact fun σ' O' F' H' v u => h σ' O' F' H' v (t.trans u)
  | rt d s' => exact fun x σ' O' F' H' v u => h x σ' O' F' H' v (t.trans u)
  | brk s' => exact fun σ' O' F' H' v u => h σ' O' F' H' v (t.trans u)
  | ct s' => exact fun σ' O' F' H' v u => h σ' O' F' H' v (t.trans u)
  | exc c fs s' => exact fun σ' O' F' H' v u => h σ' O' F' H' v (t.trans u)
  | bad => exact h
theorem RdS.bind {α : Type} {o : Out α} {k : α → Sx → SOut} {P : α → Sx → Ow → Hp → Hp → Prop} (h : RdS C O F H (o.toS k) D) (t : Tr O F H O1 F1 H1)
    (f : ∀ a s2 O2 F2 H2, VS C O2 F2 s2 σ H2 → Tr O1 F1 H1 O2 F2 H2 → RdS C O F H (k a s2) D → P a s2 O2 F2 H2) : Rd0 C σ O1 F1 H1 o P := by
  cases o with
  | ok a s' => exact fun O' F' H' v u => f a s' O' F' H' v u h
  | exc c fs s' => exact fun O' F' H' v u => h σ O' F' H' v (t.trans u)
  | bad => exact h
/-- a row of two: what is wanted of the first one -/
theorem RdS.then {o : SOut} {k : Sx → SOut} (h : RdS C O F H (o.then k) D) (t : Tr O F H O1 F1 H1) :
    RdS C O1 F1 H1 o { D with nx := tS C k D } := by
  cases o with
  | nx s' => exact fun σ' O' F' H' v u => ⟨O', F', s', v, RdS.tr h (t.trans u)⟩
  | rt d s' => exact fun x σ' O' F' H' v u => h x σ' O' F' H' v (t.trans u)
  | brk s' => exact fun σ' O' F' H' v u => h σ' O' F' H' v (t.trans u)
  | ct s' => exact fun σ' O' F' H' v u => h σ' O' F' H' v (t.trans u)
  | exc c fs s' => exact fun σ' O' F' H' v u => h σ' O' F' H' v (t.trans u)
  | bad => exact h
/-- a slot is set to a new thing of its own -/
theorem VS.setO (v : VS C O1 F1 s σ H1) (t : Tr O F H O1 F1 H1) {i : Nat} {p : Addr} {b : VB} {o : HO} (hp : H1 p = some o) (hf : F1 p = none) (h0 : C.H0 p = none) (ho : O1 p = none) (hn : H p = none ∨ O p ≠ none)
    (hb : BOk C (updO O1 p (some (i + 2))) F1 H1 i b (.ref p)) :
    VS C (updO O1 p (some (i + 2))) F1 { s with g := s.g.set i (some b) } (σ.set i (some (.ref p))) H1 ∧ Tr O F H (updO O1 p (some (i + 2))) F1 H1 := by
  have ne : ∀ q j, O1 q = some j → q ≠ p := fun q j h z => by subst z; rw [ho] at h; cases h
  refine ⟨⟨by simp [v.len], v.fh, v.hh, v.ff, v.nw, fun q j h => ?_, fun j c e => ?_, fun pm h => ?_, v.tp⟩, ⟨t.ff, t.kp, t.hs, t.nf, fun q j h => ?_⟩⟩
  · by_cases z : q = p
    · subst z; exact ⟨hf, h0, by rw [hp]; exact fun z => nomatch z⟩
    · rw [updO_ne z] at h; exact v.ow q j h
  · by_cases hj : j = i
    · subst hj
      have e : (s.g.set j (some b))[j]? = some (some c) := e
      by_cases hl : j < s.g.length
      · rw [List.getElem?_set_self hl] at e
        cases e
        exact ⟨_, by rw [List.getElem?_set_self (by rw [v.len]; exact hl)], hb⟩
      · rw [List.getElem?_eq_none (by simpa using hl)] at e; cases e
    · have e : (s.g.set i (some b))[j]? = some (some c) := e
      rw [List.getElem?_set_ne (Ne.symm hj)] at e
      obtain ⟨y, e1, e2⟩ := v.pl j c e
      refine ⟨y, by rw [List.getElem?_set_ne (Ne.symm hj)]; exact e1, ?_⟩
      cases c with
      | dat d => exact e2
      | own ds => obtain ⟨q, vs, a1, a2, a3, a4⟩ := e2; exact ⟨q, vs, a1, by rw [updO_ne (ne q _ a2)]; exact a2, a3, a4⟩
      | dk ds => obtain ⟨q, vs, a1, a2, a3, a4⟩ := e2; exact ⟨q, vs, a1, by rw [updO_ne (ne q _ a2)]; exact a2, a3, a4⟩
      | dt ds => obtain ⟨q, vs, a1, a2, a3, a4⟩ := e2; exact ⟨q, vs, a1, by rw [updO_ne (ne q _ a2)]; exact a2, a3, a4⟩
      | drw => exact e2
  · obtain ⟨pc, pg, a1, a2, a3, a4, a5⟩ := v.dr pm h
    exact ⟨pc, pg, by rw [updO_ne (ne pm _ a1)]; exact a1, by rw [updO_ne (ne pg _ a2.1)]; exact a2, a3, a4, a5⟩
  · by_cases z : q = p
    · subst z; exact hn.symm
    · rw [updO_ne z] at h; exact t.no q j h
/-- the thing of an own slot is changed -/
theorem VS.wown (v : VS C O1 F1 s σ H1) (t : Tr O F H O1 F1 H1) {i : Nat} {p : Addr} {b : VB} {o : HO} (hs : σ[i]? = some (some (.ref p))) (ho : O1 p = some (i + 2)) (hb : BOk C O1 F1 (upd H1 p o) i b (.ref p)) (hot : ∀ xs, o ≠ .tup xs := by intro _ z; cases z) :
    VS C O1 F1 { s with g := s.g.set i (some b) } σ (upd H1 p o) ∧ Tr O F H O1 F1 (upd H1 p o) := by
  obtain ⟨p1, p2, p3⟩ := v.ow p _ ho
  have ne : ∀ q j, O1 q = some j → j ≠ i + 2 → q ≠ p := fun q j h n z => by subst z; rw [ho] at h; cases h; exact n rfl
  have up : ∀ q, q ≠ p → (upd H1 p o) q = H1 q := fun q h => upd_ne h
  refine ⟨⟨by simp [v.len], fun q x h => ?_, fun q x h => ?_, v.ff, v.nw, fun q j h => ?_, fun j c e => ?_, fun pm h => ?_, fun a xs e => ?_⟩, ⟨t.ff, fun q x h1 h2 => ?_, fun q h => ?_, t.nf, t.no⟩⟩
  · rw [up q (fun z => by subst z; rw [p1] at h; cases h)]; exact v.fh _ _ h
  · rw [up q (fun z => by subst z; rw [p2] at h; cases h)]; exact v.hh _ _ h
  · obtain ⟨a1, a2, a3⟩ := v.ow q j h
    refine ⟨a1, a2, ?_⟩
    by_cases z : q = p
    · subst z; rw [upd_same]; exact fun z => nomatch z
    · rw [up q z]; exact a3
  · by_cases hj : j = i
    · subst hj
      have e : (s.g.set j (some b))[j]? = some (some c) := e
      by_cases hl : j < s.g.length
      · rw [List.getElem?_set_self hl] at e
        cases e
        exact ⟨_, hs, hb⟩
      · rw [List.getElem?_eq_none (by simpa using hl)] at e; cases e
    · have e : (s.g.set i (some b))[j]? = some (some c) := e
      rw [List.getElem?_set_ne (Ne.symm hj)] at e
      obtain ⟨y, e1, e2⟩ := v.pl j c e
      refine ⟨y, e1, ?_⟩
      cases c with
      | dat d => exact e2
      | own ds => obtain ⟨q, vs, a1, a2, a3, a4⟩ := e2; exact ⟨q, vs, a1, a2, by rw [up q (ne q _ a2 (by omega))]; exact a3, a4⟩
      | dk ds => obtain ⟨q, vs, a1, a2, a3, a4⟩ := e2; exact ⟨q, vs, a1, a2, by rw [up q (ne q _ a2 (by omega))]; exact a3, a4⟩
      | dt ds => obtain ⟨q, vs, a1, a2, a3, a4⟩ := e2; exact ⟨q, vs, a1, a2, by rw [up q (ne q _ a2 (by omega))]; exact a3, a4⟩
      | drw => exact e2
  · obtain ⟨pc, pg, a1, a2, a3, a4, a5⟩ := v.dr pm h
    exact ⟨pc, pg, a1, a2, by rw [up pm (ne pm _ a1 (by omega))]; exact a3, by rw [up pg (ne pg _ a2.1 (by omega))]; exact a4, a5⟩
  · by_cases hb : a = p
    · subst hb; rw [upd_same] at e; exact absurd (Option.some.inj e) (hot xs)
    · rw [up a hb] at e; exact v.tp _ _ e
  · rw [up q (fun z => ?_)]
    · exact t.kp q x h1 h2
    · subst z
      rcases t.no q _ ho with z | z
      · exact z h2
      · rw [z] at h1; cases h1
  · by_cases z : q = p
    · subst z; rw [upd_same]; exact fun z => nomatch z
    · rw [up q z]; exact t.hs q h
end

/-! ### blocks -/
def sNext : DSt := fun s => .nx s
section
variable {X : Cx} {C : Ct X.K} {pos : Pos} {st : Stmt} {rest : List Stmt} {f g : DSt} {e : Expr}
theorem vss_nil : VSs X C [] sNext := ⟨pssI pss_nil fun D σ H ⟨O, F, s, v, h⟩ => h σ O F H v Tr.refl⟩
def sSeq (f g : DSt) : DSt := fun s => (f s).then g
def sBad : DSt := fun _ => .bad
theorem vss_cons (h1 : VSt X C st f) (h2 : VSs X C rest g) : VSs X C (st :: rest) (sSeq f g) :=
  ⟨pssI (pss_cons h1.run h2.run) fun D σ H ⟨O, F, s, v, h⟩ => ⟨O, F, s, v, RdS.then h Tr.refl⟩⟩
theorem vss_one (h1 : VSt X C st f) : VSs X C [st] f := ⟨pss_one h1.run⟩
theorem vs_pass : VSt X C (.Pass pos) sNext := ⟨psI ps_pass fun D σ H ⟨O, F, s, v, h⟩ => h σ O F H v Tr.refl⟩
theorem vs_never : VSt X C st sBad := ⟨psI ps_never fun D σ H ⟨O, F, s, v, h⟩ => h⟩
def sExpr (f : DE) : DSt := fun s => (f s).toS fun _ s1 => .nx s1
theorem vs_expr {f : DE} (he : VE X C e f) (hs : swapsWith e none pos.line X.env = pure false := by rfl) : VSt X C (.Expr e pos) (sExpr f) :=
  ⟨psI (ps_expr he.run hs) fun D σ H ⟨O, F, s, v, h⟩ => ⟨O, F, s, v, RdS.bind h Tr.refl fun r s1 O1 F1 H1 v1 t1 h1 x _ _ => h1 σ O1 F1 H1 v1 t1⟩⟩
def sRet (f : DD) : DSt := fun s => (f s).toS fun d s1 => .rt d s1
theorem vs_ret {f : DD} (he : VD X C e f) : VSt X C (.Return (some e) pos) (sRet f) :=
  ⟨psI (ps_ret he.run) fun D σ H ⟨O, F, s, v, h⟩ => ⟨O, F, s, v, RdS.bind h Tr.refl fun d s1 O1 F1 H1 v1 t1 h1 x hx => h1 x σ O1 F1 H1 v1 t1 hx⟩⟩
def sIf (c : DT) (f g : DSt) : DSt := fun s => (c s).toS fun b s1 => if b = true then f s1 else g s1
theorem vs_if {c : Expr} {a b : List Stmt} {tc : DT} (hc : VT X C c tc) (ha : VSs X C a f) (hb : VSs X C b g) : VSt X C (.If c a b pos) (sIf tc f g) := by
  refine ⟨psI (ps_if hc.run ha.run hb.run) fun D σ H ⟨O, F, s, v, h⟩ => ⟨O, F, s, v, RdS.bind h Tr.refl fun k s1 O1 F1 H1 v1 t1 h1 => ?_⟩⟩
  cases k with
  | true => exact ⟨O1, F1, s1, v1, RdS.tr h1 t1⟩
  | false => exact ⟨O1, F1, s1, v1, RdS.tr h1 t1⟩

/-! ### x = e -/
def putR (i : Nat) (r : RV) (s : Sx) : SOut :=
  match r with
  | .dat d => .nx { s with g := s.g.set i (some (.dat d)) }
  | .tmp ds => .nx { s with g := s.g.set i (some (.own ds)) }
  | .tk kvs => .nx { s with g := s.g.set i (some (.dk kvs)) }
  | .tt kvs => .nx { s with g := s.g.set i (some (.dt kvs)) }
  | .slot j => (frz (.slot j) s).toS fun d s1 => .nx { s1 with g := s1.g.set i (some (.dat d)) }
def sSet (i : Nat) (f : DE) : DSt := fun s => (f s).toS (putR i)
theorem putR_ok {O O1 : Ow} {F H F1 H1 : Hp} {s : Sx} {σ : L2.St} {D : Ends} {i : Nat} {r : RV} {x : V} (h : RdS C O F H (putR i r s) D) (t : Tr O F H O1 F1 H1) (v : VS C O1 F1 s σ H1) (hx : RVok C O1 F1 H1 σ r x) (hf : RVf O H r x) : D.nx (σ.set i (some x)) H1 := by
  cases r with
  | dat d => exact h _ _ _ _ (v.setD hx) t
  | tmp ds =>
    obtain ⟨p, vs, rfl, a2, a3, a4, a5, a6⟩ := hx
    obtain ⟨v2, t2⟩ := v.setO t (i := i) (b := .own ds) a2 a3 a4 a5 (hf p rfl) ⟨p, vs, rfl, updO_same, a2, a6⟩
    exact h _ _ _ _ v2 t2
  | tk ds =>
    obtain ⟨p, vs, rfl, a2, a3, a4, a5, a6⟩ := hx
    obtain ⟨v2, t2⟩ := v.setO t (i := i) (b := .dk ds) a2 a3 a4 a5 (hf p rfl) ⟨p, vs, rfl, updO_same, a2, a6⟩
    exact h _ _ _ _ v2 t2
  | tt ds =>
    obtain ⟨p, vs, rfl, a2, a3, a4, a5, a6⟩ := hx
    obtain ⟨v2, t2⟩ := v.setO t (i := i) (b := .dt ds) a2 a3 a4 a5 (hf p rfl) ⟨p, vs, rfl, updO_same, a2, a6⟩
    exact h _ _ _ _ v2 t2
  | slot j =>
    have h : RdS C O F H ((frz (.slot j) s).toS fun d s1 => .nx { s1 with g := s1.g.set i (some (.dat d)) }) D := h
    cases e : frz (.slot j) s with
    | bad => rw [e] at h; exact h.elim
    | exc c fs s2 => exfalso; unfold frz at e; simp only at e; split at e <;> cases e
    | ok d s2 =>
      rw [e] at h
      obtain ⟨O2, F2, v2, t2, hd⟩ := frz_ok hx hf t v e
      exact h _ _ _ _ (v2.setD hd) t2
theorem vs_set {i : Nat} {x : Str} {pos' : Pos} {f : DE} (hN : X.N.Nodup) (he : VE X C e f) (hi : X.N[i]? = some x := by rfl) (hx : Loc X.env.scope x := by first | exact Or.inl rfl | exact Or.inr rfl) (hs : swapsWith e (some (.Name x pos')) pos.line X.env = pure false := by rfl)
    (hf : X.fn x = true ∨ X.env.scope.names.lookup x = some .local := by first | exact .inl rfl | exact .inr rfl) : VSt X C (.Assign [.Name x pos'] e pos) (sSet i f) :=
  ⟨psI (ps_set hN hi hx he.run hs hf) fun D σ H ⟨O, F, s, v, h⟩ => ⟨O, F, s, v, RdS.bind h Tr.refl fun r s1 O1 F1 H1 v1 t1 h1 x hx hf => putR_ok h1 t1 v1 hx hf⟩⟩
end

/-! ### targets -/
abbrev Tg := PyData → Sx → Option Sx
abbrev Tgs := List PyData → Sx → Option Sx
def Off (vs : List Nat) (σ σ' : L2.St) : Prop := σ'.length = σ.length ∧ ∀ j : Nat, j ∉ vs → σ'[j]? = σ[j]?
structure VG (X : Cx) (C : Ct X.K) (tg : Expr) (vs : List Nat) (f : Tg) : Prop where
  run : PG X tg (fun x σ H Q => ∃ O F s d s', VS C O F s σ H ∧ Dt X.K F x d ∧ f d s = some s' ∧ ∀ σ', VS C O F s' σ' H → Off vs σ σ' → Q σ' H)
structure VGs (X : Cx) (C : Ct X.K) (ts : List Expr) (vs : List Nat) (f : Tgs) : Prop where
  run : PGs X ts (fun xs σ H Q => ∃ O F s ds s', VS C O F s σ H ∧ DtAll X.K F xs ds ∧ f ds s = some s' ∧ ∀ σ', VS C O F s' σ' H → Off vs σ σ' → Q σ' H)
def gN (i : Nat) : Tg := fun d s => some { s with g := s.g.set i (some (.dat d)) }
def gNil0 : Tgs := fun ds s => match ds with | [] => some s | _ => none
def gCons0 (f : Tg) (g : Tgs) : Tgs := fun ds s => match ds with | d :: r => (f d s).bind (g r) | [] => none
def gTup0 (n : Nat) (f : Tgs) : Tg := fun d s => match d with | .tuple ds => if ds.length = n then f ds s else none | _ => none
section
variable {X : Cx} {C : Ct X.K} {pos : Pos} {e : Expr} {es : List Expr} {f : Tg} {g : Tgs}
theorem pgI {t t' : TG} (h : PG X e t) (k : ∀ x σ H Q, t' x σ H Q → t x σ H Q) : PG X e t' := ⟨fun pins s σ H x v Q I r q => h.run pins s σ H x v Q I r (k x σ H Q q)⟩
theorem pgsI {t t' : TGs} (h : PGs X es t) (k : ∀ x σ H Q, t' x σ H Q → t x σ H Q) : PGs X es t' := ⟨fun pins s σ H x v Q I r q => h.run pins s σ H x v Q I r (k x σ H Q q)⟩
theorem vg_name {i : Nat} {x : Str} (hN : X.N.Nodup) (hi : X.N[i]? = some x := by rfl) (hx : Loc X.env.scope x := by first | exact Or.inl rfl | exact Or.inr rfl) (hf : X.fn x = true ∨ X.env.scope.names.lookup x = some .local := by first | exact .inl rfl | exact .inr rfl) : VG X C (.Name x pos) [i] (gN i) :=
  ⟨pgI (pg_name hN hi hx hf) fun x σ H Q ⟨O, F, s, d, s', v, hd, e, q⟩ => by
    cases e
    exact q _ (v.setD hd) ⟨List.length_set, fun j hj => List.getElem?_set_ne (fun z => hj (by simp [z]))⟩⟩
theorem vgs_nil : VGs X C [] [] gNil0 := ⟨pgsI pgs_nil fun x σ H Q ⟨O, F, s, ds, s', v, hd, e, q⟩ => by
    cases hd with
    | nil => cases e; exact ⟨rfl, q _ v ⟨rfl, fun _ _ => rfl⟩⟩
    | cons _ _ => cases e⟩
theorem vgs_cons {us vs : List Nat} (h1 : VG X C e us f) (h2 : VGs X C es vs g) (hs : (assignEach (e :: es) X.env).map (·.2) = assign e X.env :: (assignEach es X.env).map (·.2) := by rfl) : VGs X C (e :: es) (us ++ vs) (gCons0 f g) :=
  ⟨pgsI (pgs_cons h1.run h2.run hs) fun x σ H Q ⟨O, F, s, ds, s', v, hd, e, q⟩ => by
    cases hd with
    | nil => cases e
    | @cons y ys d ds h1 h2 =>
      simp only [gCons0] at e
      cases e1 : f d s with
      | none => rw [e1] at e; cases e
      | some s1 =>
        rw [e1] at e
        exact ⟨y, ys, rfl, O, F, s, d, s1, v, h1, e1, fun σ' v1 o1 => ⟨O, F, s1, ds, s', v1, h2, e, fun σ2 v2 o2 => q σ2 v2 ⟨o2.1.trans o1.1, fun j hj => (o2.2 j fun z => hj (List.mem_append_right _ z)).trans (o1.2 j fun z => hj (List.mem_append_left _ z))⟩⟩⟩⟩
theorem vg_tup {k n : Nat} {vs : List Nat} (hc : X.calm = true) (h : VGs X C es vs g) (hn : (assignEach es X.env).length = n := by rfl) (hst : (assignEach es X.env).findIdx? (·.1) = none := by rfl) : VG X C (.Tuple es k pos) vs (gTup0 n g) :=
  ⟨pgI (pg_tup hc h.run hn hst) fun x σ H Q ⟨O, F, s, d, s', v, hd, e, q⟩ => by
    cases d with
    | tuple ds =>
      simp only [gTup0] at e
      split at e
      · rename_i hl
        cases hd with
        | tup h1 h2 => exact ⟨_, _, rfl, tupS (v.fh _ _ h1), by rw [h2.len]; exact hl, O, F, s, ds, s', v, h2, e, q⟩
      · cases e
    | _ => cases e⟩
/-- targets = e, e frozen -/
def sAsg (f : DD) (g : Tg) : DSt := fun s => (f s).toS fun d s1 => match g d s1 with | some s2 => .nx s2 | none => .bad
theorem vs_asg {tg : Expr} {f : DD} {g : Tg} {vs : List Nat} (he : VD X C e f) (hg : VG X C tg vs g) (hs : swapsWithSole [tg] e pos.line X.env = pure false := by rfl) (hw : swappedStores [tg] e X.env = pure none := by rfl) (h1 : (assignEach [tg] X.env).map (·.2) = [assign tg X.env] := by rfl) : VSt X C (.Assign [tg] e pos) (sAsg f g) := by
  refine ⟨psI (ps_asg he.run hg.run hs hw h1) fun D σ H ⟨O, F, s, v, h⟩ => ⟨O, F, s, v, RdS.bind h Tr.refl fun d s1 O1 F1 H1 v1 t1 h1 x hx => ?_⟩⟩
  cases e1 : g d s1 with
  | none => rw [e1] at h1; exact h1.elim
  | some s2 =>
    rw [e1] at h1
    exact ⟨O1, F1, s1, d, s2, v1, hx, e1, fun σ' v2 _ => h1 σ' O1 F1 H1 v2 t1⟩
end

/-! ### what a for walks -/
/-- the walk J yields the data ds -/
def Yld (K : PySem.W.Frag) (F : Hp) (J : It) (ds : List PyData) : Prop :=
  ∀ (i : Nat) (H : Hp), Same F H → (i = ds.length → J.stop i H) ∧ ∀ d, ds[i]? = some d → J.go i H ∧ ∀ x H', J.yld i H x H' →
    (H' = H ∧ Dt K F x d) ∨ ∃ T xs es, x = .ref T ∧ H T = none ∧ H' = upd H T (.tup xs) ∧ d = .tuple es ∧ DtAll K F xs es
structure VI (X : Cx) (C : Ct X.K) (tg iter : Expr) (f : DDs) : Prop where
  run : PI X tg iter (fun σ H R => ∃ O F s, VS C O F s σ H ∧ Rd0 C σ O F H (f s) fun ds _ _ F' H' => ∀ J, Yld X.K F' J ds → R J H')
theorem piI {X : Cx} {tg it : Expr} {t t' : TI} (h : PI X tg it t) (k : ∀ σ H R, t' σ H R → t σ H R) : PI X tg it t' := ⟨fun pins s σ H R I q => h.run pins s σ H R I (k σ H R q)⟩
theorem yld_list {K : PySem.W.Frag} {F : Hp} {a : Addr} {xs : List V} {ds : List PyData} (h : F a = some (.lst xs)) (hd : DtAll K F xs ds) : Yld K F (Itl K a) ds := fun i H e => by
  have hq : SqL K H a xs := .of (e _ _ h)
  have hl := hd.len
  refine ⟨fun hi => ⟨xs, hq, by omega⟩, fun d hd' => ?_⟩
  obtain ⟨v, e1, e2⟩ := hd.get hd'
  refine ⟨⟨xs, v, hq, e1⟩, fun x H' ⟨hH, hx⟩ => .inl ⟨hH, ?_⟩⟩
  have := hx xs hq
  rw [e1] at this
  cases this
  exact e2
theorem yld_tup {K : PySem.W.Frag} {F : Hp} {a : Addr} {xs : List V} {ds : List PyData} (h : SqT K F a xs) (hd : DtAll K F xs ds) : Yld K F (Itt K a) ds := fun i H e => by
  have hq : SqT K H a xs := sqTM e h
  have hl := hd.len
  refine ⟨fun hi => ⟨xs, hq, by omega⟩, fun d hd' => ?_⟩
  obtain ⟨v, e1, e2⟩ := hd.get hd'
  refine ⟨⟨xs, v, hq, e1⟩, fun x H' ⟨hH, hx⟩ => .inl ⟨hH, ?_⟩⟩
  have := hx xs hq
  rw [e1] at this
  cases this
  exact e2
def rngD (lo : Int) (c : Int) : Nat → List PyData
  | 0 => []
  | n + 1 => .int lo :: rngD (lo + c) c n
theorem rngD_len (c : Int) : ∀ (n : Nat) (lo : Int), (rngD lo c n).length = n
  | 0, _ => rfl
  | n + 1, lo => by simp [rngD, rngD_len c n]
theorem rngD_get (c : Int) : ∀ (n : Nat) (lo : Int) (i : Nat) (d : PyData), (rngD lo c n)[i]? = some d → d = .int (lo + (i : Nat) * c) ∧ i < n
  | 0, _, _, _, h => by simp [rngD] at h
  | n + 1, lo, 0, d, h => by simp [rngD] at h; subst h; simp
  | n + 1, lo, i + 1, d, h => by
    obtain ⟨h1, h2⟩ := rngD_get c n (lo + c) i d (by simpa [rngD] using h)
    refine ⟨?_, by omega⟩
    rw [h1]
    congr 1
    rw [show ((i + 1 : Nat) : Int) = (i : Int) + 1 by omega, Int.add_mul, Int.one_mul]
    omega
theorem yld_itr {K : PySem.W.Frag} {F : Hp} {lo : Int} {n : Nat} : Yld K F (Itr lo n) (rngD lo 1 n) := fun i H e => by
  refine ⟨fun hi => by rw [rngD_len] at hi; exact Nat.le_of_eq hi.symm, fun d hd => ?_⟩
  obtain ⟨h1, h2⟩ := rngD_get 1 n lo i d hd
  refine ⟨h2, fun x H' ⟨hH, hx⟩ => .inl ⟨hH, ?_⟩⟩
  rw [hx, h1, Int.mul_one]
  exact .int _
theorem yld_itc {K : PySem.W.Frag} {F : Hp} {lo c : Int} {n : Nat} : Yld K F (Itc lo c n) (rngD lo c n) := fun i H e => by
  refine ⟨fun hi => by rw [rngD_len] at hi; exact Nat.le_of_eq hi.symm, fun d hd => ?_⟩
  obtain ⟨h1, h2⟩ := rngD_get c n lo i d hd
  refine ⟨h2, fun x H' ⟨hH, hx⟩ => .inl ⟨hH, ?_⟩⟩
  rw [hx, h1]
  exact .int _

/-! ### for -/
def forD (tgt : Tg) (body : DSt) : List PyData → DSt
  | [], s => .nx s
  | d :: r, s => match tgt d s with
    | none => .bad
    | some s1 => match body s1 with
      | .nx s2 => forD tgt body r s2
      | .ct s2 => forD tgt body r s2
      | .brk s2 => .nx s2
      | o => o
def sFor (it : DDs) (tgt : Tg) (body : DSt) : DSt := fun s => (it s).toS fun ds s1 => forD tgt body ds s1
section
variable {X : Cx} {C : Ct X.K} {pos : Pos} {tg iter : Expr} {body : List Stmt} {it : DDs} {g : Tg} {b : DSt}
theorem vs_for (hp : PassesOwn (model X.prog X.w) X.A X.env X.xe) (hc : X.calm = true) (hi : VI X C tg iter it) {vs : List Nat} (hg : VG X C tg vs g) (hb : VSs X C body b) (hs : ∀ x, foldedSetIterable iter X.env x = pure x := by intro _; rfl) : VSt X C (.For tg iter body [] pos) (sFor it g b) := by
  refine ⟨psI (ps_for hp hc hi.run hg.run hb.run hs) fun D σ H ⟨O, F, s, v, h⟩ => ⟨O, F, s, v, RdS.bind h Tr.refl fun ds s1 O1 F1 H1 v1 t1 h1 J hJ => ?_⟩⟩
  refine ⟨fun i m σ' H' => i + m = ds.length ∧ ∃ O' F' s', VS C O' F' s' σ' H' ∧ Tr O F H O' F' H' ∧ Same F1 F' ∧ RdS C O F H (forD g b (ds.drop i) s') D, ⟨ds.length, by omega, O1, F1, s1, v1, t1, Same.refl _, h1⟩, fun i m σ' H' hW => ?_⟩
  obtain ⟨hm, O', F', s', v', t', sf, hr⟩ := hW
  obtain ⟨j1, j2⟩ := hJ i H' (sf.trans v'.fh)
  by_cases hi : ds.length ≤ i
  · refine .inl ⟨j1 (by omega), ?_⟩
    rw [List.drop_eq_nil_of_le hi] at hr
    exact hr σ' O' F' H' v' t'
  · have hlt : i < ds.length := by omega
    obtain ⟨d, hd⟩ : ∃ d, ds[i]? = some d := ⟨ds[i], List.getElem?_eq_getElem hlt⟩
    have hdr : ds.drop i = d :: ds.drop (i + 1) := by
      rw [List.drop_eq_getElem_cons hlt]
      rw [List.getElem?_eq_getElem hlt] at hd
      cases hd
      rfl
    obtain ⟨jg, jy⟩ := j2 d hd
    rw [hdr] at hr
    simp only [forD] at hr
    refine .inr ⟨jg, fun σ2 H2 => ∃ O2 F2 s2, VS C O2 F2 s2 σ2 H2 ∧ Tr O F H O2 F2 H2 ∧ Same F1 F2 ∧ RdS C O F H (forD g b (ds.drop (i + 1)) s2) D, fun σ2 H2 ⟨O2, F2, s2, q1, q2, q3, q4⟩ => ⟨m - 1, by omega, by omega, O2, F2, s2, q1, q2, q3, q4⟩, fun x H2 hy => ?_⟩
    have key : ∃ F2, VS C O' F2 s' σ' H2 ∧ Tr O F H O' F2 H2 ∧ Same F1 F2 ∧ Dt X.K F2 x d := by
      rcases jy x H2 hy with ⟨rfl, hx⟩ | ⟨T, xs, es, rfl, hT, rfl, rfl, hx⟩
      · exact ⟨F', v', t', sf, hx.mono sf⟩
      · obtain ⟨v2, t2⟩ := v'.laid (.tup xs) hT
        exact ⟨_, v2, t'.trans t2, sf.trans t2.ff, .tup upd_same (hx.mono (sf.trans t2.ff))⟩
    obtain ⟨F2, v2, t2, sf2, hx⟩ := key
    cases e1 : g d s' with
    | none => rw [e1] at hr; exact hr.elim
    | some s2 =>
      rw [e1] at hr
      simp only at hr
      refine ⟨O', F2, s', d, s2, v2, hx, e1, fun σ3 v3 _ => ⟨O', F2, s2, v3, ?_⟩⟩
      cases e2 : b s2 with
      | nx s3 => rw [e2] at hr; exact fun σ4 O4 F4 H4 v4 t4 => ⟨O4, F4, s3, v4, t2.trans t4, sf2.trans t4.ff, hr⟩
      | ct s3 => rw [e2] at hr; exact fun σ4 O4 F4 H4 v4 t4 => ⟨O4, F4, s3, v4, t2.trans t4, sf2.trans t4.ff, hr⟩
      | brk s3 => rw [e2] at hr; exact fun σ4 O4 F4 H4 v4 t4 => hr σ4 O4 F4 H4 v4 (t2.trans t4)
      | rt d3 s3 => rw [e2] at hr; exact fun y σ4 O4 F4 H4 v4 t4 => hr y σ4 O4 F4 H4 v4 (t2.trans t4)
      | exc c fs s3 => rw [e2] at hr; exact fun σ4 O4 F4 H4 v4 t4 => hr σ4 O4 F4 H4 v4 (t2.trans t4)
      | bad => rw [e2] at hr; exact hr.elim
end
end VL

/-! enumerate of a tuple -/
namespace VL
open PySem PySem.Spec PyProof.Rows L2
open AutoSeq1 (wpAny_loadPart')

theorem newEnumT (l : Addr) (items : Array Value) (n : Nat) (dct : Option Addr) (sl : Array (Option Value)) :
    Meets (Builtin.«enumerate.__new__» ⟨[.type "enumerate", .ref l], []⟩)
      (fun _ R s => s.heap.get? l = some { cls := .type "tuple", dict := dct, data := .seq items n, slots := sl } ∧
        R (.ok (.ret (.ref (s.heap.push { cls := .type "tuple_iterator", data := .fields #[.ref l, .int 0 0] }).objs.size)))
          { s with heap := ((s.heap.push { cls := .type "tuple_iterator", data := .fields #[.ref l, .int 0 0] }).push
              { cls := .type "enumerate", data := .fields #[.none, .bool false, .ref s.heap.objs.size, rawInt 0, .none, .none] }) }) :=
  .of_wp fun prog w A R s h => by
    obtain ⟨hp, g, d, tk, os⟩ := s
    obtain ⟨hl, h⟩ := h
    have q1 := sub_enumerate
    have q2 : Heap.IsTuple (Shared.heap ⟨hp, g, d, tk, os⟩) l items := ⟨_, hl, rfl, n, rfl⟩
    wp_walk using wpAny_loadPart' hl
    refine wpAny_stack_any fun st => wpAny_pure ?_
    split
    · rename_i c _ _ _ _ _
      cases (c == Value.type "enumerate") <;>
        (wp_walk using wpAny_loadPart' hl, wpAny_pyIter_tuple q2; exact ⟨_, rfl, h⟩)
    · wp_walk using wpAny_loadPart' hl, wpAny_pyIter_tuple q2
      exact ⟨_, rfl, h⟩

theorem callEnumT {prog : Program} {w : World} {A : Around} {E : Value → Shared → Prop} {s : Shared} {l : Addr} {items : Array Value} {Q : Value → Shared → Prop} (hL : s.heap.IsTuple l items)
    (h : ∀ h', IsEnum h' (s.heap.objs.size + 1) s.heap.objs.size 0 .none → h'.IsTupleIter s.heap.objs.size l 0 →
      (∀ b o, s.heap.get? b = some o → h'.get? b = some o) → Q (.ref (s.heap.objs.size + 1)) { s with heap := h' }) :
    wpAny (model prog w) A (call (.type "enumerate") [.ref l]) Q E s := by
  obtain ⟨⟨c, dct, dt, sl⟩, hl, hc, n, hd⟩ := hL
  simp only at hc hd
  subst hc
  subst hd
  refine callType_new F.called_enumerate (by decide) (F.typeCall_enumerate_1 _) (F.newCall_enumerate_1 _)
    (fun obj => F.args_object_init_2 obj _) F.entry_enumerate_new (newEnumT l items n dct sl) ⟨hl, ?_⟩
  have z : (s.heap.push { cls := .type "tuple_iterator", data := .fields #[.ref l, .int 0 0] }).objs.size = s.heap.objs.size + 1 := Heap.size_push ..
  show _ ∧ _
  rw [z]
  have q : IsEnum ((s.heap.push { cls := .type "tuple_iterator", data := .fields #[.ref l, .int 0 0] }).push
      { cls := .type "enumerate", data := .fields #[.none, .bool false, .ref s.heap.objs.size, rawInt 0, .none, .none] })
      (s.heap.objs.size + 1) s.heap.objs.size 0 .none := by
    have k := Heap.get?_push_size (s.heap.push { cls := .type "tuple_iterator", data := .fields #[.ref l, .int 0 0] })
      (o := { cls := .type "enumerate", data := .fields #[.none, .bool false, .ref s.heap.objs.size, rawInt 0, .none, .none] }) rfl
    rw [z] at k
    exact k
  exact ⟨⟨_, q, rfl⟩, h _ q ⟨_, Heap.get?_push_of_some _ (Heap.get?_push_size _ rfl), rfl, rfl⟩
    fun b o x => Heap.get?_push_of_some _ (Heap.get?_push_of_some _ x)⟩

/-- the tuple at a, its items in new pairs -/
def ItEt (K : PySem.W.Frag) (a : Addr) : It :=
  ⟨fun i H => ∃ (xs : List V) (x : V), SqT K H a xs ∧ xs[i]? = some x,
    fun i H v H' => ∃ T x, v = .ref T ∧ H T = none ∧ H' = upd H T (.tup [.int (i : Nat), x]) ∧ ∀ xs, SqT K H a xs → xs[i]? = some x,
    fun i H => ∃ xs : List V, SqT K H a xs ∧ xs.length = i⟩
structure EtSt (a e it : Addr) (i : Nat) (h : Heap) : Prop where
  en : ∃ old, IsEnum h e it ((i : Nat) : Int) old
  ti : h.IsTupleIter it a i
theorem turnEt {P : Program} {w : World} {K : PySem.W.Frag} {elts : List Expr} {kk : Nat} {tpos : Pos} {a e it : Addr} (n1 : e ≠ it) (n2 : a ≠ it) (n3 : e ≠ a) :
    Turn P w K (.Tuple elts kk tpos) (ItEt K a) [e, it] e (fun i h => EtSt a e it i h) where
  mem := by simp
  obj := fun i h st b hb => by
    obtain ⟨⟨old, he⟩, ⟨o, ho, hc, hd⟩⟩ := st
    rcases (show b = e ∨ b = it by simpa using hb) with z | z
    · rw [z]
      exact ⟨_, he, fun v q => by cases q⟩
    · exact ⟨o, by rw [z]; exact ho, fun v q => by rw [hd] at q; cases q⟩
  keep := fun i h h' st k => ⟨let ⟨old, he⟩ := st.en; ⟨old, k e (by simp) _ he⟩, st.ti.at fun o q => k it (by simp) o q⟩
  item := by
    intro X hP hw hK hc i pins s σ H E I hf st hg
    subst hP
    subst hw
    subst hK
    obtain ⟨⟨old, he⟩, hi⟩ := st
    obtain ⟨xs, x, hq, hx⟩ := hg
    obtain ⟨its, rv, p, hz⟩ := I.tuple hq
    obtain ⟨u, hu, ru⟩ := rv.get hx
    have lt1 : e < s.heap.objs.size := Heap.lt_size he
    have lt2 : it < s.heap.objs.size := let ⟨_, q, _⟩ := hi; Heap.lt_size q
    have ul : i < its.length := (List.getElem?_eq_some_iff.mp hu).1
    have D := Draws.tuple (prog := X.prog) (w := X.w) (A := X.A.in1) (I.ok.hd hc) it a n2 its.toArray
    have ef : e ∉ [it, a] := by
      simp only [List.mem_cons, List.not_mem_nil, or_false, not_or]
      exact ⟨n1, n3⟩
    refine wpAny_pyNext_enum_itemD D he ⟨hi, p⟩ (by rw [List.size_toArray]; exact ul) n1 ef fun y h' tk hy ho hi' hT hsz hk => ?_
    have ey : y = u := by
      have q : its[i]? = some y := by simpa using hy
      rw [hu] at q
      cases q
      rfl
    subst ey
    refine ⟨_, rfl, wpAny_letOwnedTupleGo_enum (s := { s with heap := h', toks := tk + 1 }) ho fun h2 he2 sb => ?_⟩
    have gT : h2.get? s.heap.objs.size = some { cls := .type "tuple", data := .seq #[.int i tk, y] } := (sb.2 _ (Nat.ne_of_gt lt1)).trans hT
    have nw : ObjOk X.prog X.w (upd H s.heap.objs.size (.tup [.int (i : Nat), x])) h2 s.heap.objs.size (.tup [.int (i : Nat), x]) :=
      ⟨by show 2 ≤ sizeLine; decide, [.int i tk, y], .cons ⟨_, rfl⟩ (.cons ru .nil), ⟨_, gT, rfl, _, rfl⟩⟩
    have kp : ∀ b o, b ∉ [e, it] → s.heap.get? b = some o → h2.get? b = some o := fun b o hb q => by
      simp only [List.mem_cons, List.not_mem_nil, or_false, not_or] at hb
      exact (sb.2 b hb.1).trans (hk b o hb.1 hb.2 q)
    have J : Inv X pins σ (upd H s.heap.objs.size (.tup [.int (i : Nat), x])) { s with heap := h2, toks := tk + 1 } := I.turnedNew (ch := [e, it]) kp hf (Nat.le_refl _) nw
    refine ⟨.ref s.heap.objs.size, _, J, rfl, ⟨_, x, rfl, I.hok.fresh (Nat.le_refl _), rfl, fun ys hy => by rw [I.tuple_inj hy hq]; exact hx⟩, ⟨⟨y, ?_⟩, hi'.1.at fun o q => (sb.2 it (Ne.symm n1)).trans q⟩, fun b hb => ?_⟩
    · rw [show ((i + 1 : Nat) : Int) = (i : Int) + 1 by omega]
      exact he2
    · have lb : b < s.heap.objs.size := by
        rcases (show b = e ∨ b = it by simpa using hb) with z | z
        · rw [z]; exact lt1
        · rw [z]; exact lt2
      rw [upd_ne (Nat.ne_of_lt lb)]
      exact (hf b hb).1
  done := by
    intro X hP hw hK hc i pins s σ H E I hf st hg
    subst hP
    subst hw
    subst hK
    obtain ⟨⟨old, he⟩, hi⟩ := st
    obtain ⟨xs, hq, hx⟩ := hg
    obtain ⟨its, rv, p, hz⟩ := I.tuple hq
    obtain ⟨f0, f1, f2, f3, f4, f5⟩ := hf it (by simp)
    have D := Draws.tuple (prog := X.prog) (w := X.w) (A := X.A.in1) (I.ok.hd hc) it a n2 its.toArray
    have ei : i = its.toArray.size := by rw [List.size_toArray, ← rv.length]; exact hx.symm
    subst ei
    exact wpAny_pyNext_enum_endD D he ⟨hi, p⟩ fun h' eb => ⟨rfl, I.turned (t' := s.toks) (fun b o hb q => eb b o hb q) f0 f1 f3 f4 f5⟩
  self := fun A i s Q E st h => let ⟨⟨_, he⟩, _⟩ := st; wpAny_pyIter_enum he h
def iEnumT (K : PySem.W.Frag) (ta : TA) : TI := fun σ H R => ta σ H fun vs H1 => ∃ a xs, vs = [.ref a] ∧ SqT K H1 a xs ∧ R (ItEt K a) H1
theorem pi_enumT {X : Cx} {e : Expr} {ta : TA} {p pos tpos : Pos} {elts : List Expr} {kk : Nat} (hg : Gl X "enumerate") (hm : X.mg "enumerate" = none) (ha : PA X [e] ta) (hs : starEach [e] X.env = [(false, eval e X.env)] := by rfl) :
    PI X (.Tuple elts kk tpos) (.Call (.Name "enumerate" p) [e] [] pos) (iEnumT X.K ta) := by
  refine ⟨fun pins s σ H R I h => ?_⟩
  refine Call_ (ld_blt I hg hm boot_enumerate (PyProof.Rows.callWith_type1 (thn (ha.run pos pins s σ H _ I h) fun us s1 hq => ?_) hs rfl))
  obtain ⟨vs, H1, I1, r1, a, xs, rfl, hq, q⟩ := hq
  cases r1 with
  | cons r rr =>
    cases rr
    cases r
    obtain ⟨its, rv, pt, hz⟩ := I1.tuple hq
    have al : a < s1.heap.objs.size := let ⟨_, q, _⟩ := pt; Heap.lt_size q
    refine callEnumT (show s1.heap.IsTuple a its.toArray from pt) fun h' he hit hk => wpAny_pyIter_enum he ?_
    have I2 : Inv X pins σ H1 { s1 with heap := h' } := I1.kept (t' := s1.toks) hk
    refine ⟨s1.heap.objs.size + 1, [s1.heap.objs.size + 1, s1.heap.objs.size], _, _, H1, rfl, I2, turnEt (a := a) (Nat.succ_ne_self _) (Nat.ne_of_lt al) (Nat.ne_of_gt (Nat.lt_succ_of_lt al)), ⟨⟨.none, he⟩, hit⟩, fun b hb => ?_, q⟩
    have le : s1.heap.objs.size ≤ b := by
      rcases (show b = s1.heap.objs.size + 1 ∨ b = s1.heap.objs.size by simpa using hb) with z | z
      · rw [z]; exact Nat.le_succ _
      · rw [z]; exact Nat.le_refl _
    exact I1.fpOk le (I1.hok.fresh le)
end VL

namespace VL
open PySem PySem.Spec PyProof.Rows L2

/-! ### what is walked -/
def asSeq (d : PyData) (s : Sx) : Out (List PyData) :=
  match starD d with
  | some ds => .ok ds s
  | none => .bad
def iSeq (f : DD) : DDs := fun s => (f s).bind asSeq
def big : Int := 4611686018427387904
def okI (i : Int) : Bool := decide (-big ≤ i) && decide (i < big)
theorem okI_lo {i : Int} (h : okI i = true) : -(2 ^ 62) ≤ i ∧ i < 2 ^ 62 := by
  unfold okI big at h
  simp only [Bool.and_eq_true, decide_eq_true_eq] at h
  omega
def asInt (r : RV) (s : Sx) : Option Int :=
  match r.res s with
  | some (.int i) => some i
  | _ => none
def rng1 (i : Option Int) : Option (List PyData) := i.bind fun j => if okI j = true then some (rngD 0 1 j.toNat) else none
def rng2 (i j : Option Int) : Option (List PyData) := i.bind fun a => j.bind fun b => if okI a = true ∧ okI b = true then some (rngD a 1 (b - a).toNat) else none
def rng3 (i j k : Option Int) : Option (List PyData) := i.bind fun a => j.bind fun b => k.bind fun c => if c = -1 ∧ okI a = true ∧ okI b = true then some (rngD a (-1) (a - b).toNat) else
  if c = 2 ∧ 0 ≤ a ∧ a ≤ b ∧ b ≤ 1000000 then some (rngD a 2 ((b - a + 1) / 2).toNat) else none
def liftO (o : Option (List PyData)) (s : Sx) : Out (List PyData) :=
  match o with
  | some ds => .ok ds s
  | none => .bad
def iRng1 (f : DE) : DDs := fun s => (f s).bind fun r s1 => liftO (rng1 (asInt r s1)) s1
def iRng2 (f g : DE) : DDs := fun s => (f s).bind fun r s1 => (g s1).bind fun q s2 => liftO (rng2 (asInt r s2) (asInt q s2)) s2
def iRng3 (f g k : DE) : DDs := fun s => (f s).bind fun r s1 => (g s1).bind fun q s2 => (k s2).bind fun u s3 => liftO (rng3 (asInt r s3) (asInt q s3) (asInt u s3)) s3
def enumD (i : Int) : List PyData → List PyData
  | [] => []
  | d :: r => .tuple [.int i, d] :: enumD (i + 1) r
def iEnum0 (f : DDs) : DDs := fun s => (f s).bind fun ds s1 => match ds with | [d] => (match starD d with | some es => .ok (enumD 0 es) s1 | none => .bad) | _ => .bad
def zipD : List PyData → List PyData → List PyData
  | a :: as, b :: bs => .tuple [a, b] :: zipD as bs
  | _, _ => []
def iZip0 (f : DDs) : DDs := fun s => (f s).bind fun ds s1 => match ds with
  | [.list as, .list bs] => .ok (zipD as bs) s1
  | [.tuple as, .tuple bs] => .ok (zipD as bs) s1
  | _ => .bad
theorem enumD_len : ∀ (ds : List PyData) (i : Int), (enumD i ds).length = ds.length
  | [], _ => rfl
  | _ :: r, i => by simp [enumD, enumD_len r]
theorem enumD_get : ∀ (ds : List PyData) (k : Int) (i : Nat) (e : PyData), (enumD k ds)[i]? = some e → ∃ d, ds[i]? = some d ∧ e = .tuple [.int (k + i), d]
  | [], _, _, _, h => by simp [enumD] at h
  | d :: r, k, 0, e, h => by simp [enumD] at h; subst h; exact ⟨d, rfl, by simp⟩
  | d :: r, k, i + 1, e, h => by
    obtain ⟨z, h1, h2⟩ := enumD_get r (k + 1) i e (by simpa [enumD] using h)
    refine ⟨z, by simpa using h1, ?_⟩
    rw [h2, show k + 1 + (i : Int) = k + ((i + 1 : Nat) : Int) by omega]
theorem zipD_len : ∀ (as bs : List PyData), (zipD as bs).length = min as.length bs.length
  | [], _ => by simp [zipD]
  | _ :: _, [] => by simp [zipD]
  | _ :: as, _ :: bs => by simp [zipD, zipD_len as bs]
theorem zipD_get : ∀ (as bs : List PyData) (i : Nat) (e : PyData), (zipD as bs)[i]? = some e → ∃ a b, as[i]? = some a ∧ bs[i]? = some b ∧ e = .tuple [a, b]
  | [], _, _, _, h => by simp [zipD] at h
  | _ :: _, [], _, _, h => by simp [zipD] at h
  | a :: as, b :: bs, 0, e, h => by simp [zipD] at h; exact ⟨a, b, rfl, rfl, h.symm⟩
  | a :: as, b :: bs, i + 1, e, h => by
    obtain ⟨x, y, h1, h2, h3⟩ := zipD_get as bs i e (by simpa [zipD] using h)
    exact ⟨x, y, by simpa using h1, by simpa using h2, h3⟩
section
variable {K : PySem.W.Frag} {F : Hp} {a b : Addr} {xs ys : List V} {ds es : List PyData}
theorem yld_ite (h : F a = some (.lst xs)) (hd : DtAll K F xs ds) : Yld K F (Ite K a) (enumD 0 ds) := fun i H e => by
  have hq : SqL K H a xs := .of (e _ _ h)
  have hl := hd.len
  refine ⟨fun hi => ⟨xs, hq, by rw [enumD_len] at hi; omega⟩, fun d hd' => ?_⟩
  obtain ⟨z, h1, h2⟩ := enumD_get ds 0 i d hd'
  obtain ⟨v, e1, e2⟩ := hd.get h1
  refine ⟨⟨xs, v, hq, e1⟩, fun x H' hy => ?_⟩
  obtain ⟨T, y, rfl, hT, rfl, hx⟩ := hy
  have := hx xs hq
  rw [e1] at this
  cases this
  exact .inr ⟨T, _, _, rfl, hT, rfl, h2, .cons (by rw [Int.zero_add]; exact .int _) (.one e2)⟩
theorem yld_itet (h : SqT K F a xs) (hd : DtAll K F xs ds) : Yld K F (ItEt K a) (enumD 0 ds) := fun i H e => by
  have hq : SqT K H a xs := sqTM e h
  have hl := hd.len
  refine ⟨fun hi => ⟨xs, hq, by rw [enumD_len] at hi; omega⟩, fun d hd' => ?_⟩
  obtain ⟨z, h1, h2⟩ := enumD_get ds 0 i d hd'
  obtain ⟨v, e1, e2⟩ := hd.get h1
  refine ⟨⟨xs, v, hq, e1⟩, fun x H' hy => ?_⟩
  obtain ⟨T, y, rfl, hT, rfl, hx⟩ := hy
  have := hx xs hq
  rw [e1] at this
  cases this
  exact .inr ⟨T, _, _, rfl, hT, rfl, h2, .cons (by rw [Int.zero_add]; exact .int _) (.one e2)⟩
theorem yld_itz (h : F a = some (.lst xs)) (h' : F b = some (.lst ys)) (hd : DtAll K F xs ds) (he : DtAll K F ys es) : Yld K F (Itz K a b) (zipD ds es) := fun i H e => by
  have hq : SqL K H a xs := .of (e _ _ h)
  have hq' : SqL K H b ys := .of (e _ _ h')
  have hl := hd.len
  have hl' := he.len
  refine ⟨fun hi => ⟨xs, ys, hq, hq', by rw [zipD_len] at hi; omega⟩, fun d hd' => ?_⟩
  obtain ⟨z1, z2, h1, h2, h3⟩ := zipD_get ds es i d hd'
  obtain ⟨v, e1, e2⟩ := hd.get h1
  obtain ⟨u, f1, f2⟩ := he.get h2
  refine ⟨⟨xs, ys, v, u, hq, hq', e1, f1⟩, fun x H' hy => ?_⟩
  obtain ⟨T, y1, y2, rfl, hT, rfl, hx, hx'⟩ := hy
  have a1 := hx xs hq
  have a2 := hx' ys hq'
  rw [e1] at a1
  rw [f1] at a2
  cases a1
  cases a2
  exact .inr ⟨T, _, _, rfl, hT, rfl, h3, .cons e2 (.one f2)⟩
theorem yld_itzt (h : SqT K F a xs) (h' : SqT K F b ys) (hd : DtAll K F xs ds) (he : DtAll K F ys es) : Yld K F (RZ.ItzT K a b) (zipD ds es) := fun i H e => by
  have hq : SqT K H a xs := sqTM e h
  have hq' : SqT K H b ys := sqTM e h'
  have hl := hd.len
  have hl' := he.len
  refine ⟨fun hi => ⟨xs, ys, hq, hq', by rw [zipD_len] at hi; omega⟩, fun d hd' => ?_⟩
  obtain ⟨z1, z2, h1, h2, h3⟩ := zipD_get ds es i d hd'
  obtain ⟨v, e1, e2⟩ := hd.get h1
  obtain ⟨u, f1, f2⟩ := he.get h2
  refine ⟨⟨xs, ys, v, u, hq, hq', e1, f1⟩, fun x H' hy => ?_⟩
  obtain ⟨T, y1, y2, rfl, hT, rfl, hx, hx'⟩ := hy
  have a1 := hx xs hq
  have a2 := hx' ys hq'
  rw [e1] at a1
  rw [f1] at a2
  cases a1
  cases a2
  exact .inr ⟨T, _, _, rfl, hT, rfl, h3, .cons e2 (.one f2)⟩
end
section
variable {X : Cx} {C : Ct X.K} {pos p tpos : Pos} {tg e a b c : Expr} {elts : List Expr} {kk : Nat} {f : DD} {fa : DA} {fd : DDs}
theorem vi_seq (h : VD X C e f) : VI X C tg e (iSeq f) := by
  refine ⟨⟨fun pins s σ H R I ⟨O, F, st, v, q⟩ => ?_⟩⟩
  have q : Rd0 C σ O F H ((f st).bind asSeq) fun ds _ _ F' H' => ∀ J, Yld X.K F' J ds → R J H' := q
  cases e1 : f st with
  | bad => rw [e1] at q; exact q.elim
  | exc c fs s1 => rw [e1] at q; exact (pi_list h.run).run pins s σ H R I ⟨O, F, st, v, by rw [e1]; exact q⟩
  | ok d s1 =>
    rw [e1] at q
    cases d with
    | list ds =>
      refine (pi_list h.run).run pins s σ H R I ⟨O, F, st, v, ?_⟩
      rw [e1]
      intro O' F' H' v' t' x hx
      cases hx with
      | lst h1 h2 => exact ⟨_, rfl, ⟨_, .of (v'.fh _ _ h1)⟩, q O' F' H' v' t' _ (yld_list h1 h2)⟩
    | tuple ds =>
      refine (pi_tup h.run).run pins s σ H R I ⟨O, F, st, v, ?_⟩
      rw [e1]
      intro O' F' H' v' t' x hx
      cases hx with
      | tup h1 h2 => exact ⟨_, rfl, ⟨_, tupS (v'.fh _ _ h1)⟩, q O' F' H' v' t' _ (yld_tup (tupS h1) h2)⟩
    | _ => exact q.elim
theorem asInt_ok {O : Ow} {F H : Hp} {s : Sx} {σ : L2.St} {r : RV} {x : V} {i : Int} (v : VS C O F s σ H) (h : RVok C O F H σ r x) (e : asInt r s = some i) : x = .int i := by
  unfold asInt at e
  cases q : r.res s with
  | none => rw [q] at e; cases e
  | some d =>
    rw [q] at e
    have bo := h.bo v q
    cases d with
    | int j => cases e; exact bo.int
    | _ => cases e
theorem vi_rng1 {fa : DE} (h : VE X C a fa) (hm : X.mg "range" = none) (hg : Gl X "range" := by rfl) (hs : starEach [a] X.env = [(false, eval a X.env)] := by rfl) (he : starEach [a] X.env = (false, eval a X.env) :: starEach [] X.env := by rfl) : VI X C tg (.Call (.Name "range" p) [a] [] pos) (iRng1 fa) := by
  refine ⟨piI (pi_range1 hg hm (pa_cons h.run pa_nil he) hs) fun σ H R ⟨O, F, st, v, q⟩ => ⟨O, F, st, v, Rd0.bind q Tr.refl fun r s1 O1 F1 H1 v1 t1 q1 x hx _ => ?_⟩⟩
  cases e : asInt r s1 with
  | none => rw [e] at q1; exact q1.elim
  | some j =>
    rw [e] at q1
    simp only [rng1, Option.bind_some] at q1
    split at q1
    · rename_i ho
      obtain ⟨l1, l2⟩ := okI_lo ho
      exact ⟨j, by rw [asInt_ok v1 hx e], l1, l2, q1 O1 F1 H1 v1 t1 _ yld_itr⟩
    · exact q1.elim
theorem vi_rng2 {fa fb : DE} (h : VE X C a fa) (h' : VE X C b fb) (hm : X.mg "range" = none) (hg : Gl X "range" := by rfl) (hs : starEach [a, b] X.env = [(false, eval a X.env), (false, eval b X.env)] := by rfl) (hs2 : starEach [b] X.env = [(false, eval b X.env)] := by rfl)
    (he : starEach [a, b] X.env = (false, eval a X.env) :: starEach [b] X.env := by rfl) (he2 : starEach [b] X.env = (false, eval b X.env) :: starEach [] X.env := by rfl) : VI X C tg (.Call (.Name "range" p) [a, b] [] pos) (iRng2 fa fb) := by
  refine ⟨piI (pi_range2 hg hm (pa_cons h.run (pa_cons h'.run pa_nil he2) he) hs hs2) fun σ H R ⟨O, F, st, v, q⟩ => ⟨O, F, st, v, Rd0.bind q Tr.refl fun r s1 O1 F1 H1 v1 t1 q1 x hx _ => ?_⟩⟩
  refine ⟨O1, F1, s1, v1, Rd0.bind q1 t1 fun r2 s2 O2 F2 H2 v2 t2 q2 y hy _ => ?_⟩
  cases e : asInt r s2 with
  | none => rw [e] at q2; exact q2.elim
  | some i =>
    cases e' : asInt r2 s2 with
    | none => rw [e, e'] at q2; exact q2.elim
    | some j =>
      rw [e, e'] at q2
      simp only [rng2, Option.bind_some] at q2
      split at q2
      · rename_i ho
        obtain ⟨l1, l2⟩ := okI_lo ho.1
        obtain ⟨l3, l4⟩ := okI_lo ho.2
        exact ⟨i, j, by rw [asInt_ok v2 (hx.tr t2) e, asInt_ok v2 hy e'], ⟨l1, l2, l3, l4⟩, q2 O2 F2 H2 v2 (t1.trans t2) _ yld_itr⟩
      · exact q2.elim
theorem size2 {a b : Int} (h1 : 0 ≤ a) (h2 : a ≤ b) : Builtin.Range.rangeSize a b 2 = (((b - a + 1) / 2).toNat : Int) := by
  unfold Builtin.Range.rangeSize
  simp only [show (2 : Int) > 0 by decide, if_true]
  split <;> omega
theorem small2 {a b : Int} (h1 : 0 ≤ a) (h2 : a ≤ b) (h3 : b ≤ 1000000) : Builtin.Range.small a b 2 = true := by
  unfold Builtin.Range.small
  rw [size2 h1 h2]
  simp only [Builtin.Range.rangeFitsLong, Bool.and_eq_true, Bool.or_eq_true, decide_eq_true_eq, beq_iff_eq, show ((2 : Int) > 0) by decide, if_true]
  omega
theorem vi_rng3 {fa fb fc : DE} (h : VE X C a fa) (h' : VE X C b fb) (h'' : VE X C c fc) (hm : X.mg "range" = none) (hg : Gl X "range" := by rfl) (hs : starEach [a, b, c] X.env = (false, eval a X.env) :: starEach [b, c] X.env := by rfl) (hs2 : starEach [b, c] X.env = (false, eval b X.env) :: starEach [c] X.env := by rfl)
    (hs3 : starEach [c] X.env = (false, eval c X.env) :: starEach [] X.env := by rfl) (hpl : (backTo pos (starEach [b, c] X.env)).any (·.1) = false := by rfl) : VI X C tg (.Call (.Name "range" p) [a, b, c] [] pos) (iRng3 fa fb fc) := by
  refine ⟨piI (pi_range3 hg hm (pa_cons h.run (pa_cons h'.run (pa_cons h''.run pa_nil hs3) hs2) hs) hs hpl) fun σ H R ⟨O, F, st, v, q⟩ => ⟨O, F, st, v, Rd0.bind q Tr.refl fun r s1 O1 F1 H1 v1 t1 q1 x hx _ => ?_⟩⟩
  refine ⟨O1, F1, s1, v1, Rd0.bind q1 t1 fun r2 s2 O2 F2 H2 v2 t2 q2 y hy _ => ?_⟩
  refine ⟨O2, F2, s2, v2, Rd0.bind q2 (t1.trans t2) fun r3 s3 O3 F3 H3 v3 t3 q3 z hz _ => ?_⟩
  cases e : asInt r s3 with
  | none => rw [e] at q3; exact q3.elim
  | some i =>
    cases e' : asInt r2 s3 with
    | none => rw [e, e'] at q3; exact q3.elim
    | some j =>
      cases e'' : asInt r3 s3 with
      | none => rw [e, e', e''] at q3; exact q3.elim
      | some k =>
        rw [e, e', e''] at q3
        simp only [rng3, Option.bind_some] at q3
        have hxyz : [x, y, z] = [.int i, .int j, .int k] := by rw [asInt_ok v3 ((hx.tr t2).tr t3) e, asInt_ok v3 (hy.tr t3) e', asInt_ok v3 hz e'']
        split at q3
        · rename_i ho
          obtain ⟨rfl, h1, h2⟩ := ho
          obtain ⟨l1, l2⟩ := okI_lo h1
          obtain ⟨l3, l4⟩ := okI_lo h2
          exact ⟨i, j, -1, _, hxyz, RgC.neg l1 l2 l3 l4, q3 O3 F3 H3 v3 ((t1.trans t2).trans t3) _ yld_itc⟩
        · split at q3
          · rename_i ho
            obtain ⟨rfl, h1, h2, h3⟩ := ho
            exact ⟨i, j, 2, _, hxyz, ⟨by decide, by decide, small2 h1 h2 h3, size2 h1 h2⟩, q3 O3 F3 H3 v3 ((t1.trans t2).trans t3) _ yld_itc⟩
          · exact q3.elim
theorem vi_enum (h : VDs X C [e] fd) (hm : X.mg "enumerate" = none) (hg : Gl X "enumerate" := by rfl) (hs : starEach [e] X.env = [(false, eval e X.env)] := by rfl) : VI X C (.Tuple elts kk tpos) (.Call (.Name "enumerate" p) [e] [] pos) (iEnum0 fd) := by
  refine ⟨⟨fun pins s σ H R I ⟨O, F, st, v, q⟩ => ?_⟩⟩
  have q : Rd0 C σ O F H ((fd st).bind fun ds s1 => match ds with | [d] => (match starD d with | some es => .ok (enumD 0 es) s1 | none => .bad) | _ => .bad) fun ds _ _ F' H' => ∀ J, Yld X.K F' J ds → R J H' := q
  cases e1 : fd st with
  | bad => rw [e1] at q; exact q.elim
  | exc c fs s1 => rw [e1] at q; exact (pi_enum hg hm h.run hs).run pins s σ H R I ⟨O, F, st, v, by rw [e1]; exact q⟩
  | ok ds s1 =>
    rw [e1] at q
    simp only [Out.bind] at q
    split at q
    · rename_i d
      cases d with
      | list es =>
        refine (pi_enum hg hm h.run hs).run pins s σ H R I ⟨O, F, st, v, ?_⟩
        rw [e1]
        intro O' F' H' v' t' x hx
        cases hx with
        | cons hx hr =>
          cases hr
          cases hx with
          | lst h1 h2 => exact ⟨_, _, rfl, .of (v'.fh _ _ h1), q O' F' H' v' t' _ (yld_ite h1 h2)⟩
      | tuple es =>
        refine (pi_enumT hg hm h.run hs).run pins s σ H R I ⟨O, F, st, v, ?_⟩
        rw [e1]
        intro O' F' H' v' t' x hx
        cases hx with
        | cons hx hr =>
          cases hr
          cases hx with
          | tup h1 h2 => exact ⟨_, _, rfl, tupS (v'.fh _ _ h1), q O' F' H' v' t' _ (yld_itet (tupS h1) h2)⟩
      | _ => exact q.elim
    · exact q.elim
theorem vi_zip (h : VDs X C [a, b] fd) (hm : X.mg "zip" = none) (hg : Gl X "zip" := by rfl) (hs : starEach [a, b] X.env = (false, eval a X.env) :: starEach [b] X.env := by rfl) (hpl : (backTo pos (starEach [b] X.env)).any (·.1) = false := by rfl) :
    VI X C (.Tuple elts kk tpos) (.Call (.Name "zip" p) [a, b] [] pos) (iZip0 fd) := by
  refine ⟨piI (RZ.pi_zipA hg hm h.run hs hpl) fun σ H R ⟨O, F, st, v, q⟩ => ⟨O, F, st, v, Rd0.bind q Tr.refl fun ds s1 O1 F1 H1 v1 t1 q1 xs hxs => ?_⟩⟩
  split at q1
  · cases hxs with
    | cons h1 r =>
      cases r with
      | cons h2 r2 =>
        cases r2
        cases h1 with
        | lst a1 a2 =>
          cases h2 with
          | lst b1 b2 => exact ⟨_, _, _, _, rfl, .inl ⟨.of (v1.fh _ _ a1), .of (v1.fh _ _ b1), q1 O1 F1 H1 v1 t1 _ (yld_itz a1 b1 a2 b2)⟩⟩
  · cases hxs with
    | cons h1 r =>
      cases r with
      | cons h2 r2 =>
        cases r2
        cases h1 with
        | tup a1 a2 =>
          cases h2 with
          | tup b1 b2 => exact ⟨_, _, _, _, rfl, .inr ⟨tupS (v1.fh _ _ a1), tupS (v1.fh _ _ b1), q1 O1 F1 H1 v1 t1 _ (yld_itzt (tupS a1) (tupS b1) a2 b2)⟩⟩
  · exact q1.elim
end
end VL

namespace VL
open PySem PySem.Spec PyProof.Rows L2

/-! ### comprehensions -/
def wipeG (g : List (Option VB)) : List Nat → List (Option VB)
  | [] => g
  | v :: vs => (wipeG g vs).set v none
def wipeX (vs : List Nat) (s : Sx) : Sx := { s with g := wipeG s.g vs }
def backG (g0 : List (Option VB)) (g : List (Option VB)) : List Nat → List (Option VB)
  | [] => g
  | v :: vs => (backG g0 g vs).set v (g0[v]?.getD none)
def backX (vs : List Nat) (s0 s : Sx) : Sx := { s with g := backG s0.g s.g vs }
def noOwn (vs : List Nat) (s : Sx) : Bool := vs.all fun j => match s.g[j]? with
  | some (some b) => b.isDat
  | _ => true
theorem wipeG_len (g : List (Option VB)) : ∀ vs, (wipeG g vs).length = g.length
  | [] => rfl
  | v :: vs => by unfold wipeG; rw [List.length_set, wipeG_len g vs]
theorem backG_len (g0 g : List (Option VB)) : ∀ vs, (backG g0 g vs).length = g.length
  | [] => rfl
  | v :: vs => by unfold backG; rw [List.length_set, backG_len g0 g vs]
theorem wipeG_some {g : List (Option VB)} {i : Nat} {b : VB} : ∀ {vs : List Nat}, (wipeG g vs)[i]? = some (some b) → g[i]? = some (some b) ∧ i ∉ vs
  | [], h => ⟨h, by simp⟩
  | v :: vs, h => by
    unfold wipeG at h
    by_cases hi : v = i
    · subst hi
      by_cases hv : v < (wipeG g vs).length
      · rw [List.getElem?_set_self hv] at h; cases h
      · rw [List.getElem?_eq_none (by simpa using hv)] at h; cases h
    · rw [List.getElem?_set_ne hi] at h
      obtain ⟨h1, h2⟩ := wipeG_some h
      exact ⟨h1, by simp only [List.mem_cons, not_or]; exact ⟨fun e => hi e.symm, h2⟩⟩
theorem wipe_off {σ : L2.St} {i : Nat} : ∀ {vs : List Nat}, i ∉ vs → (wipe σ vs)[i]? = σ[i]?
  | [], _ => rfl
  | v :: vs, h => by
    simp only [List.mem_cons, not_or] at h
    unfold wipe
    rw [List.getElem?_set_ne (fun z => h.1 z.symm)]
    exact wipe_off h.2
theorem wipe_in {σ : L2.St} {i : Nat} : ∀ {vs : List Nat}, i ∈ vs → i < σ.length → (wipe σ vs)[i]? = some none
  | [], h, _ => by simp at h
  | v :: vs, h, hl => by
    unfold wipe
    by_cases hi : v = i
    · subst hi
      rw [List.getElem?_set_self (by rw [wipe_length]; exact hl)]
    · rw [List.getElem?_set_ne hi]
      rcases List.mem_cons.mp h with e | e
      · exact absurd e.symm hi
      · exact wipe_in e hl
theorem wipe_eq {σ τ : L2.St} {ts vs : List Nat} (h : Off ts (wipe σ vs) τ) (hs : ∀ t ∈ ts, t ∈ vs) : wipe τ vs = wipe σ vs := by
  apply List.ext_getElem?
  intro i
  have hl : τ.length = σ.length := h.1.trans (wipe_length σ vs)
  by_cases hi : i ∈ vs
  · by_cases hr : i < σ.length
    · rw [wipe_in hi hr, wipe_in hi (by rw [hl]; exact hr)]
    · rw [List.getElem?_eq_none (by rw [wipe_length, hl]; omega), List.getElem?_eq_none (by rw [wipe_length]; omega)]
  · rw [wipe_off hi, h.2 i (fun z => hi (hs i z))]
theorem backG_some {g0 g : List (Option VB)} {i : Nat} {b : VB} : ∀ {vs : List Nat}, (backG g0 g vs)[i]? = some (some b) → (i ∈ vs ∧ g0[i]? = some (some b)) ∨ (i ∉ vs ∧ g[i]? = some (some b))
  | [], h => .inr ⟨by simp, h⟩
  | v :: vs, h => by
    unfold backG at h
    by_cases hi : v = i
    · subst hi
      by_cases hv : v < (backG g0 g vs).length
      · rw [List.getElem?_set_self hv] at h
        refine .inl ⟨List.mem_cons_self, ?_⟩
        cases q : g0[v]? with
        | none => rw [q] at h; cases h
        | some o =>
          rw [q] at h
          exact h
      · rw [List.getElem?_eq_none (by simpa using hv)] at h; cases h
    · rw [List.getElem?_set_ne hi] at h
      rcases backG_some h with ⟨h1, h2⟩ | ⟨h1, h2⟩
      · exact .inl ⟨List.mem_cons_of_mem _ h1, h2⟩
      · exact .inr ⟨by simp only [List.mem_cons, not_or]; exact ⟨fun e => hi e.symm, h1⟩, h2⟩
/-- nothing is raised -/
abbrev Ct.nox {K : PySem.W.Frag} (C : Ct K) : Ct K := { C with xw := fun _ _ _ _ _ _ _ => False }
section
variable {K : PySem.W.Frag} {C : Ct K} {O O1 O2 : Ow} {F F1 F2 H H1 H2 : Hp} {s s0 s1 : Sx} {σ : L2.St}
theorem VS.nox (v : VS C O F s σ H) : VS C.nox O F s σ H := ⟨v.len, v.fh, v.hh, v.ff, v.nw, v.ow, v.pl, v.dr, v.tp⟩
theorem VS.unnox (v : VS C.nox O F s σ H) : VS C O F s σ H := ⟨v.len, v.fh, v.hh, v.ff, v.nw, v.ow, v.pl, v.dr, v.tp⟩
theorem VS.wipe (v : VS C O F s σ H) (vs : List Nat) : VS C O F (wipeX vs s) (L2.wipe σ vs) H := by
  refine v.weak (wipeG_len _ _) (wipe_length _ _) fun i b e => ?_
  obtain ⟨h1, h2⟩ := wipeG_some e
  exact ⟨h1, fun x hx => by rw [wipe_off h2]; exact hx⟩
theorem VS.wiped {τ : L2.St} {vs : List Nat} (v : VS C O F s τ H) (e : L2.wipe τ vs = L2.wipe σ vs) : VS C O F (wipeX vs s) (L2.wipe σ vs) H := by
  have := v.wipe vs
  rw [e] at this
  exact this
theorem VS.back (v0 : VS C O1 F1 s0 σ H1) {vs : List Nat} (v : VS C O2 F2 s (L2.wipe σ vs) H2) (t : Tr O1 F1 H1 O2 F2 H2) (ho : noOwn vs s0 = true) : VS C O2 F2 (backX vs s0 s) σ H2 := by
  refine ⟨?_, v.fh, v.hh, v.ff, v.nw, v.ow, fun i b e => ?_, v.dr, v.tp⟩
  · show σ.length = (backG s0.g s.g vs).length
    rw [backG_len, ← v.len, wipe_length]
  · rcases backG_some (show (backG s0.g s.g vs)[i]? = some (some b) from e) with ⟨h1, h2⟩ | ⟨h1, h2⟩
    · obtain ⟨x, e1, e2⟩ := v0.pl i b h2
      refine ⟨x, e1, ?_⟩
      have := List.all_eq_true.mp ho i h1
      rw [h2] at this
      cases b with
      | dat d => exact Dt.mono t.ff e2
      | drw => exact e2
      | own ds => cases this
      | dk ds => cases this
      | dt ds => cases this
    · obtain ⟨x, e1, e2⟩ := v.pl i b h2
      exact ⟨x, (wipe_some e1).1, e2⟩
end
structure VTs (X : Cx) (C : Ct X.K) (ifs : List Expr) (f : DT) : Prop where
  run : PTs X ifs (tT C f)
def tdYes : DT := fun s => .ok true s
theorem vts_nil {X : Cx} {C : Ct X.K} : VTs X C [] tdYes := ⟨⟨fun pins s σ H Q I ⟨O, F, st, v, h⟩ => pts_nil.run pins s σ H Q I (h O F H v Tr.refl)⟩⟩
theorem vts_one {X : Cx} {C : Ct X.K} {c : Expr} {f : DT} (h : VT X C c f) : VTs X C [c] f := ⟨pts_one h.run⟩
def Out.nox {α : Type} : Out α → Out α
  | .exc _ _ _ => .bad
  | o => o
/-- the turns of a comprehension -/
def lcA (vs : List Nat) (tgt : Tg) (test : DT) (elt : DD) (acc : List PyData) : List PyData → Sx → Out (List PyData)
  | [], s => .ok acc s
  | d :: r, s => match tgt d s with
    | none => .bad
    | some s1 => (test s1).nox.bind fun b s2 => if b = true then
        (elt s2).nox.bind fun e s3 => if acc.length < 1000000 then lcA vs tgt test elt (acc ++ [e]) r (wipeX vs s3) else .bad
      else lcA vs tgt test elt acc r (wipeX vs s2)
def dLc (vs : List Nat) (it : DDs) (tgt : Tg) (test : DT) (elt : DD) : DE := fun s => (it s).bind fun ds s1 =>
  if noOwn vs s1 = true then (lcA vs tgt test elt [] ds (wipeX vs s1)).bind fun es s2 => .ok (.tmp es) (backX vs s1 s2) else .bad
theorem Out.bind_assoc {α β γ : Type} (o : Out α) (f : α → Sx → Out β) (g : β → Sx → Out γ) : (o.bind f).bind g = o.bind fun a s => (f a s).bind g := by
  cases o <;> rfl
theorem Tr.wr {O O' : Ow} {F H F' H' : Hp} {D : Addr} {o : HO} (t : Tr O F H O' F' H') (hD : H D = none) : Tr O F H O' F' (upd H' D o) := by
  have ne : ∀ p u, H p = some u → p ≠ D := fun p u h z => by subst z; rw [hD] at h; cases h
  refine ⟨t.ff, fun p u h1 h2 => by rw [upd_ne (ne p u h1)]; exact t.kp p u h1 h2, fun p h => ?_, t.nf, t.no⟩
  by_cases z : p = D
  · subst z; rw [upd_same]; exact fun z => nomatch z
  · rw [upd_ne z]; exact t.hs p h
theorem Rd0.noxI {α β : Type} {K : PySem.W.Frag} {C : Ct K} {O O1 : Ow} {F F1 H H1 : Hp} {σ τ : L2.St} {o : Out α} {k : α → Sx → Out β} {P : β → Sx → Ow → Hp → Hp → Prop} {P' : α → Sx → Ow → Hp → Hp → Prop}
    (h : Rd0 C τ O F H (o.nox.bind k) P) (f : ∀ a s2 O2 F2 H2, VS C O2 F2 s2 σ H2 → Tr O1 F1 H1 O2 F2 H2 → Rd0 C τ O F H (k a s2) P → P' a s2 O2 F2 H2) : Rd0 C.nox σ O1 F1 H1 o P' := by
  cases o with
  | ok a s' => exact fun O' F' H' v u => f a s' O' F' H' v.unnox u h
  | exc c fs s' => exact h.elim
  | bad => exact h
section
variable {X : Cx} {C : Ct X.K} {pos : Pos} {elt tg iter : Expr} {ifs : List Expr} {scope : Scope} {own : List (Str × Nat)} {it : DDs} {g : Tg} {tt : DT} {te : DD} {ts : List Nat}
abbrev tG {K : PySem.W.Frag} (C : Ct K) (ts : List Nat) (g : Tg) : TG := fun x σ H Q => ∃ O F s d s', VS C O F s σ H ∧ Dt K F x d ∧ g d s = some s' ∧ ∀ σ', VS C O F s' σ' H → Off ts σ σ' → Q σ' H
theorem tLc_of {σ : L2.St} {H : Hp} {Q : VK} {vs : List Nat} (hts : ∀ t ∈ ts, t ∈ vs) (h : tE C (dLc vs it g tt te) σ H Q) :
    tLc (fun σ H R => ∃ O F s, VS C O F s σ H ∧ Rd0 C σ O F H (it s) fun ds _ _ F' H' => ∀ J, Yld X.K F' J ds → R J H')
      (fun x σ H Q => ∃ O F s d s', VS C.nox O F s σ H ∧ Dt X.K F x d ∧ g d s = some s' ∧ ∀ σ', VS C.nox O F s' σ' H → Off ts σ σ' → Q σ' H)
      (tT C.nox tt) (tD C.nox te) vs σ H Q := by
  obtain ⟨O, F, s, v, h⟩ := h
  refine ⟨O, F, s, v, Rd0.bind h Tr.refl fun ds s1 O1 F1 H1 v1 t1 h1 J hJ => ?_⟩
  intro D hD
  split at h1
  case isFalse => exact h1.elim
  rename_i hown
  obtain ⟨v2, t2⟩ := v1.fresh (.lst []) hD
  refine ⟨fun i m H' => i + m = ds.length ∧ ∃ O' F' s' acc xs, VS C O' F' s' (wipe σ vs) H' ∧ Tr O1 F1 H1 O' F' H' ∧ H' D = some (.lst xs) ∧ F' D = none ∧ O' D = none ∧ DtAll X.K F' xs acc ∧
      RdE C σ O F H ((lcA vs g tt te acc (ds.drop i) s').bind fun es s2 => .ok (.tmp es) (backX vs s1 s2)) Q,
    ⟨ds.length, by omega, O1, F1, wipeX vs s1, [], [], v2.wipe vs, t2, upd_same, v1.fh.free hD, v1.ofree hD, .nil, h1⟩, fun i m H' hW => ?_⟩
  obtain ⟨hm, O', F', s', acc, xs, v', t', e1, e2, e3, e4, hr⟩ := hW
  have t0 : Tr O1 F1 H1 O' F' H' := t'
  obtain ⟨j1, j2⟩ := hJ i H' (t'.ff.trans v'.fh)
  have h0 : C.H0 D = none := v1.hh.free hD
  by_cases hi : ds.length ≤ i
  · refine .inl ⟨j1 (by omega), ?_⟩
    rw [List.drop_eq_nil_of_le hi] at hr
    exact hr O' F' H' (v1.back v' t0 hown) (t1.trans t0) (.ref D) ⟨D, xs, rfl, e1, e2, h0, e3, e4⟩ (fun p hp => by cases hp; exact t1.back (.inl hD))
  · have hlt : i < ds.length := by omega
    obtain ⟨d, hd⟩ : ∃ d, ds[i]? = some d := ⟨ds[i], List.getElem?_eq_getElem hlt⟩
    have hdr : ds.drop i = d :: ds.drop (i + 1) := by
      rw [List.drop_eq_getElem_cons hlt]
      rw [List.getElem?_eq_getElem hlt] at hd
      cases hd
      rfl
    obtain ⟨jg, jy⟩ := j2 d hd
    rw [hdr] at hr
    simp only [lcA] at hr
    refine .inr ⟨jg, fun H2 => ∃ O2 F2 s2 acc xs, VS C O2 F2 s2 (wipe σ vs) H2 ∧ Tr O1 F1 H1 O2 F2 H2 ∧ H2 D = some (.lst xs) ∧ F2 D = none ∧ O2 D = none ∧ DtAll X.K F2 xs acc ∧
      RdE C σ O F H ((lcA vs g tt te acc (ds.drop (i + 1)) s2).bind fun es s2 => .ok (.tmp es) (backX vs s1 s2)) Q, fun H2 ⟨O2, F2, s2, acc2, xs2, q⟩ => ⟨m - 1, by omega, by omega, O2, F2, s2, acc2, xs2, q⟩, fun x H2 hy => ?_⟩
    have key : ∃ F2, VS C O' F2 s' (wipe σ vs) H2 ∧ Tr O' F' H' O' F2 H2 ∧ Dt X.K F2 x d := by
      rcases jy x H2 hy with ⟨rfl, hx⟩ | ⟨T, ys, es, rfl, hT, rfl, rfl, hx⟩
      · exact ⟨F', v', Tr.refl, hx.mono t'.ff⟩
      · obtain ⟨w1, w2⟩ := v'.laid (.tup ys) hT
        exact ⟨_, w1, w2, .tup upd_same (hx.mono (t'.ff.trans w2.ff))⟩
    obtain ⟨F2, w2, u2, hx⟩ := key
    cases eg : g d s' with
    | none => rw [eg] at hr; exact hr.elim
    | some s2 =>
      rw [eg] at hr
      refine ⟨O', F2, s', d, s2, w2.nox, hx, eg, fun σ3 v3 off => ⟨wipe_eq off hts, ?_⟩⟩
      have we := wipe_eq off hts
      refine ⟨O', F2, s2, v3, ?_⟩
      have hr1 : RdE C σ O F H (((tt s2).nox.bind fun b s2 => if b = true then
        (te s2).nox.bind fun e s3 => if acc.length < 1000000 then lcA vs g tt te (acc ++ [e]) (ds.drop (i + 1)) (wipeX vs s3) else .bad
        else lcA vs g tt te acc (ds.drop (i + 1)) (wipeX vs s2)).bind fun es s2 => .ok (.tmp es) (backX vs s1 s2)) Q := hr
      rw [Out.bind_assoc] at hr1
      refine Rd0.noxI hr1 fun b s3 O3 F3 H3 v3 u3 hr2 => ?_
      have td : Tr O' F' H' O3 F3 H3 := u2.trans u3
      obtain ⟨d1, d2, d3⟩ := td.tmp e1 e2 e3
      cases b with
      | false =>
        refine ⟨O3, F3, wipeX vs s3, acc, xs, ?_, t'.trans td, d1, d2, d3, e4.mono td.ff, hr2⟩
        exact VS.wiped v3 we
      | true =>
        refine ⟨O3, F3, s3, v3.nox, ?_⟩
        have hr3 : RdE C σ O F H (((te s3).nox.bind fun e s3 => if acc.length < 1000000 then lcA vs g tt te (acc ++ [e]) (ds.drop (i + 1)) (wipeX vs s3) else .bad).bind fun es s2 => .ok (.tmp es) (backX vs s1 s2)) Q := hr2
        rw [Out.bind_assoc] at hr3
        refine Rd0.noxI hr3 fun e s4 O4 F4 H4 v4 u4 hr4 y hy => ?_
        have te' : Tr O' F' H' O4 F4 H4 := td.trans u4
        obtain ⟨d1, d2, d3⟩ := te'.tmp e1 e2 e3
        split at hr4
        case isFalse => exact hr4.elim
        rename_i hz
        have hlen := e4.len
        refine ⟨xs, d1, by rw [hlen]; exact Nat.lt_of_lt_of_le hz (by decide), ?_⟩
        refine ⟨O4, F4, wipeX vs s4, acc ++ [e], xs ++ [y], VS.wiped (v4.wtmp d1 d2 h0 d3) we, ?_, upd_same, d2, d3, (e4.mono te'.ff).app (.one hy), hr4⟩
        exact (t'.trans te').wr hD
theorem ve_lc (hc : X.calm = true) (hN : X.N.Nodup) (hi : VI X C tg iter it) (ok : BlkOk X.N X.env.scope scope own) (hts : ∀ t ∈ ts, t ∈ own.map (·.2))
    (hg : ∀ (s : Shared) (H : Hp) (D : Addr) (cl : List (Str × Addr)) (fp : List Addr), VG (X.blk s H scope (compEnvC scope cl D X.env) fp) C.nox tg ts g)
    (ht : ∀ (s : Shared) (H : Hp) (D : Addr) (cl : List (Str × Addr)) (fp : List Addr), VTs (X.blk s H scope (compEnvC scope cl D X.env) fp) C.nox ifs tt)
    (he : ∀ (s : Shared) (H : Hp) (D : Addr) (cl : List (Str × Addr)) (fp : List Addr), VD (X.blk s H scope (compEnvC scope cl D X.env) fp) C.nox elt te)
    (hs : ∀ x, foldedSetIterable iter X.env x = pure x := by intro _; rfl) : VE X C (.ListComp elt [⟨tg, iter, ifs, 0⟩] scope pos) (dLc (own.map (·.2)) it g tt te) :=
  ⟨peI (pe_lc (te := tD (K := X.K) C.nox te) (g := tG (K := X.K) C.nox ts g) (tt := tT (K := X.K) C.nox tt) hc hN hi.run ok (fun s H D cl fp => (hg s H D cl fp).run) (fun s H D cl fp => (ht s H D cl fp).run) (fun s H D cl fp => (he s H D cl fp).run) hs) fun _ _ _ h => tLc_of hts h⟩
theorem vs_setLc {i : Nat} {y : Str} {py spos : Pos} (hc : X.calm = true) (hN : X.N.Nodup) (hi : VI X C tg iter it) (ok : BlkOk X.N X.env.scope scope own) (hts : ∀ t ∈ ts, t ∈ own.map (·.2))
    (hg : ∀ (s : Shared) (H : Hp) (D : Addr) (cl : List (Str × Addr)) (fp : List Addr), VG (X.blk s H scope (compEnvC scope cl D X.env) fp) C.nox tg ts g)
    (ht : ∀ (s : Shared) (H : Hp) (D : Addr) (cl : List (Str × Addr)) (fp : List Addr), VTs (X.blk s H scope (compEnvC scope cl D X.env) fp) C.nox ifs tt)
    (he : ∀ (s : Shared) (H : Hp) (D : Addr) (cl : List (Str × Addr)) (fp : List Addr), VD (X.blk s H scope (compEnvC scope cl D X.env) fp) C.nox elt te)
    (hy : X.N[i]? = some y := by rfl) (hyl : X.env.scope.names.lookup y = some .local := by rfl) (hsw : swapsWith (.ListComp elt [⟨tg, iter, ifs, 0⟩] scope pos) (some (.Name y py)) spos.line X.env = pure true := by exact sw_true rfl rfl rfl (by decide +kernel))
    (hs : ∀ x, foldedSetIterable iter X.env x = pure x := by intro _; rfl) : VSt X C (.Assign [.Name y py] (.ListComp elt [⟨tg, iter, ifs, 0⟩] scope pos) spos) (sSet i (dLc (own.map (·.2)) it g tt te)) := by
  refine ⟨psI (ps_setLc (te := tD (K := X.K) C.nox te) (g := tG (K := X.K) C.nox ts g) (tt := tT (K := X.K) C.nox tt) hc hN hy hyl hsw hi.run ok (fun s H D cl fp => (hg s H D cl fp).run) (fun s H D cl fp => (ht s H D cl fp).run) (fun s H D cl fp => (he s H D cl fp).run) hs) fun D σ H ⟨O, F, s, v, h⟩ => ?_⟩
  refine tLc_of (C := C) (Q := fun x H1 => D.nx (σ.set i (some x)) H1) hts ⟨O, F, s, v, RdS.bind h Tr.refl fun r s1 O1 F1 H1 v1 t1 h1 x hx hf => putR_ok h1 t1 v1 hx hf⟩
end
end VL

namespace VL
open PySem PySem.Spec PyProof.Rows L2

/-! ### while -/
def whileD (c : DT) (body : DSt) : Nat → DSt
  | 0, _ => .bad
  | n + 1, s => (c s).toS fun b s1 => if b = true then
      (match body s1 with
      | .nx s2 => whileD c body n s2
      | .ct s2 => whileD c body n s2
      | .brk s2 => .nx s2
      | o => o) else .nx s1
section
variable {X : Cx} {C : Ct X.K} {pos : Pos} {c : Expr} {body : List Stmt} {tc : DT} {b : DSt}
theorem vs_while (n : Nat) (hp : PassesOwn (model X.prog X.w) X.A X.env X.xe) (hc : VT X C c tc) (hb : VSs X C body b) : VSt X C (.While c body [] pos) (whileD tc b n) := by
  refine ⟨psI (ps_while hp hc.run hb.run) fun D σ H ⟨O, F, s, v, h⟩ => ?_⟩
  refine ⟨fun m σ' H' => ∃ O' F' s', VS C O' F' s' σ' H' ∧ Tr O F H O' F' H' ∧ RdS C O F H (whileD tc b m s') D, ⟨n, O, F, s, v, Tr.refl, h⟩, fun m σ' H' hW => ?_⟩
  obtain ⟨O', F', s', v', t', hr⟩ := hW
  cases m with
  | zero => exact hr.elim
  | succ m =>
    refine ⟨O', F', s', v', RdS.bind hr t' fun k s1 O1 F1 H1 v1 t1 h1 => ?_⟩
    have t01 := t'.trans t1
    cases k with
    | false => exact h1 σ' O1 F1 H1 v1 t01
    | true =>
      simp only [if_true] at h1 ⊢
      refine ⟨fun σ2 H2 => ∃ O2 F2 s2, VS C O2 F2 s2 σ2 H2 ∧ Tr O F H O2 F2 H2 ∧ RdS C O F H (whileD tc b m s2) D, fun σ2 H2 q => ⟨m, by omega, q⟩, O1, F1, s1, v1, ?_⟩
      cases e : b s1 with
      | nx s2 => rw [e] at h1; exact fun σ2 O2 F2 H2 v2 t2 => ⟨O2, F2, s2, v2, t01.trans t2, h1⟩
      | ct s2 => rw [e] at h1; exact fun σ2 O2 F2 H2 v2 t2 => ⟨O2, F2, s2, v2, t01.trans t2, h1⟩
      | brk s2 => rw [e] at h1; exact fun σ2 O2 F2 H2 v2 t2 => h1 σ2 O2 F2 H2 v2 (t01.trans t2)
      | rt d s2 => rw [e] at h1; exact fun x σ2 O2 F2 H2 v2 t2 => h1 x σ2 O2 F2 H2 v2 (t01.trans t2)
      | exc c fs s2 => rw [e] at h1; exact fun σ2 O2 F2 H2 v2 t2 => h1 σ2 O2 F2 H2 v2 (t01.trans t2)
      | bad => rw [e] at h1; exact h1.elim
end

/-! ### stores into a list of its own -/
def ownAt (s : Sx) (k : Nat) : Option (List PyData) :=
  match s.g[k]? with
  | some (some (.own ds)) => some ds
  | _ => none
theorem ownAt_ok {K : PySem.W.Frag} {C : Ct K} {O : Ow} {F H : Hp} {s : Sx} {σ : L2.St} {k : Nat} {ds : List PyData} {y : V} (v : VS C O F s σ H) (e : ownAt s k = some ds) (hy : σ[k]? = some (some y)) : ∃ p xs, y = .ref p ∧ O p = some (k + 2) ∧ H p = some (.lst xs) ∧ DtAll K F xs ds := by
  unfold ownAt at e
  split at e
  · rename_i es q
    cases e
    obtain ⟨z, e1, p, xs, a1, a2, a3, a4⟩ := v.pl k _ q
    rw [hy] at e1
    cases e1
    exact ⟨p, xs, a1, a2, a3, a4⟩
  · cases e
def setOwn (s : Sx) (k : Nat) (ds : List PyData) : Sx := { s with g := s.g.set k (some (.own ds)) }
def sApp (k : Nat) (f : DD) : DSt := fun s => match ownAt s k with
  | none => .bad
  | some _ => (f s).toS fun d s1 => match ownAt s1 k with
    | some ds => if ds.length < 1000000 then .nx (setOwn s1 k (ds ++ [d])) else .bad
    | none => .bad
def putAt (k : Nat) (d : PyData) (r : RV) (s : Sx) : SOut := match ownAt s k, asInt r s with
  | some ds, some i => (match ixN ds.length i with | some j => .nx (setOwn s k (ds.set j d)) | none => .bad)
  | _, _ => .bad
def sSetI (k : Nat) (fi : DE) (fe : DD) : DSt := fun s => (fe s).toS fun d s1 => match ownAt s1 k with
  | none => .bad
  | some _ => (fi s1).toS fun r s2 => putAt k d r s2
section
variable {X : Cx} {C : Ct X.K} {pos p1 p2 p3 : Pos} {e ie : Expr} {f fe : DD} {fi : DE} {x : Str}
theorem own_ty {O : Ow} {F H : Hp} {s : Sx} {σ : L2.St} {k : Nat} {ds : List PyData} (v : VS C O F s σ H) (e : ownAt s k = some ds) : ∃ p xs, σ[k]? = some (some (.ref p)) ∧ O p = some (k + 2) ∧ H p = some (.lst xs) ∧ DtAll X.K F xs ds := by
  unfold ownAt at e
  split at e
  · rename_i es q
    cases e
    obtain ⟨z, e1, p, xs, rfl, a2, a3, a4⟩ := v.pl k _ q
    exact ⟨p, xs, e1, a2, a3, a4⟩
  · cases e
theorem vs_app {k : Nat} {ce : Expr} (hm : PE X ce (tBM X.K "list" rAppend (tVar k) (tCons (tD C f) tNil))) (hsw : swapsWith ce none pos.line X.env = pure false := by rfl) : VSt X C (.Expr ce pos) (sApp k f) := by
  refine ⟨psI (ps_expr hm hsw) fun D σ H ⟨O, F, s, v, h⟩ => ?_⟩
  unfold sApp at h
  cases e0 : ownAt s k with
  | none => rw [e0] at h; exact h.elim
  | some ds0 =>
    rw [e0] at h
    obtain ⟨p, xs, hp, ho, hl, hx⟩ := own_ty v e0
    refine ⟨.ref p, hp, .inl ⟨rfl, xs, .of hl⟩, O, F, s, v, RdS.bind h Tr.refl fun d s1 O1 F1 H1 v1 t1 h1 y hy => ?_⟩
    cases e1 : ownAt s1 k with
    | none => rw [e1] at h1; exact h1.elim
    | some ds1 =>
      rw [e1] at h1
      obtain ⟨q, zs, hq, ho1, hl1, hz⟩ := own_ty v1 e1
      rw [hp] at hq
      cases hq
      simp only at h1
      split at h1
      · rename_i hlen
        have hzl := hz.len
        refine ⟨p, zs, y, rfl, rfl, hl1, by rw [hzl]; exact Nat.lt_of_lt_of_le hlen (by decide), ?_⟩
        obtain ⟨v2, t2⟩ := v1.wown t1 (b := .own (ds1 ++ [d])) (o := .lst (zs ++ [y])) hp ho1 ⟨p, _, rfl, ho1, upd_same, hz.app (.one hy)⟩
        exact h1 σ _ _ _ v2 t2
      · exact h1.elim
theorem setI_ok {O O1 : Ow} {F H F1 H1 : Hp} {s : Sx} {σ : L2.St} {D : Ends} {k : Nat} {ds : List PyData} {i : Int} {j : Nat} {d : PyData} {p : Addr} {y : V} (h : RdS C O F H (.nx (setOwn s k (ds.set j d))) D) (t : Tr O F H O1 F1 H1) (v : VS C O1 F1 s σ H1) (hp : σ[k]? = some (some (.ref p)))
    (e : ownAt s k = some ds) (hj : ixN ds.length i = some j) (hy : Dt X.K F1 y d) : ∃ xs, H1 p = some (.lst xs) ∧ ixN xs.length i = some j ∧ D.nx σ (upd H1 p (.lst (xs.set j y))) := by
  obtain ⟨q, zs, hq, ho, hl, hz⟩ := own_ty v e
  rw [hp] at hq
  cases hq
  refine ⟨zs, hl, by rw [hz.len]; exact hj, ?_⟩
  obtain ⟨v2, t2⟩ := v.wown t (b := .own (ds.set j d)) (o := .lst (zs.set j y)) hp ho ⟨p, _, rfl, ho, upd_same, hz.set hy j⟩
  exact h σ _ _ _ v2 t2
theorem vs_seti {k : Nat} {tg : Expr} (he : VD X C e fe) (hg : PG X tg (L2.gSub (tVar k) (tE C fi) rSetL)) (hs : swapsWithSole [tg] e pos.line X.env = pure false := by rfl) (hw : swappedStores [tg] e X.env = pure none := by rfl)
    (h1 : (assignEach [tg] X.env).map (·.2) = [assign tg X.env] := by rfl) : VSt X C (.Assign [tg] e pos) (sSetI k fi fe) := by
  refine ⟨psI (ps_asg he.run hg hs hw h1) fun D σ H ⟨O, F, s, v, h⟩ => ⟨O, F, s, v, RdS.bind h Tr.refl fun d s1 O1 F1 H1 v1 t1 q1 y hy => ?_⟩⟩
  cases e0 : ownAt s1 k with
  | none => rw [e0] at q1; exact q1.elim
  | some ds0 =>
    rw [e0] at q1
    obtain ⟨p, xs, hp, _⟩ := own_ty v1 e0
    refine ⟨.ref p, hp, O1, F1, s1, v1, RdS.bind q1 t1 fun r s2 O2 F2 H2 v2 t2 q2 z hz _ => ?_⟩
    unfold putAt at q2
    cases e2 : ownAt s2 k with
    | none => rw [e2] at q2; exact q2.elim
    | some ds2 =>
      cases e3 : asInt r s2 with
      | none => rw [e2, e3] at q2; exact q2.elim
      | some i =>
        rw [e2, e3] at q2
        simp only at q2
        cases e4 : ixN ds2.length i with
        | none => rw [e4] at q2; exact q2.elim
        | some j =>
          rw [e4] at q2
          obtain ⟨zs, z1, z2, z3⟩ := setI_ok q2 (t1.trans t2) v2 hp e2 e4 (hy.mono t2.ff)
          exact ⟨p, zs, i, j, rfl, asInt_ok v2 hz e3, z1, z2, z3⟩
/-- x[i] op= e, ints -/
def sAugI (k : Nat) (g : Int → Int → Int) (fi fe : DE) : DSt := fun s => match ownAt s k with
  | none => .bad
  | some _ => (fi s).toS fun r s1 => match ownAt s1 k, asInt r s1 with
    | some ds, some i => (match ixN ds.length i with
      | some j => (match ds[j]? with
        | some (.int x) => (fe s1).toS fun q s2 => (match asInt q s2, ownAt s2 k with
          | some y, some ds2 => if ds2.length = ds.length then .nx (setOwn s2 k (ds2.set j (.int (g x y)))) else .bad
          | _, _ => .bad)
        | _ => .bad)
      | none => .bad)
    | _, _ => .bad
/-- x op= e, ints -/
def sAug (k : Nat) (g : Int → Int → Int) (fe : DE) : DSt := fun s => match s.g[k]? with
  | some (some (.dat (.int x))) => (fe s).toS fun q s1 => (match asInt q s1 with
    | some y => .nx { s1 with g := s1.g.set k (some (.dat (.int (g x y)))) }
    | none => .bad)
  | _ => .bad
theorem vs_aug {k : Nat} {g : Int → Int → Int} {op : Operator} {pos' : Pos} {fe : DE} (hN : X.N.Nodup) (he : VE X C e fe) (ho : PIp X op (ipI g)) (hi : X.N[k]? = some x := by rfl) (hx : Loc X.env.scope x := by first | exact Or.inl rfl | exact Or.inr rfl)
    (hf : X.fn x = true ∨ X.env.scope.names.lookup x = some .local := by first | exact .inl rfl | exact .inr rfl) : VSt X C (.AugAssign (.Name x pos') op e pos) (sAug k g fe) := by
  refine ⟨psI (ps_aug hN hi hx he.run ho hf) fun D σ H ⟨O, F, s, v, h⟩ => ?_⟩
  unfold sAug at h
  split at h
  · rename_i n q
    obtain ⟨y, e1, e2⟩ := v.pl k _ q
    cases e2
    refine ⟨.int n, e1, O, F, s, v, RdS.bind h Tr.refl fun r s1 O1 F1 H1 v1 t1 h1 z hz _ => ?_⟩
    cases e3 : asInt r s1 with
    | none => rw [e3] at h1; exact h1.elim
    | some m =>
      rw [e3] at h1
      exact ⟨n, m, rfl, asInt_ok v1 hz e3, h1 _ _ _ _ (v1.setD (.int _)) t1⟩
  · exact h.elim
end
end VL

namespace VL
open PySem PySem.Spec PyProof.Rows L2

/-! ### defs, called where no repr runs around -/
structure FnG (P : Program) (w : World) (K : PySem.W.Frag) (mg : Str → Option Value) (base : Heap) (CX : CXT) (k : Nat) (f : Addr) (fd : FuncData) (ps : List Str) (sp : Sp) : Prop where
  len : ∀ vs H Q E, sp vs H Q E → vs.length = ps.length
  go : ∀ (A : Around) (outer : List Env) (s : Shared) (H : Hp) (args : Args) (us : List Value) (vs : List V) (Q : VK) (E : XK), Room k A → A.guards = some [] →
    Env0 P w K mg base A outer s H → BindsTo s fd args (ps.zip us) → Vals vs us → sp vs H Q E → codeAny (model P w) A (.call (.ref f) args) (CR CX outer P w H s Q E) s
section
variable {P : Program} {w : World} {K : PySem.W.Frag} {mg : Str → Option Value} {base : Heap} {CX : CXT} {k j : Nat} {f : Addr} {fd : FuncData} {ps : List Str} {sp : Sp}
theorem FnG.mono (G : FnG P w K mg base CX j f fd ps sp) (h : j ≤ k) : FnG P w K mg base CX k f fd ps sp :=
  ⟨G.len, fun A o s H args us vs Q E r => G.go A o s H args us vs Q E (r.mono h)⟩
theorem FnG.imp {sp' : Sp} (G : FnG P w K mg base CX k f fd ps sp) (h : ∀ vs H Q E, sp' vs H Q E → sp vs H Q E) : FnG P w K mg base CX k f fd ps sp' :=
  ⟨fun vs H Q E q => G.len vs H Q E (h _ _ _ _ q), fun A o s H args us vs Q E r g e b v q => G.go A o s H args us vs Q E r g e b v (h _ _ _ _ q)⟩
theorem deeper_guards (A : Around) (env : Env) : (A.deeper env).guards = A.guards := rfl
theorem fnG_of {name qual : Str} {params : Arguments} {body : List Stmt} {scope : Scope} {dV kV doc pm cdv ct oc : Value} {an od : Option Addr} {osl : Array (Option Value)} {N : List Str}
    (lk : K.lookup f = some ⟨oc, od, .func (PySem.W.fnOf name qual params body scope dV kV doc pm an cdv ct), osl⟩) (hcd : PySem.W.codeIn K cdv qual = true) (S : FnScope N ps scope)
    (len : ∀ vs H Q E, sp vs H Q E → vs.length = ps.length)
    (bd : ∀ (A : Around) (outer : List Env) (s : Shared) (H : Hp) (vs : List V) (Q : VK) (E : XK), Room k (A.deeper (envOfC qual scope s.heap.objs.size f cdv)) → A.guards = some [] → sp vs H Q E →
      ∃ t, PSs (cxOf CX P w K mg base N qual scope f cdv A outer s H E) body t ∧ t { nx := fun _ H' => Q .non H', rt := Q } (start N vs) H) :
    FnG P w K mg base CX (k + 1) f (PySem.W.fnOf name qual params body scope dV kV doc pm an cdv ct) ps sp := by
  refine ⟨len, fun A o s H args us vs Q E r g e0 hb hv q => ?_⟩
  have keep : ∀ b ob, base.get? b = some ob → s.heap.get? b = some ob := fun b ob e => (e0.bs b ob e).1
  have kinds : ∀ y ∈ ps.zip us, scope.names.lookup y.1 = some .local ∨
      (scope.names.lookup y.1 = some .cell ∧ ((cellsFrom (s.heap.objs.size + 1) scope.names []).lookup y.1).isSome = true) := by
    rintro ⟨n, v⟩ hy
    rcases S.par n (List.of_mem_zip hy).1 with z | z
    · exact .inl z
    · exact .inr ⟨z, PySem.W.cellsFrom_some _ _ _ (.inl z)⟩
  have kin : K.In s.heap := e0.mod.kin.keeps keep
  refine codeAny_call_function r.depth (kin _ _ lk) rfl S.co S.gen rfl (PySem.W.codeRec_of kin hcd) (hb _ _ _ _ ?_)
  refine wpAny_newFunctionEnv_cells S.kind kinds fun env he s1 x => ?_
  subst he
  refine ⟨(e0.mod.nolimit.keeps keep).keeps x.toInCall.keep, codeAny_func ?_⟩
  obtain ⟨t, ht, hq⟩ := bd A o s H vs Q E (r.deeper _) g q
  refine wpAny_mono (ht.run [] s1 (start N vs) H _ (inv_start S r.hd e0 (len _ _ _ _ q) hv x) hq) (fun fl s' hs => ?_) fun e s' hs => hs
  cases fl with
  | ret u =>
    obtain ⟨v, σ', H', J, rv, z⟩ := hs
    exact ⟨v, H', J.os, J.bare, J.base, J.hok, rv, z⟩
  | next =>
    obtain ⟨σ', H', J, z⟩ := hs
    exact ⟨V.non, H', J.os, J.bare, J.base, J.hok, rfl, z⟩
  | brk => obtain ⟨_, _, _, z⟩ := hs; exact z.elim
  | cont => obtain ⟨_, _, _, z⟩ := hs; exact z.elim
end
section
variable {X : Cx} {CX : CXT} {k : Nat} {f : Addr} {fd : FuncData} {ps : List Str} {sp : Sp} {E : XK} {x : Str} {p pos : Pos} {e : Expr} {es : List Expr} {t : TA}
theorem run_G {pins : List (Addr × Obj)} {σ : L2.St} {H : Hp} {s : Shared} {Q : VK} {us : List Value} {vs : List V} (G : FnG X.prog X.w X.K X.mg X.base CX k f fd ps sp) (hr : Room k X.A) (hg : X.A.guards = some []) (hb : Binds X.K fd ps []) (hx : Passes CX X E)
    (I : Inv X pins σ H s) (r : Vals vs us) (h : sp vs H Q E) : wpAny (model X.prog X.w) X.A (call (.ref f) us) (EP X pins σ Q) X.xe s := by
  have hl : (us ++ []).length = ps.length := by rw [List.append_nil, ← r.length]; exact G.len _ _ _ _ h
  have bt := hb s us I.kIn hl
  rw [List.append_nil] at bt
  refine wpAny_call (codeAny_mono (G.go X.A X.stack s H ⟨us, []⟩ us vs Q E hr hg I.env0 bt r h) fun z s' hq => ?_)
  match z, hq with
  | .error e, hq => exact hx pins σ H s e s' I hq
  | .ok (.ret u), hq => exact I.after hq
  | .ok .next, hq => exact hq.elim
  | .ok .brk, hq => exact hq.elim
  | .ok .cont, hq => exact hq.elim
theorem pe_G (G : FnG X.prog X.w X.K X.mg X.base CX k f fd ps sp) (hr : Room k X.A) (hgd : X.A.guards = some []) (hm : X.mg x = some (.ref f)) (hk : PySem.W.keepIn X.K (.ref f) = true) (hb : Binds X.K fd ps []) (hx : Passes CX X E) (ha : PA X (e :: es) t)
    (hg : Gl X x := by rfl) (hdb : (x == ("__debug__" : Str)) = false := by decide) (he : starEach (e :: es) X.env = (false, eval e X.env) :: starEach es X.env := by rfl) (hpl : (backTo pos (starEach es X.env)).any (·.1) = false := by rfl) :
    PE X (.Call (.Name x p) (e :: es) [] pos) (fun σ H Q => t σ H fun vs H1 => sp vs H1 Q E) := by
  refine ⟨fun pins s σ H Q I h => ?_⟩
  refine wpAny_Call_Name_kw (ld_glob I hg hm ?_ hdb)
  refine PySem.W.callWith_K (h₀ := X.base) I.ok.mod.kin hk (thn (ha.run pos pins s σ H _ I h) fun us s1 z => ?_) he hpl
  obtain ⟨vs, H1, I1, r, q⟩ := z
  exact ⟨I1.kIn, run_G G hr hgd hb hx I1 r q⟩
end

/-! ### pure defs by data -/
inductive Pr where
  | ok (d : PyData)
  | exc (c : Nat) (fs : List PyData)
  | bad
abbrev PFn := List PyData → Pr
def spP (K : PySem.W.Frag) (n : Nat) (fn : PFn) : Sp := fun vs H Q _ => vs.length = n ∧ ∃ F ds, (Same F H ∧ Tp F H) ∧ DtAll K F vs ds ∧
  match fn ds with
  | .ok d => ∀ v F' H', Same H H' → Same F F' → Same F' H' → (∀ a o, F' a = some o → F a = some o ∨ H a = none) → Tp F' H' → Dt K F' v d → Q v H'
  | _ => False
def m0 : DS := ⟨[], [], 0⟩
def startS (nN : Nat) (ds : List PyData) : Sx := ⟨(ds.map fun d => some (.dat d)) ++ List.replicate (nN - ds.length) none, m0⟩
def prOf (o : SOut) : Pr :=
  match o with
  | .rt d _ => .ok d
  | .nx _ => .ok .none
  | .exc c fs _ => .exc c fs
  | _ => .bad
def fnOfD (nN : Nat) (den : DSt) : PFn := fun ds => prOf (den (startS nN ds))
abbrev ct0 {K : PySem.W.Frag} (F H : Hp) : Ct K := ⟨F, H, none, 0, 0, fun _ _ _ _ _ _ _ => False⟩
theorem vs_start {K : PySem.W.Frag} {F H : Hp} {vs : List V} {ds : List PyData} {N : List Str} (h1 : Same F H ∧ Tp F H) (h2 : DtAll K F vs ds) (hl : vs.length ≤ N.length) : VS (K := K) (ct0 F H) (fun _ => none) F (startS N.length ds) (start N vs) H := by
  have dl := h2.len
  refine ⟨?_, h1.1, Same.refl _, Same.refl _, fun a o e1 e2 => ?_, fun p i e => (by cases e), fun i b e => ?_, fun pm e => (by cases e), h1.2⟩
  · unfold L2.start startS
    simp only [List.length_append, List.length_map, List.length_replicate]
    omega
  · have e2 : F a = none := e2
    rw [e1] at e2; cases e2
  · have e : ((ds.map fun d => some (VB.dat d)) ++ List.replicate (N.length - ds.length) none)[i]? = some (some b) := e
    by_cases hi : i < ds.length
    · rw [List.getElem?_append_left (by simpa using hi), List.getElem?_map] at e
      cases q : ds[i]? with
      | none => rw [q] at e; cases e
      | some d =>
        rw [q] at e
        cases e
        obtain ⟨v, a1, a2⟩ := h2.get q
        refine ⟨v, ?_, a2⟩
        unfold L2.start
        rw [List.getElem?_append_left (by simp; omega), List.getElem?_map, a1]
        rfl
    · rw [List.getElem?_append_right (by simpa using hi), List.getElem?_replicate] at e
      split at e <;> cases e
section
variable {P : Program} {w : World} {K : PySem.W.Frag} {mg : Str → Option Value} {base : Heap} {k : Nat} {f : Addr} {fd : FuncData} {ps : List Str} {x qual : Str} {st : Stmt} {N : List Str} {den : DSt}
abbrev bodyX (P : Program) (w : World) (K : PySem.W.Frag) (mg : Str → Option Value) (base : Heap) (N : List Str) (qual : Str) (scope : Scope) (f : Addr) (cdv : Value) (A : Around) (outer : List Env) (s : Shared) (H : Hp) (E : XK) : Cx :=
  (cxOf CX0 P w K mg base N qual scope f cdv A outer s H E).nox
/-- what the body of a def is to be shown to do -/
def BodyOk (P : Program) (w : World) (K : PySem.W.Frag) (mg : Str → Option Value) (base : Heap) (N : List Str) (qual : Str) (f : Addr) (k : Nat) (scope : Scope) (body : List Stmt) (den : DSt) : Prop :=
  ∀ (cdv : Value) (A : Around) (outer : List Env) (s : Shared) (H : Hp) (E : XK) (C : Ct K), Room k (A.deeper (envOfC qual scope s.heap.objs.size f cdv)) → A.guards = some [] →
    VSs (bodyX P w K mg base N qual scope f cdv A outer s H E) C body den
theorem okP (F : Fun K x qual st f fd) (S : FnScope N ps (defScope st)) (hb : BodyOk P w K mg base N qual f k (defScope st) (defBody st) den) : FnG P w K mg base CX0 (k + 1) f fd ps (spP K ps.length (fnOfD N.length den)) := by
  obtain ⟨oc, od, kV, doc, pm, an, cdv, ct, osl, rfl, lk, hcd⟩ := F.ex
  refine fnG_of lk hcd S (fun vs H Q E h => h.1) fun A outer s H vs Q E hr hg h => ?_
  obtain ⟨hl, F0, ds, h1, h2, h3⟩ := h
  have hpl : ps.length ≤ N.length := by
    have := congrArg List.length S.pre
    rw [List.length_take] at this
    omega
  refine ⟨_, (hb cdv A outer s H E (ct0 F0 H) hr hg).run.nox, _, F0, _, vs_start (N := N) h1 h2 (by omega), ?_⟩
  have h3 : match prOf (den (startS N.length ds)) with
    | .ok d => ∀ v F' H', Same H H' → Same F0 F' → Same F' H' → (∀ a o, F' a = some o → F0 a = some o ∨ H a = none) → Tp F' H' → Dt K F' v d → Q v H'
    | _ => False := h3
  have nw : ∀ {O' : Ow} {F' H' : Hp}, Tr (fun _ => none) F0 H O' F' H' → ∀ a o, F' a = some o → F0 a = some o ∨ H a = none := fun t a o e => by
    rcases t.nf a o e with z | z | z
    · exact .inl z
    · exact .inr z
    · exact absurd rfl z
  cases e : den (startS N.length ds) with
  | rt d s' => rw [e] at h3; exact fun v σ' O' F' H' q t hd => h3 v F' H' q.hh t.ff q.fh (nw t) q.tp hd
  | nx s' => rw [e] at h3; exact fun σ' O' F' H' q t => h3 .non F' H' q.hh t.ff q.fh (nw t) q.tp .non
  | brk s' => rw [e] at h3; exact h3.elim
  | ct s' => rw [e] at h3; exact h3.elim
  | exc c fs s' => rw [e] at h3; exact h3.elim
  | bad => rw [e] at h3; exact h3.elim
end
/-- f(..), the arguments frozen -/
def dCallF (fn : PFn) (fa : DDs) : DE := fun s => (fa s).bind fun ds s1 => match fn ds with
  | .ok d => .ok (.dat d) s1
  | _ => .bad
def flat : PyData → Bool
  | .none => true
  | .bool _ => true
  | .int _ => true
  | .str _ => true
  | _ => false
theorem flat_dt {K : PySem.W.Frag} {F F' : Hp} {v : V} {d : PyData} (h : Dt K F v d) (e : flat d = true) : Dt K F' v d := by
  cases h with
  | non => exact .non
  | bl b => exact .bl b
  | int i => exact .int i
  | str x => exact .str x
  | lst _ _ => cases e
  | tup _ _ => cases e
  | dctT _ _ => cases e
  | dct0 _ => cases e
  | scr _ => cases e
/-- f(..), the arguments read alone: what comes is flat -/
def dCallN (fn : PFn) (fa : DA) : DE := fun s => (fa s).bind fun rs s1 => match resAll rs s1 with
  | some ds => (match fn ds with
    | .ok d => if flat d = true then .ok (.dat d) s1 else .bad
    | _ => .bad)
  | none => .bad
theorem BoAll.dt {K : PySem.W.Frag} {F H : Hp} (e : Same F H) : ∀ {xs : List V} {ds : List PyData}, BoAll K F H xs ds → DtAll K H xs ds
  | _, _, .nil => .nil
  | _, _, .cons h t => .cons (h.dt e) (BoAll.dt e t)
theorem Paired.len {α β : Type} {R : α → β → Prop} : ∀ {xs : List α} {ys : List β}, Paired R xs ys → xs.length = ys.length
  | _, _, .nil => rfl
  | _, _, .cons _ t => congrArg Nat.succ (Paired.len t)
section
variable {X : Cx} {C : Ct X.K} {k n : Nat} {f : Addr} {fd : FuncData} {ps : List Str} {fn : PFn} {x : Str} {p pos : Pos} {e : Expr} {es : List Expr}
theorem ve_callF {fa : DDs} (G : FnG X.prog X.w X.K X.mg X.base CX0 k f fd ps (spP X.K (e :: es).length fn)) (hr : Room k X.A) (hgd : X.A.guards = some []) (hm : X.mg x = some (.ref f)) (hk : PySem.W.keepIn X.K (.ref f) = true) (hb : Binds X.K fd ps []) (ha : VDs X C (e :: es) fa)
    (hlen : ∀ s ds s', fa s = .ok ds s' → ds.length = (e :: es).length)
    (hg : Gl X x := by rfl) (hdb : (x == ("__debug__" : Str)) = false := by decide) (he : starEach (e :: es) X.env = (false, eval e X.env) :: starEach es X.env := by rfl) (hpl : (backTo pos (starEach es X.env)).any (·.1) = false := by rfl) :
    VE X C (.Call (.Name x p) (e :: es) [] pos) (dCallF fn fa) := by
  refine ⟨peI (pe_G G hr hgd hm hk hb pass0 ha.run hg hdb he hpl) fun σ H Q ⟨O, F, s, v, h⟩ => ⟨O, F, s, v, ?_⟩⟩
  have hl := hlen s
  unfold dCallF at h
  cases e1 : fa s with
  | bad => rw [e1] at h; exact h.elim
  | exc c fs s1 => rw [e1] at h; exact h
  | ok ds s1 =>
    rw [e1] at h
    intro O1 F1 H1 v1 t1 xs hxs
    have h : RdE C σ O F H (match fn ds with | .ok d => .ok (.dat d) s1 | _ => .bad) Q := h
    refine ⟨by rw [hxs.len]; exact hl ds s1 e1, F1, ds, ⟨v1.fh, v1.tp⟩, hxs, ?_⟩
    cases e2 : fn ds with
    | ok d =>
      rw [e2] at h
      intro y F' H' a1 a2 a3 a4 a5 hy
      obtain ⟨v2, t2⟩ := v1.grow a1 a2 a3 a4 a5
      exact h _ _ _ v2 (t1.trans t2) y hy trivial
    | exc c fs => rw [e2] at h; exact h.elim
    | bad => rw [e2] at h; exact h.elim
theorem ve_callN {fa : DA} (G : FnG X.prog X.w X.K X.mg X.base CX0 k f fd ps (spP X.K (e :: es).length fn)) (hr : Room k X.A) (hgd : X.A.guards = some []) (hm : X.mg x = some (.ref f)) (hk : PySem.W.keepIn X.K (.ref f) = true) (hb : Binds X.K fd ps []) (ha : VA X C (e :: es) fa)
    (hlen : ∀ s ds s', fa s = .ok ds s' → ds.length = (e :: es).length)
    (hg : Gl X x := by rfl) (hdb : (x == ("__debug__" : Str)) = false := by decide) (he : starEach (e :: es) X.env = (false, eval e X.env) :: starEach es X.env := by rfl) (hpl : (backTo pos (starEach es X.env)).any (·.1) = false := by rfl) :
    VE X C (.Call (.Name x p) (e :: es) [] pos) (dCallN fn fa) := by
  refine ⟨peI (pe_G G hr hgd hm hk hb pass0 ha.run hg hdb he hpl) fun σ H Q ⟨O, F, s, v, h⟩ => ⟨O, F, s, v, ?_⟩⟩
  have hl := hlen s
  unfold dCallN at h
  cases e1 : fa s with
  | bad => rw [e1] at h; exact h.elim
  | exc c fs s1 => rw [e1] at h; exact h
  | ok rs s1 =>
    rw [e1] at h
    intro O1 F1 H1 v1 t1 xs hxs
    have h : RdE C σ O F H (match resAll rs s1 with | some ds => (match fn ds with | .ok d => if flat d = true then .ok (.dat d) s1 else .bad | _ => .bad) | none => .bad) Q := h
    cases e3 : resAll rs s1 with
    | none => rw [e3] at h; exact h.elim
    | some ds =>
      rw [e3] at h
      have bo := RVs.bo v1 hxs e3
      have hd := BoAll.dt v1.fh bo
      refine ⟨by rw [← Paired.len hxs]; exact hl rs s1 e1, H1, ds, ⟨Same.refl _, fun _ _ z => z⟩, hd, ?_⟩
      simp only at h
      cases e2 : fn ds with
      | ok d =>
        rw [e2] at h
        simp only at h
        split at h
        · rename_i hfl
          intro y F' H' a1 a2 a3 a4 a5 hy
          obtain ⟨v2, t2⟩ := v1.growT a1
          exact h _ _ _ v2 (t1.trans t2) y (flat_dt hy hfl) trivial
        · exact h.elim
      | exc c fs => rw [e2] at h; exact h.elim
      | bad => rw [e2] at h; exact h.elim
end
end VL

namespace VL
open PySem PySem.Spec PyProof.Rows L2

theorem u64 {A : Around} {k : Nat} (r : Room k A) : A.units + 64 < cLine := by
  have := r.un
  omega
theorem u65 {A : Around} {k : Nat} (r : Room k A) : A.units + 65 < cLine := by
  have := r.un
  omega
/-! ### chains -/
def dChain (g g' : PyData → PyData → Option RV) (fa fb fc : DE) : DE := fun s => (fa s).bind fun ra s1 => (fb s1).bind fun rb s2 => (fin2 g ra rb s2).bind fun r s3 => (asB r s3).bind fun b s4 =>
  if b = true then (fc s4).bind fun rc s5 => fin2 g' rb rc s5 else .ok (bl_ false) s4
section
variable {X : Cx} {C : Ct X.K} {pos : Pos} {a b c : Expr} {fa fb fc : DE} {op op' : CmpOp} {g g' : PyData → PyData → Option RV}
theorem fin2_fst {O O0 : Ow} {F H F0 H0 : Hp} {s : Sx} {σ : L2.St} {α : Type} {k : RV → Sx → Out α} {P : α → Sx → Ow → Hp → Hp → Prop} {ra rb : RV} {x y : V} {Q : VK} (h : Rd0 C σ O0 F0 H0 ((fin2 g ra rb s).bind k) P) (t : Tr O0 F0 H0 O F H) (v : VS C O F s σ H) (ha : RVok C O F H σ ra x) (hb : RVok C O F H σ rb y)
    (f : ∀ r s1 O1 F1 H1, VS C O1 F1 s1 σ H1 → Tr O F H O1 F1 H1 → Rd0 C σ O0 F0 H0 (k r s1) P → ∀ z, RVok C O1 F1 H1 σ r z → RVf O H r z → Q z H1) : rOp C g x y H Q := by
  refine fin2_ok (O0 := O) (F0 := F) (H0 := H) (Rd0.bind h t fun r s1 O1 F1 H1 v1 t1 h1 z hz hf => f r s1 O1 F1 H1 v1 t1 h1 z hz hf) Tr.refl v ha hb
theorem tChain_of {σ : L2.St} {H : Hp} {Q : VK} (h : tE C (dChain g g' fa fb fc) σ H Q) : tChain (rOp C g) (rOp C g') (tE C fa) (tE C fb) (tE C fc) σ H Q := by
  obtain ⟨O, F, s, v, h⟩ := h
  refine ⟨O, F, s, v, Rd0.bind h Tr.refl fun ra s1 O1 F1 H1 v1 t1 h1 x hx _ => ?_⟩
  refine ⟨O1, F1, s1, v1, Rd0.bind h1 t1 fun rb s2 O2 F2 H2 v2 t2 h2 y hy _ => ?_⟩
  refine fin2_fst h2 (t1.trans t2) v2 (hx.tr t2) hy fun r s3 O3 F3 H3 v3 t3 h3 z hz _ => ?_
  obtain ⟨k, rfl, h4⟩ := asB_ok h3 v3 hz
  refine ⟨k, rfl, ?_⟩
  have t03 := (t1.trans t2).trans t3
  cases k with
  | false => exact h4 O3 F3 H3 v3 t03 _ (.bl false) trivial
  | true =>
    simp only [if_true] at h4 ⊢
    refine ⟨O3, F3, s3, v3, Rd0.bind h4 t03 fun rc s5 O5 F5 H5 v5 t5 h5 w' hw _ => ?_⟩
    exact fin2_ok h5 (t03.trans t5) v5 ((hy.tr t3).tr t5) hw
theorem ve_chain (ho : OpR X (compareOp op) (rOp C g)) (ho' : OpR X (compareOp op') (rOp C g')) (ha : VE X C a fa) (hb : VE X C b fb) (hc : VE X C c fc) (hm : lastMarks [op, op'] [b, c] = false := by rfl) : VE X C (.Compare a [op, op'] [b, c] pos) (dChain g g' fa fb fc) :=
  ⟨peI (pe_chain ho ho' ha.run hb.run hc.run hm) fun _ _ _ h => tChain_of h⟩
theorem vt_chain (ho : OpR X (compareOp op) (rOp C g)) (ho' : OpR X (compareOp op') (rOp C g')) (ha : VE X C a fa) (hb : VE X C b fb) (hc : VE X C c fc) (hm : lastMarks [op, op'] [b, c] = false := by rfl) : VT X C (.Compare a [op, op'] [b, c] pos) (dTest (dChain g g' fa fb fc)) :=
  ⟨ptI (pt_chain ho ho' ha.run hb.run hc.run hm) fun σ H Q h => tChain_of (Q := fun x H' => ∃ k, x = .bl k ∧ Q k H') (tB_of h)⟩
end
/-! ### in a list -/
def gIn (d e : PyData) : Option RV :=
  match e with
  | .list es => if SeqAt.shaped d = true ∧ SeqAt.shaped (.list es) = true then some (bl_ (es.any fun z => PyData.eqv z d)) else none
  | .tuple es => if SeqAt.shaped d = true ∧ SeqAt.shaped (.tuple es) = true then some (bl_ (es.any fun z => PyData.eqv z d)) else none
  | _ => none
def gNotIn (d e : PyData) : Option RV :=
  match e with
  | .list es => if SeqAt.shaped d = true ∧ SeqAt.shaped (.list es) = true then some (bl_ (!es.any fun z => PyData.eqv z d)) else none
  | .tuple es => if SeqAt.shaped d = true ∧ SeqAt.shaped (.tuple es) = true then some (bl_ (!es.any fun z => PyData.eqv z d)) else none
  | _ => none
section
variable {X : Cx} {C : Ct X.K}
theorem o_in (hu : X.A.units + 65 < cLine) : OpR X (compareOp .In) (rOp C gIn) := by
  intro pins s σ H x y v u Q I rx ry ⟨σ', O0, F0, H0, O, F, st, d, e, r, vs, tr, b1, b2, hg, rd⟩
  unfold gIn at hg
  split at hg
  · split at hg
    · cases hg
      rename_i hs
      exact op_inD hu pins s σ H x y v u Q I rx ry ⟨d, _, (b1.dt vs.fh).dp (shaped_lay hs.1), (b2.dt vs.fh).dp (shaped_lay hs.2), hs.1, hs.2, rd.dat tr vs (.bl _)⟩
    · cases hg
  · split at hg
    · cases hg
      rename_i hs
      obtain ⟨as, r1⟩ := Dp.reads I _ x v ((b1.dt vs.fh).dp (shaped_lay hs.1)) rx
      obtain ⟨bs, r2⟩ := Dp.reads I _ y u ((b2.dt vs.fh).dp (shaped_lay hs.2)) ry
      exact SeqAt.in_tuple_reads r2 r1 (SeqAt.canLay_of_shaped hs.2) (SeqAt.canLay_of_shaped hs.1) (room_in_shaped hs.1 hu) ⟨.bl _, H, I, rfl, rd.dat tr vs (.bl _)⟩
    · cases hg
  · cases hg
theorem o_notin (hu : X.A.units + 65 < cLine) : OpR X (compareOp .NotIn) (rOp C gNotIn) := by
  intro pins s σ H x y v u Q I rx ry ⟨σ', O0, F0, H0, O, F, st, d, e, r, vs, tr, b1, b2, hg, rd⟩
  unfold gNotIn at hg
  split at hg
  · split at hg
    · cases hg
      rename_i hs
      exact op_notInD hu pins s σ H x y v u Q I rx ry ⟨d, _, (b1.dt vs.fh).dp (shaped_lay hs.1), (b2.dt vs.fh).dp (shaped_lay hs.2), hs.1, hs.2, rd.dat tr vs (.bl _)⟩
    · cases hg
  · split at hg
    · cases hg
      rename_i hs
      obtain ⟨as, r1⟩ := Dp.reads I _ x v ((b1.dt vs.fh).dp (shaped_lay hs.1)) rx
      obtain ⟨bs, r2⟩ := Dp.reads I _ y u ((b2.dt vs.fh).dp (shaped_lay hs.2)) ry
      exact SeqAt.notIn_tuple_reads r2 r1 (SeqAt.canLay_of_shaped hs.2) (SeqAt.canLay_of_shaped hs.1) (room_in_shaped hs.1 hu) ⟨.bl _, H, I, rfl, rd.dat tr vs (.bl _)⟩
    · cases hg
  · cases hg
end
end VL

namespace VL
open PySem PySem.Spec PyProof.Rows L2
/-! ### how many arguments -/
structure LDA (f : DA) (n : Nat) : Prop where
  lg : ∀ {s : Sx} {ds : List RV} {s' : Sx}, f s = .ok ds s' → ds.length = n
structure LDD (f : DDs) (n : Nat) : Prop where
  lg : ∀ {s : Sx} {ds : List PyData} {s' : Sx}, f s = .ok ds s' → ds.length = n
theorem LDA.nil : LDA daNil 0 := ⟨fun h => by cases h; rfl⟩
theorem LDA.cons {f : DE} {g : DA} {n : Nat} (h : LDA g n) : LDA (daCons f g) (n + 1) := ⟨fun {s ds s'} q => by
  unfold daCons at q
  cases e1 : f s with
  | ok r s1 =>
    rw [e1] at q
    simp only [Out.bind] at q
    cases e2 : g s1 with
    | ok rs s2 => rw [e2] at q; cases q; rw [List.length_cons, h.lg e2]
    | exc c fs s2 => rw [e2] at q; cases q
    | bad => rw [e2] at q; cases q
  | exc c fs s1 => rw [e1] at q; cases q
  | bad => rw [e1] at q; cases q⟩
theorem LDD.nil : LDD ddNil 0 := ⟨fun h => by cases h; rfl⟩
theorem LDD.cons {f : DD} {g : DDs} {n : Nat} (h : LDD g n) : LDD (ddCons f g) (n + 1) := ⟨fun {s ds s'} q => by
  unfold ddCons at q
  cases e1 : f s with
  | ok r s1 =>
    rw [e1] at q
    simp only [Out.bind] at q
    cases e2 : g s1 with
    | ok rs s2 => rw [e2] at q; cases q; rw [List.length_cons, h.lg e2]
    | exc c fs s2 => rw [e2] at q; cases q
    | bad => rw [e2] at q; cases q
  | exc c fs s1 => rw [e1] at q; cases q
  | bad => rw [e1] at q; cases q⟩
end VL

namespace VL
open PySem PySem.Spec PyProof.Rows L2

/-! ### x, y = e, e' -/
def norm (r : RV) (s : Sx) : Out RV :=
  match r with
  | .slot j => (frz (.slot j) s).bind fun d s1 => .ok (.dat d) s1
  | r => .ok r s
def RV.isSlot : RV → Bool
  | .slot _ => true
  | _ => false
theorem norm_ok {K : PySem.W.Frag} {C : Ct K} {O O1 : Ow} {F H F1 H1 : Hp} {s : Sx} {σ : L2.St} {α : Type} {k : RV → Sx → Out α} {P : α → Sx → Ow → Hp → Hp → Prop} {r : RV} {x : V} (h : Rd0 C σ O F H ((norm r s).bind k) P) (t : Tr O F H O1 F1 H1) (v : VS C O1 F1 s σ H1) (hx : RVok C O1 F1 H1 σ r x) (hf : RVf O H r x) :
    ∃ r' s' O2 F2, VS C O2 F2 s' σ H1 ∧ Tr O F H O2 F2 H1 ∧ RVok C O2 F2 H1 σ r' x ∧ RVf O H r' x ∧ r'.isSlot = false ∧ Rd0 C σ O F H (k r' s') P := by
  cases r with
  | dat d => exact ⟨_, _, _, _, v, t, hx, hf, rfl, h⟩
  | tmp d => exact ⟨_, _, _, _, v, t, hx, hf, rfl, h⟩
  | tk d => exact ⟨_, _, _, _, v, t, hx, hf, rfl, h⟩
  | tt d => exact ⟨_, _, _, _, v, t, hx, hf, rfl, h⟩
  | slot j =>
    have h : Rd0 C σ O F H (((frz (.slot j) s).bind fun d s1 => .ok (.dat d) s1).bind k) P := h
    cases e : frz (.slot j) s with
    | bad => rw [e] at h; exact h.elim
    | exc c fs s2 => exfalso; unfold frz at e; simp only at e; split at e <;> cases e
    | ok d s2 =>
      rw [e] at h
      obtain ⟨O2, F2, v2, t2, hd⟩ := frz_ok hx hf t v e
      exact ⟨.dat d, s2, O2, F2, v2, t2, hd, trivial, rfl, h⟩
/-- unlike new things -/
def Apart (r : RV) (x : V) (r' : RV) (x' : V) : Prop := r.isSlot = false ∧ r'.isSlot = false ∧ ∀ d d', r ≠ .dat d → r' ≠ .dat d' → x ≠ x'
inductive Dist : List RV → List V → Prop
  | nil : Dist [] []
  | cons {r : RV} {x : V} {rs : List RV} {xs : List V} : r.isSlot = false → (∀ p, (∀ d, r ≠ .dat d) → x = .ref p → ∀ (i : Nat) (r' : RV), rs[i]? = some r' → (∀ d, r' ≠ .dat d) → xs[i]? ≠ some (.ref p)) → Dist rs xs → Dist (r :: rs) (x :: xs)
def dpNil : DA := fun s => .ok [] s
def dpCons (fa : DE) (fr : DA) : DA := fun s => (fa s).bind fun r s1 => (norm r s1).bind fun r s2 => (fr s2).bind fun rs s3 => .ok (r :: rs) s3
def tP {K : PySem.W.Frag} (C : Ct K) (f : DA) : TA := fun σ H Q => ∃ O F s, VS C O F s σ H ∧ Rd0 C σ O F H (f s) fun rs _ O' F' H' => ∀ xs, RVs C O' F' H' σ rs xs → Paired (RVf O H) rs xs → Dist rs xs → Q xs H'
structure VP (X : Cx) (C : Ct X.K) (es : List Expr) (f : DA) : Prop where
  run : PA X es (tP C f)
section
variable {X : Cx} {C : Ct X.K} {pos : Pos} {a : Expr} {es : List Expr} {fa : DE} {fr : DA}
theorem vp_nil : VP X C [] dpNil := ⟨paI pa_nil fun σ H Q ⟨O, F, s, v, h⟩ => h O F H v Tr.refl [] .nil .nil .nil⟩
theorem Paired.at {α β : Type} {R : α → β → Prop} : ∀ {xs : List α} {ys : List β} {i : Nat} {x : α} {y : β}, Paired R xs ys → xs[i]? = some x → ys[i]? = some y → R x y
  | _, _, _, _, _, .nil, h, _ => by simp at h
  | _, _, 0, _, _, .cons r _, h, k => by simp at h k; subst h; subst k; exact r
  | _, _, i + 1, _, _, .cons _ t, h, k => Paired.at (i := i) t (by simpa using h) (by simpa using k)
theorem vp_cons (ha : VE X C a fa) (hr : VP X C es fr) (he : starEach (a :: es) X.env = (false, eval a X.env) :: starEach es X.env := by rfl) : VP X C (a :: es) (dpCons fa fr) := by
  refine ⟨paI (pa_cons ha.run hr.run he) fun σ H Q ⟨O, F, s, v, h⟩ => ⟨O, F, s, v, Rd0.bind h Tr.refl fun r s1 O1 F1 H1 v1 t1 h1 x hx hf => ?_⟩⟩
  obtain ⟨r', s2, O2, F2, v2, t2, hx2, hf2, hns, h2⟩ := norm_ok h1 t1 v1 hx hf
  refine ⟨O2, F2, s2, v2, Rd0.bind h2 t2 fun rs s3 O3 F3 H3 v3 t3 h3 xs hxs hfs hd => ?_⟩
  refine h3 O3 F3 H3 v3 (t2.trans t3) (x :: xs) (.cons (hx2.tr t3) hxs) (.cons hf2 (Paired.mapP hfs fun _ _ z => RVf.back z t2)) (.cons hns (fun p hnd e i r2 hi hn2 hxi => ?_) hd)
  have q1 : H1 p ≠ none ∧ O2 p = none := by
    cases r' with
    | dat d => exact absurd rfl (hnd d)
    | slot j => cases hns
    | tmp ds => obtain ⟨q, zs, e1, a2, a3, a4, a5, a6⟩ := hx2; rw [e] at e1; cases e1; exact ⟨(by rw [a2]; exact (fun z => nomatch z)), a5⟩
    | tk ds => obtain ⟨q, zs, e1, a2, a3, a4, a5, a6⟩ := hx2; rw [e] at e1; cases e1; exact ⟨(by rw [a2]; exact (fun z => nomatch z)), a5⟩
    | tt ds => obtain ⟨q, zs, e1, a2, a3, a4, a5, a6⟩ := hx2; rw [e] at e1; cases e1; exact ⟨(by rw [a2]; exact (fun z => nomatch z)), a5⟩
  have q2 := Paired.at hfs hi hxi
  have q3 := Paired.at hxs hi hxi
  have q4 : H1 p = none ∨ O2 p ≠ none := by
    cases r2 with
    | dat d => exact absurd rfl (hn2 d)
    | slot j =>
      exfalso
      have : ∀ {rs : List RV} {xs : List V} {i : Nat} {r : RV}, Dist rs xs → rs[i]? = some r → r.isSlot = false := by
        intro rs xs i r hd
        induction hd generalizing i with
        | nil => intro z; simp at z
        | cons a b c ih =>
          intro z
          cases i with
          | zero => simp at z; subst z; exact a
          | succ i => exact ih (by simpa using z)
      have := this hd hi
      cases this
    | tmp ds => exact q2 p rfl
    | tk ds => exact q2 p rfl
    | tt ds => exact q2 p rfl
  rcases q4 with z | z
  · exact q1.1 z
  · exact z q1.2
end
def putD (i : Nat) (r : RV) (s : Sx) : Sx :=
  match r with
  | .dat d => { s with g := s.g.set i (some (.dat d)) }
  | .tmp ds => { s with g := s.g.set i (some (.own ds)) }
  | .tk kvs => { s with g := s.g.set i (some (.dk kvs)) }
  | .tt kvs => { s with g := s.g.set i (some (.dt kvs)) }
  | .slot _ => s
def putAll : List Nat → List RV → Sx → Sx
  | i :: is, r :: rs, s => putAll is rs (putD i r s)
  | _, _, s => s
def setAll : List Nat → List V → L2.St → L2.St
  | i :: is, x :: xs, σ => setAll is xs (σ.set i (some x))
  | _, _, σ => σ
theorem putD_ok {K : PySem.W.Frag} {C : Ct K} {O O1 : Ow} {F H F1 H1 : Hp} {s : Sx} {σ : L2.St} {i : Nat} {r : RV} {x : V} (t : Tr O F H O1 F1 H1) (v : VS C O1 F1 s σ H1) (hx : RVok C O1 F1 H1 σ r x) (hf : RVf O H r x) (hs : r.isSlot = false) :
    ∃ O2, VS C O2 F1 (putD i r s) (σ.set i (some x)) H1 ∧ Tr O F H O2 F1 H1 ∧ ∀ q, O2 q ≠ O1 q → (∀ d, r ≠ .dat d) ∧ x = .ref q := by
  have key : ∀ p, ∀ q, updO O1 p (some (i + 2)) q ≠ O1 q → q = p := fun p q h => by
    by_cases z : q = p
    · exact z
    · rw [updO_ne z] at h; exact absurd rfl h
  cases r with
  | dat d => exact ⟨O1, v.setD hx, t, fun q h => absurd rfl h⟩
  | tmp ds =>
    obtain ⟨p, vs, rfl, a2, a3, a4, a5, a6⟩ := hx
    obtain ⟨v2, t2⟩ := v.setO t (i := i) (b := .own ds) a2 a3 a4 a5 (hf p rfl) ⟨p, vs, rfl, updO_same, a2, a6⟩
    exact ⟨_, v2, t2, fun q h => ⟨fun d z => (by cases z), by rw [key p q h]⟩⟩
  | tk ds =>
    obtain ⟨p, vs, rfl, a2, a3, a4, a5, a6⟩ := hx
    obtain ⟨v2, t2⟩ := v.setO t (i := i) (b := .dk ds) a2 a3 a4 a5 (hf p rfl) ⟨p, vs, rfl, updO_same, a2, a6⟩
    exact ⟨_, v2, t2, fun q h => ⟨fun d z => (by cases z), by rw [key p q h]⟩⟩
  | tt ds =>
    obtain ⟨p, vs, rfl, a2, a3, a4, a5, a6⟩ := hx
    obtain ⟨v2, t2⟩ := v.setO t (i := i) (b := .dt ds) a2 a3 a4 a5 (hf p rfl) ⟨p, vs, rfl, updO_same, a2, a6⟩
    exact ⟨_, v2, t2, fun q h => ⟨fun d z => (by cases z), by rw [key p q h]⟩⟩
  | slot j => cases hs
theorem RVok.re {K : PySem.W.Frag} {C : Ct K} {O1 O2 : Ow} {F1 H1 : Hp} {σ τ : L2.St} {r : RV} {x : V} (h : RVok C O1 F1 H1 σ r x) (hs : r.isSlot = false) (e : ∀ p, (∀ d, r ≠ .dat d) → x = .ref p → O2 p = O1 p) : RVok C O2 F1 H1 τ r x := by
  cases r with
  | dat d => exact h
  | slot j => cases hs
  | tmp ds => obtain ⟨p, vs, a1, a2, a3, a4, a5, a6⟩ := h; exact ⟨p, vs, a1, a2, a3, a4, by rw [e p (fun d z => (by cases z)) a1]; exact a5, a6⟩
  | tk ds => obtain ⟨p, vs, a1, a2, a3, a4, a5, a6⟩ := h; exact ⟨p, vs, a1, a2, a3, a4, by rw [e p (fun d z => (by cases z)) a1]; exact a5, a6⟩
  | tt ds => obtain ⟨p, vs, a1, a2, a3, a4, a5, a6⟩ := h; exact ⟨p, vs, a1, a2, a3, a4, by rw [e p (fun d z => (by cases z)) a1]; exact a5, a6⟩
theorem Dist.ns : ∀ {rs : List RV} {xs : List V} {i : Nat} {r : RV}, Dist rs xs → rs[i]? = some r → r.isSlot = false
  | _, _, _, _, .nil, z => by simp at z
  | _, _, 0, _, .cons a _ _, z => by simp at z; subst z; exact a
  | _, _, i + 1, _, .cons _ _ c, z => Dist.ns (i := i) c (by simpa using z)
theorem putAll_ok {K : PySem.W.Frag} {C : Ct K} {O : Ow} {F H F1 H1 : Hp} : ∀ {is : List Nat} {rs : List RV} {xs : List V} {O1 : Ow} {s : Sx} {σ : L2.St}, Tr O F H O1 F1 H1 → VS C O1 F1 s σ H1 → RVs C O1 F1 H1 σ rs xs → Paired (RVf O H) rs xs → Dist rs xs → is.length = rs.length →
    ∃ O2, VS C O2 F1 (putAll is rs s) (setAll is xs σ) H1 ∧ Tr O F H O2 F1 H1
  | [], [], _, O1, s, σ, t, v, .nil, _, _, _ => ⟨O1, v, t⟩
  | i :: is, r :: rs, x :: xs, O1, s, σ, t, v, .cons hx hxs, .cons hf hfs, .cons hs hd hD, hl => by
    obtain ⟨O2, v2, t2, hO⟩ := putD_ok (i := i) t v hx hf hs
    have re : RVs C O2 F1 H1 (σ.set i (some x)) rs xs := by
      have go : ∀ (rs' : List RV) (xs' : List V), RVs C O1 F1 H1 σ rs' xs' → (∀ (j : Nat) (r' : RV), rs'[j]? = some r' → r'.isSlot = false ∧ ∀ p, (∀ d, r' ≠ .dat d) → xs'[j]? = some (V.ref p) → O2 p = O1 p) → RVs C O2 F1 H1 (σ.set i (some x)) rs' xs' := by
        intro rs' xs' h
        induction h with
        | nil => intro _; exact .nil
        | cons a b ih =>
          intro k
          refine .cons (RVok.re a (k 0 _ rfl).1 fun p q e => (k 0 _ rfl).2 p q (by rw [e]; rfl)) (ih fun j r' hj => k (j + 1) r' (by simpa using hj))
      refine go rs xs hxs fun j r' hj => ⟨hD.ns hj, fun p hnd hp => ?_⟩
      refine Classical.byContradiction fun z => ?_
      obtain ⟨z1, z2⟩ := hO p z
      exact hd p z1 z2 j r' hj hnd hp
    exact putAll_ok (is := is) (rs := rs) (xs := xs) (s := putD i r s) (σ := σ.set i (some x)) t2 v2 re hfs hD (by simpa using hl)
def sPar (is : List Nat) (f : DA) : DSt := fun s => (f s).toS fun rs s1 => if is.length = rs.length then .nx (putAll is rs s1) else .bad
section
variable {X : Cx} {C : Ct X.K} {pos px py pz pt : Pos} {kt k2 : Nat} {pt2 : Pos} {a b c : Expr} {f : DA} {x y z : Str} {i j l : Nat}
theorem vs_par2 {fa fb : DE} {i0 i1 : Nat} (hc : X.calm = true) (hN : X.N.Nodup) (ha : VE X C a fa) (hb : VE X C b fb) (hi : X.N[i0]? = some x := by rfl) (hj : X.N[i1]? = some y := by rfl) (hij : i0 ≠ i1 := by decide) (hx : X.env.scope.names.lookup x = some .local := by rfl) (hy : X.env.scope.names.lookup y = some .local := by rfl)
    (hw : swappedStores [.Tuple [.Name x px, .Name y py] kt pt] (.Tuple [a, b] k2 pt2) X.env = pure (some [x, y]) := by rfl) (he : starEach [a, b] X.env = (false, eval a X.env) :: starEach [b] X.env := by rfl) (he2 : starEach [b] X.env = (false, eval b X.env) :: starEach [] X.env := by rfl)
    (hs : swapsWithSole [.Tuple [.Name x px, .Name y py] kt pt] (.Tuple [a, b] k2 pt2) pos.line X.env = pure false := by rfl) : VSt X C (.Assign [.Tuple [.Name x px, .Name y py] kt pt] (.Tuple [a, b] k2 pt2) pos) (sPar [i0, i1] (dpCons fa (dpCons fb dpNil))) := by
  refine ⟨psI (ps_par hc hN hi hj hij hx hy (vp_cons ha (vp_cons hb vp_nil he2) he).run hw hs) fun D σ H ⟨O, F, s, v, h⟩ => ⟨O, F, s, v, RdS.bind h Tr.refl fun rs s1 O1 F1 H1 v1 t1 h1 xs hxs hfs hd => ?_⟩⟩
  split at h1
  · rename_i hl
    obtain ⟨O2, v2, t2⟩ := putAll_ok t1 v1 hxs hfs hd hl
    match rs, xs, hxs, hl with
    | [_, _], [u, w'], .cons _ (.cons _ .nil), _ => exact ⟨u, w', rfl, h1 _ _ _ _ v2 t2⟩
  · exact h1.elim
theorem vs_par3 {fa fb fc : DE} {i0 i1 i2 : Nat} (hc : X.calm = true) (hN : X.N.Nodup) (ha : VE X C a fa) (hb : VE X C b fb) (hcc : VE X C c fc) (hi : X.N[i0]? = some x := by rfl) (hj : X.N[i1]? = some y := by rfl) (hl : X.N[i2]? = some z := by rfl) (hij : i0 ≠ i1 := by decide) (hil : i0 ≠ i2 := by decide) (hjl : i1 ≠ i2 := by decide)
    (hx : X.env.scope.names.lookup x = some .local := by rfl) (hy : X.env.scope.names.lookup y = some .local := by rfl) (hz : X.env.scope.names.lookup z = some .local := by rfl)
    (hw : swappedStores [.Tuple [.Name x px, .Name y py, .Name z pz] kt pt] (.Tuple [a, b, c] k2 pt2) X.env = pure (some [x, y, z]) := by rfl) (he : starEach [a, b, c] X.env = (false, eval a X.env) :: starEach [b, c] X.env := by rfl) (he2 : starEach [b, c] X.env = (false, eval b X.env) :: starEach [c] X.env := by rfl) (he3 : starEach [c] X.env = (false, eval c X.env) :: starEach [] X.env := by rfl)
    (hs : swapsWithSole [.Tuple [.Name x px, .Name y py, .Name z pz] kt pt] (.Tuple [a, b, c] k2 pt2) pos.line X.env = pure false := by rfl) : VSt X C (.Assign [.Tuple [.Name x px, .Name y py, .Name z pz] kt pt] (.Tuple [a, b, c] k2 pt2) pos) (sPar [i0, i1, i2] (dpCons fa (dpCons fb (dpCons fc dpNil)))) := by
  refine ⟨psI (ps_par3 hc hN hi hj hl hij hil hjl hx hy hz (vp_cons ha (vp_cons hb (vp_cons hcc vp_nil he3) he2) he).run hw hs) fun D σ H ⟨O, F, s, v, h⟩ => ⟨O, F, s, v, RdS.bind h Tr.refl fun rs s1 O1 F1 H1 v1 t1 h1 xs hxs hfs hd => ?_⟩⟩
  split at h1
  · rename_i hl
    obtain ⟨O2, v2, t2⟩ := putAll_ok t1 v1 hxs hfs hd hl
    match rs, xs, hxs, hl with
    | [_, _, _], [u, w', y'], .cons _ (.cons _ (.cons _ .nil)), _ => exact ⟨u, w', y', rfl, h1 _ _ _ _ v2 t2⟩
  · exact h1.elim
end
end VL

namespace VL
open PySem PySem.Spec PyProof.Rows L2

/-! ### len(set(t)) of a tuple of ints -/
def distinct : List Int → List Int
  | [] => []
  | x :: r => if x ∈ r then distinct r else x :: distinct r
theorem distinct_mem : ∀ (ns : List Int) (k : Int), k ∈ distinct ns ↔ k ∈ ns
  | [], k => by simp [distinct]
  | x :: r, k => by
    unfold distinct
    split
    · rename_i h
      rw [distinct_mem r k]
      constructor
      · exact fun z => List.mem_cons_of_mem _ z
      · intro z
        rcases List.mem_cons.mp z with rfl | z
        · exact h
        · exact z
    · rw [List.mem_cons, List.mem_cons, distinct_mem r k]
theorem distinct_nodup : ∀ ns : List Int, (distinct ns).Nodup
  | [] => by simp [distinct]
  | x :: r => by
    unfold distinct
    split
    · exact distinct_nodup r
    · rename_i h
      exact List.nodup_cons.mpr ⟨fun z => h ((distinct_mem r x).mp z), distinct_nodup r⟩
theorem nodup_len {a b : List Int} (ha : a.Nodup) (hb : b.Nodup) (h : ∀ k, k ∈ a ↔ k ∈ b) : a.length = b.length :=
  Nat.le_antisymm (List.Nodup.length_le_of_subset ha fun k hk => (h k).mp hk) (List.Nodup.length_le_of_subset hb fun k hk => (h k).mpr hk)
def gLenSet : PyData → Option RV
  | .tuple ds => (intsD ds).bind fun ns => if ns.length ≤ 4000 then some (int_ (distinct ns).length) else none
  | _ => none
section
variable {X : Cx} {C : Ct X.K} {pos p p2 q : Pos} {a : Expr} {fa : DE}
theorem ve_lenset (hc : X.calm = true) (ha : VE X C a fa) (hm : X.mg "len" = none) (hm2 : X.mg "set" = none) (hg : Gl X "len" := by rfl) (hg2 : Gl X "set" := by rfl) (na : starEach [a] X.env = (false, eval a X.env) :: starEach [] X.env := by rfl)
    (nb : starEach [.Call (.Name "set" p2) [a] [] q] X.env = (false, eval (.Call (.Name "set" p2) [a] [] q) X.env) :: starEach [] X.env := by rfl) :
    VE X C (.Call (.Name "len" p) [.Call (.Name "set" p2) [a] [] q] [] pos) (dUn gLenSet fa) := by
  refine ⟨⟨fun pins s σ H Q I h => ?_⟩⟩
  have h2 : tUn (rUn C gLenSet) (tE C fa) σ H Q := by
    obtain ⟨O, F, st, v, h⟩ := h
    exact ⟨O, F, st, v, Rd0.bind h Tr.refl fun ra s1 O1 F1 H1 v1 t1 h1 x hx _ => fin1_ok h1 t1 v1 hx⟩
  refine Call_ (ld_blt I hg hm boot_len ?_)
  refine PyProof.Rows.callWith_builtin1 (PyProof.Rows.args_cons ?_ nb) nb rfl
  refine Call_ (ld_blt I hg2 hm2 boot_set ?_)
  refine PyProof.Rows.callWith_type1 (PyProof.Rows.args_cons (thn (ha.run.run pins s σ H _ I h2) fun v s1 hq => PyProof.Rows.args_nil ?_) na) na rfl
  obtain ⟨x, H1, I1, r1, σ', O0, F0, H0, O, F, st, d, r, vs, tr, b1, hgl, rd⟩ := hq
  unfold gLenSet at hgl
  split at hgl
  · rename_i ds
    cases e1 : intsD ds with
    | none => rw [e1] at hgl; cases hgl
    | some ns =>
      rw [e1] at hgl
      simp only [Option.bind_some] at hgl
      split at hgl
      · rename_i hl
        cases hgl
        obtain ⟨l, zs, rfl, h1, d1⟩ := b1.tuple vs.fh
        cases r1
        rw [ints_ok d1 e1] at h1
        obtain ⟨its, rr, pt, hz⟩ := I1.tuple h1
        have hi : IntsAre its.toArray.toList ns := by simpa using RZ.intsAre_vals rr
        refine call_set_tupI ns (I1.ok.hd hc) (show s1.heap.IsTuple l its.toArray from pt) hi (by unfold scanBound; omega) fun h' tk c hS hc' hk => ?_
        refine PyProof.Rows.args_nil ?_
        obtain ⟨o, es, ep, t, ho, hex, hd, _, hnd, hmem, _, hf, hn, _⟩ := hS
        have I2 : Inv X pins σ H1 { s1 with heap := h', toks := tk } := I1.kept hk
        have hlen : c = (distinct ns).length := by
          rw [← hn]
          have q := nodup_len hnd (distinct_nodup ns) fun k => by rw [distinct_mem, ← hmem k, decide_eq_true_eq]
          rw [List.length_map, Array.length_toList] at q
          exact q
        exact call_len_set ho hex hd hf (by rw [hn] <;> omega) ⟨.int c, H1, I2.tok _, ⟨_, by rw [hn]⟩, by rw [hlen]; exact rd.dat tr vs (.int _)⟩
      · cases hgl
  · cases hgl
end

/-! ### list(range(..)), tuple(range(..)) -/
def okRg (a b : Int) : Bool := okI a && okI b && decide (b - a ≤ 1000000)
theorem okRg_ok {a b : Int} (h : okRg a b = true) : RgOk a b := by
  unfold okRg at h
  simp only [Bool.and_eq_true, decide_eq_true_eq] at h
  obtain ⟨l1, l2⟩ := okI_lo h.1.1
  obtain ⟨l3, l4⟩ := okI_lo h.1.2
  exact ⟨l1, l2, l3, l4, by omega⟩
theorem rgV_all {K : PySem.W.Frag} {F : Hp} (a b : Int) : DtAll K F (rgV a b) (rngD a 1 (b - a).toNat) := by
  have go : ∀ (n : Nat) (a : Int) (k : Nat), DtAll K F ((List.range' k n).map fun i => V.int (a + (i : Nat))) (rngD (a + (k : Nat)) 1 n) := by
    intro n
    induction n with
    | zero => intro a k; exact .nil
    | succ n ih =>
      intro a k
      rw [List.range'_succ, List.map_cons]
      refine .cons (.int _) ?_
      have := ih a (k + 1)
      rw [show a + ((k + 1 : Nat) : Int) = a + (k : Nat) + 1 by omega] at this
      exact this
  have := go (b - a).toNat a 0
  unfold rgV
  rw [List.range_eq_range']
  simpa using this
def fRg (mk : List PyData → RV) (a b : Option Int) (s : Sx) : Out RV :=
  match a, b with
  | some a, some b => if okRg a b = true then .ok (mk (rngD a 1 (b - a).toNat)) s else .bad
  | _, _ => .bad
def tupD (ds : List PyData) : RV := .dat (.tuple ds)
def dListRg1 (f : DE) : DE := fun s => (f s).bind fun r s1 => fRg .tmp (some 0) (asInt r s1) s1
def dTupleRg1 (f : DE) : DE := fun s => (f s).bind fun r s1 => fRg tupD (some 0) (asInt r s1) s1
def dListRg2 (f g : DE) : DE := fun s => (f s).bind fun r s1 => (g s1).bind fun q s2 => fRg .tmp (asInt r s2) (asInt q s2) s2
def dTupleRg2 (f g : DE) : DE := fun s => (f s).bind fun r s1 => (g s1).bind fun q s2 => fRg tupD (asInt r s2) (asInt q s2) s2
section
variable {X : Cx} {C : Ct X.K} {pos p p2 q : Pos} {a b : Expr} {fa fb : DE}
theorem fRg_lst {O O1 : Ow} {F H F1 H1 : Hp} {s : Sx} {σ : L2.St} {Q : VK} {i j : Int} (h : RdE C σ O F H (fRg .tmp (some i) (some j) s) Q) (t : Tr O F H O1 F1 H1) (v : VS C O1 F1 s σ H1) : RgOk i j ∧ ∀ q, H1 q = none → Q (.ref q) (upd H1 q (.lst (rgV i j))) := by
  simp only [fRg] at h
  split at h
  · rename_i ho
    exact ⟨okRg_ok ho, fun q hq => RdE.tmpNew h t v hq (rgV_all i j)⟩
  · exact h.elim
theorem fRg_tup {O O1 : Ow} {F H F1 H1 : Hp} {s : Sx} {σ : L2.St} {Q : VK} {i j : Int} (h : RdE C σ O F H (fRg tupD (some i) (some j) s) Q) (t : Tr O F H O1 F1 H1) (v : VS C O1 F1 s σ H1) : RgOk i j ∧ ∀ q, H1 q = none → Q (.ref q) (upd H1 q (.tup (rgV i j))) := by
  simp only [fRg] at h
  split at h
  · rename_i ho
    exact ⟨okRg_ok ho, fun q hq => RdE.tupNew h t v hq (rgV_all i j)⟩
  · exact h.elim
theorem ve_listrg1 (hc : X.calm = true) (ha : VE X C a fa) (hm : X.mg "list" = none) (hm2 : X.mg "range" = none) (hg : Gl X "list" := by rfl) (hg2 : Gl X "range" := by rfl) (na : starEach [a] X.env = (false, eval a X.env) :: starEach [] X.env := by rfl)
    (nb : starEach [.Call (.Name "range" p2) [a] [] q] X.env = (false, eval (.Call (.Name "range" p2) [a] [] q) X.env) :: starEach [] X.env := by rfl) : VE X C (.Call (.Name "list" p) [.Call (.Name "range" p2) [a] [] q] [] pos) (dListRg1 fa) := by
  refine ⟨peI (pe_listRg hc hg hm (prg_1 hg2 hm2 ha.run na) nb) fun σ H Q ⟨O, F, s, v, h⟩ => ⟨O, F, s, v, Rd0.bind h Tr.refl fun r s1 O1 F1 H1 v1 t1 h1 x hx _ => ?_⟩⟩
  cases e : asInt r s1 with
  | none => rw [e] at h1; exact h1.elim
  | some j => rw [e] at h1; exact ⟨j, asInt_ok v1 hx e, fRg_lst h1 t1 v1⟩
theorem ve_tuplerg1 (hc : X.calm = true) (ha : VE X C a fa) (hm : X.mg "tuple" = none) (hm2 : X.mg "range" = none) (hg : Gl X "tuple" := by rfl) (hg2 : Gl X "range" := by rfl) (na : starEach [a] X.env = (false, eval a X.env) :: starEach [] X.env := by rfl)
    (nb : starEach [.Call (.Name "range" p2) [a] [] q] X.env = (false, eval (.Call (.Name "range" p2) [a] [] q) X.env) :: starEach [] X.env := by rfl) : VE X C (.Call (.Name "tuple" p) [.Call (.Name "range" p2) [a] [] q] [] pos) (dTupleRg1 fa) := by
  refine ⟨peI (pe_tupRg hc hg hm (prg_1 hg2 hm2 ha.run na) nb) fun σ H Q ⟨O, F, s, v, h⟩ => ⟨O, F, s, v, Rd0.bind h Tr.refl fun r s1 O1 F1 H1 v1 t1 h1 x hx _ => ?_⟩⟩
  cases e : asInt r s1 with
  | none => rw [e] at h1; exact h1.elim
  | some j => rw [e] at h1; exact ⟨j, asInt_ok v1 hx e, fRg_tup h1 t1 v1⟩
end

/-! ### repr of data -/
mutual
/-- a bound of the length of a repr -/
def rbd : PyData → Nat
  | .none => 4
  | .bool _ => 5
  | .int i => ((toString i : String) : Str).length
  | .str x => (reprText x).length
  | .list xs => rbdAll xs + 2
  | .tuple xs => rbdAll xs + 3
  | .dict kvs => ((PyData.dict kvs).shown).length
def rbdAll : List PyData → Nat
  | [] => 0
  | x :: xs => rbd x + 2 + rbdAll xs
end
theorem join_le (sep : Str) : ∀ ts : List Str, (Str.join sep ts).length ≤ (ts.map fun t => t.length + sep.length).sum
  | [] => by exact Nat.zero_le _
  | [x] => by
    show x.length ≤ _
    simp
  | x :: y :: r => by
    show (x ++ sep ++ Str.join sep (y :: r)).length ≤ _
    have ih := join_le sep (y :: r)
    rw [strLen_append, strLen_append, List.map_cons, List.sum_cons]
    omega
mutual
theorem rbd_ok : ∀ d : PyData, d.shown.length ≤ rbd d
  | .none => by rw [PyData.shown_none]; decide
  | .bool b => by rw [PyData.shown_bool]; cases b <;> decide
  | .int i => by rw [PyData.shown_int]; exact Nat.le_refl _
  | .str x => by rw [PyData.shown_str]; exact Nat.le_refl _
  | .list xs => by
    rw [PyData.shown_list, strLen_append, strLen_append]
    have h1 := join_le ", " (PyData.shownAll xs)
    have h2 := rbdAll_ok xs
    have h3 : ("[" : Str).length = 1 := by decide
    have h4 : ("]" : Str).length = 1 := by decide
    simp only [rbd]
    omega
  | .tuple xs => by
    rw [PyData.shown_tuple, strLen_append, strLen_append]
    have h1 := join_le ", " (PyData.shownAll xs)
    have h2 := rbdAll_ok xs
    have h3 : ("(" : Str).length = 1 := by decide
    have h4 : (((if (xs.length == 1) = true then ",)" else ")" : String)) : Str).length ≤ 2 := by split <;> decide
    simp only [rbd]
    omega
  | .dict kvs => Nat.le_refl _
theorem rbdAll_ok : ∀ xs : List PyData, ((PyData.shownAll xs).map fun t => t.length + (", " : Str).length).sum ≤ rbdAll xs
  | [] => by rw [PyData.shownAll_nil]; exact Nat.le_refl _
  | x :: xs => by
    rw [PyData.shownAll_cons, List.map_cons, List.sum_cons]
    have h1 := rbd_ok x
    have h2 := rbdAll_ok xs
    have h3 : (", " : Str).length = 2 := by decide
    simp only [rbdAll]
    omega
end
/-- what repr takes -/
def okR (d : PyData) : Bool := SeqAt.shaped d && d.showable && decide (rbd d ≤ sizeLine)
def gRepr : List PyData → Option RV
  | [d] => if okR d = true then some (.dat (.str d.shown)) else none
  | _ => none
theorem c_repr {X : Cx} {C : Ct X.K} {k : Nat} (hr : Room k X.A) (hg : X.A.guards = some []) : CallR X (.builtin "repr") (rCall C gRepr) := by
  intro pins s σ H xs us Q I r ⟨σ', O0, F0, H0, O, F, st, ds, rv, vs, tr, bo, hgl, rd⟩
  unfold gRepr at hgl
  split at hgl
  · rename_i d
    split at hgl
    · rename_i ho
      cases hgl
      unfold okR at ho
      simp only [Bool.and_eq_true, decide_eq_true_eq] at ho
      obtain ⟨⟨hs, hsh⟩, hb⟩ := ho
      have hsz : d.shown.length ≤ sizeLine := Nat.le_trans (rbd_ok d) hb
      obtain ⟨x, rfl, b⟩ := boAll1 bo
      obtain ⟨u, rfl, rx⟩ := vals1 r
      have hfin : ∀ (h' : Heap) (t : Tok) (tk : Nat), (∀ b o, s.heap.get? b = some o → h'.get? b = some o) → EP X pins σ Q (.str d.shown t) { s with heap := h', toks := tk } := fun h' t tk hk =>
        ⟨.str d.shown, H, I.kept hk, ⟨_, rfl⟩, rd.dat tr vs (.str _)⟩
      have hself : ∀ tk, EP X pins σ Q (.str d.shown s.toks) { s with toks := tk } := fun tk => hfin s.heap s.toks tk fun _ _ e => e
      have hd := (b.dt vs.fh).dp (shaped_lay hs)
      obtain ⟨as, rdd⟩ := Dp.reads I d x u hd rx
      have hu := hr.un
      have hdep := SeqAt.depth_of_shaped hs
      have hnd : d.hasDict = false := PyData.hasDict_of_canLay d (shaped_lay hs)
      cases d with
      | none =>
        cases b.non
        cases rx
        rw [PyData.shown_none] at hself
        exact PySem.P.repr_of_none (hself _)
      | bool c =>
        cases b.bl
        cases rx
        rw [PyData.shown_bool] at hself
        exact PySem.P.repr_of_bool (by have := hself (s.toks + 1); cases c <;> exact this)
      | int i =>
        cases b.int
        obtain ⟨t, rfl⟩ := rx
        rw [PyData.shown_int] at hself
        exact PySem.P.repr_of_int (by simpa [PyData.showable] using hsh) (hself _)
      | str z =>
        cases b.str
        obtain ⟨t, rfl⟩ := rx
        rw [PyData.shown_str] at hself hsz
        exact PySem.P.repr_of_str (hself _) hsz
      | list zs =>
        obtain ⟨p, ys, rfl, h1, d1⟩ := b.list vs.fh
        cases rx
        exact repr_of_reads' rdd hsh (PyData.noDict_hsm hnd) hg (by omega) (fun _ _ e => e) (fun h' t tk hk => hfin h' t tk hk) hsz
      | tuple zs =>
        obtain ⟨p, ys, rfl, h1, d1⟩ := b.tuple vs.fh
        cases rx
        exact repr_of_reads' rdd hsh (PyData.noDict_hsm hnd) hg (by omega) (fun _ _ e => e) (fun h' t tk hk => hfin h' t tk hk) hsz
      | dict kvs => cases hnd
    · cases hgl
  · cases hgl
end VL

namespace VL
open PySem PySem.Spec PyProof.Rows L2

/-! ### t[::-1] -/
theorem adj_rev (n : Nat) : Builtin.Slice.sliceAdjust none none (-1) (n : Int) = ((n : Int) - 1, -1) := by
  unfold Builtin.Slice.sliceAdjust
  simp
theorem places_rev (n : Nat) : Builtin.Slice.slicePlaces ((n : Int) - 1) (-1) (-1) = n := by
  unfold Builtin.Slice.slicePlaces
  simp only [show ¬ ((-1 : Int) > 0) by decide, if_false]
  split
  · rw [show (- -1 : Int) = 1 by decide, Int.ediv_one]; omega
  · omega
theorem pick_rev (xs : Array Value) : ((List.range xs.size).filterMap fun (k : Nat) => xs[((xs.size : Int) - 1 + (k : Int) * -1).toNat]?).toArray = xs.toList.reverse.toArray := by
  congr 1
  apply List.ext_getElem?
  intro i
  have key : (List.range xs.size).filterMap (fun (k : Nat) => xs[((xs.size : Int) - 1 + (k : Int) * -1).toNat]?) = (List.range xs.size).map fun k => xs.toList.reverse.getD k .none := by
    have go : ∀ ks : List Nat, (∀ k ∈ ks, k < xs.size) → ks.filterMap (fun (k : Nat) => xs[((xs.size : Int) - 1 + (k : Int) * -1).toNat]?) = ks.map fun k => xs.toList.reverse.getD k .none := by
      intro ks
      induction ks with
      | nil => intro _; rfl
      | cons k r ih =>
        intro h
        have hk := h k List.mem_cons_self
        have e : ((xs.size : Int) - 1 + (k : Int) * -1).toNat = xs.size - 1 - k := by omega
        have e2 : xs[((xs.size : Int) - 1 + (k : Int) * -1).toNat]? = some (xs.toList.reverse.getD k .none) := by
          rw [e, ← Array.getElem?_toList, List.getD_eq_getElem?_getD, List.getElem?_reverse (by simpa using hk), Array.length_toList]
          rw [List.getElem?_eq_getElem (by simp; omega)]
          rfl
        rw [List.filterMap_cons, List.map_cons, ← ih fun j hj => h j (List.mem_cons_of_mem _ hj)]
        simp only [e2]
    exact go _ fun k hk => List.mem_range.mp hk
  rw [key]
  by_cases hi : i < xs.size
  · rw [List.getElem?_map, List.getElem?_range hi]
    show some (xs.toList.reverse.getD i .none) = _
    rw [List.getD_eq_getElem?_getD]
    rw [List.getElem?_eq_getElem (l := xs.toList.reverse) (by simpa using hi)]
    rfl
  · rw [List.getElem?_eq_none (by simpa using hi), List.getElem?_eq_none (by simpa using hi)]
section
variable {prog : Program} {w : World} {A : Around} {E : Value → Shared → Prop} {s : Shared}
theorem applied_rev {sl : Addr} {n : Nat} {u : Tok} {Q : Int × Int × Nat → Shared → Prop} (hs : s.heap.IsSliceOf sl .none .none (.int (-1) u)) (h : Q ((n : Int) - 1, -1, n) s) :
    wpAny (model prog w) A (Builtin.Slice.sliceApplied (.ref sl) (pure (n : Int))) Q E s := by
  obtain ⟨o, ho, hc, hd⟩ := id hs
  unfold Builtin.Slice.sliceApplied Builtin.Slice.sliceFields
  refine wpAny_bind (wpAny_bind (wpAny_field ho hd (x := .none) rfl ?_))
  refine wpAny_bind (wpAny_field ho hd (x := .none) rfl (wpAny_bind (wpAny_field ho hd (x := .int (-1) u) rfl (wpAny_pure ?_))))
  refine wpAny_bind (slicePart_int ?_)
  show wpAny _ _ (if ((-1 : Int) == 0) = true then _ else _) _ _ s
  rw [if_neg (by decide)]
  refine wpAny_bind (slicePart_none (wpAny_bind (slicePart_none (wpAny_bind (wpAny_pure ?_)))))
  show wpAny _ _ (match Builtin.Slice.sliceAdjust none none (-1) (n : Int) with | (lo, hi) => pure (lo, (-1 : Int), Builtin.Slice.slicePlaces lo hi (-1))) _ _ s
  rw [adj_rev]
  show wpAny _ _ (pure ((n : Int) - 1, (-1 : Int), Builtin.Slice.slicePlaces ((n : Int) - 1) (-1) (-1))) _ _ s
  rw [places_rev]
  exact wpAny_pure h
theorem item_rev {t sl : Addr} {items : Array Value} {u : Tok} {Q : Value → Shared → Prop} (ht : IsTup s.heap t items) (hs : s.heap.IsSliceOf sl .none .none (.int (-1) u))
    (h : Q (.ref s.heap.objs.size) { s with heap := s.heap.push { cls := .type "tuple", data := .seq items.toList.reverse.toArray } }) (hsz : items.size ≤ sizeLine) : wpAny (model prog w) A (getItem (.ref t) (.ref sl)) Q E s := by
  have okz : sizeOk (.seq items.toList.reverse.toArray) := by
    show items.toList.reverse.toArray.size ≤ sizeLine
    simpa using hsz
  obtain ⟨o, ho, hc, hd⟩ := id hs
  have ty : s.TypeIs (.ref sl) "slice" := ⟨o, ho, hc⟩
  unfold getItem
  try with_reducible refine wpAny_holding ?_
  first
    | refine wpAny_bind (wpAny_pure ?_)
    | skip
  refine wpAny_bind (wpAny_sequenceKey ht.typeIs (by decide) ?_)
  refine wpAny_bind (wpAny_callSpecial?_slot (name := Str.ofString "__getitem__") ht.typeIs PyProof.Rows.slot_tuple_getitem
      (wpAny_call_entry PyProof.Rows.slot_tuple_getitem ht.typeIs entry_tuple_getitem ?_ (args_tuple_getitem _ _)))
  show wpAny _ _ (Builtin.Tuple.tupleItemsOf (.ref t) >>= _) _ _ s
  refine wpAny_bind (tupleItemsOf_ ht (wpAny_bind (wpAny_typeOf ty ?_)))
  rw [if_pos (by decide)]
  refine wpAny_bind (applied_rev hs ?_)
  show wpAny _ _ (if (((items.size : Int) - 1) == 0 && (-1 : Int) == 1 && items.size == items.size) = true then _ else _) _ _ s
  rw [if_neg (by simp), pick_rev items]
  first
    | exact wpAny_bind (m := Builtin.Tuple.tupleExact _) (wpAny_newObj_type (wpAny_pure ⟨_, rfl, wpAny_pure h⟩) okz)
    | exact wpAny_bind (m := Builtin.Tuple.tupleExact _) (wpAny_newObj_type (wpAny_bind (wpAny_pure (wpAny_pure ⟨_, rfl, wpAny_pure h⟩))) okz)
    | exact wpAny_bind (wpAny_bind (m := Builtin.Tuple.tupleExact _) (wpAny_newObj_type (wpAny_pure (wpAny_pure ⟨_, rfl, wpAny_pure h⟩)) okz))
    | exact wpAny_bind (wpAny_bind (m := Builtin.Tuple.tupleExact _) (wpAny_newObj_type (wpAny_pure ⟨_, rfl, wpAny_pure h⟩) okz))
end
def gRev : PyData → Option RV
  | .list ds => some (.tmp ds.reverse)
  | .tuple ds => some (.dat (.tuple ds.reverse))
  | _ => none
section
variable {X : Cx} {C : Ct X.K} {pos p1 p2 p3 : Pos} {a : Expr} {fa : DE} {k : Nat}
theorem ve_rev (ha : VE X C a fa) : VE X C (.Subscript a (.Slice none none (some (.UnaryOp .USub (.Constant (.int 1) k p1) p2)) p3) pos) (dUn gRev fa) := by
  refine ⟨⟨fun pins s σ H Q I h => ?_⟩⟩
  have h2 : tUn (rUn C gRev) (tE C fa) σ H Q := by
    obtain ⟨O, F, st, v, h⟩ := h
    exact ⟨O, F, st, v, Rd0.bind h Tr.refl fun ra s1 O1 F1 H1 v1 t1 h1 x hx _ => fin1_ok h1 t1 v1 hx⟩
  refine Subscript_ (thn (ha.run.run pins s σ H _ I h2) fun v s1 hq => ?_)
  obtain ⟨x, H1, I1, r1, σ', O0, F0, H0, O, F, st, d, r, vs, tr, b1, hg, rd⟩ := hq
  have step : PO X (some (.UnaryOp .USub (.Constant (.int 1) k p1) p2)) (tPart (tUn (rU fun i => .int (-i)) (tC (.int 1)))) := po_some (pe_un un_neg pe_int)
  refine wpAny_Slice (thn (po_none.run pins s1 σ H1 (fun o H2 => o = none ∧ H2 = H1) I1 ⟨rfl, rfl⟩) fun vl s2 h2 => ?_)
  obtain ⟨l, H2, I2, pl, rfl, rfl⟩ := h2
  refine thn (po_none.run pins s2 σ H2 (fun o H3 => o = none ∧ H3 = H2) I2 ⟨rfl, rfl⟩) fun vu s3 h3 => ?_
  obtain ⟨u, H3, I3, pu, rfl, rfl⟩ := h3
  refine thn (step.run pins s3 σ H3 (fun o H4 => o = some (-1) ∧ H4 = H3) I3 ⟨1, rfl, -1, rfl, rfl, rfl⟩) fun vk s4 h4 => ?_
  obtain ⟨o, H4, I4, pk, rfl, rfl⟩ := h4
  have I5 : Inv X pins σ H4 { s4 with heap := s4.heap.push { cls := .type "slice", data := .fields #[vl, vu, vk] } } := I4.kept (t' := s4.toks) fun b ob q => Heap.get?_push_of_some _ q
  cases pl
  cases pu
  unfold gRev at hg
  split at hg
  · cases hg
    obtain ⟨p, xs, rfl, h1, d1⟩ := b1.list vs.fh
    cases r1
    obtain ⟨its, rr, ht, hz⟩ := I5.list (SqL.of h1)
    have hlen := rr.length
    show wpAny (model X.prog X.w) X.A (subscriptTail a (.Slice none none (some (.UnaryOp .USub (.Constant (.int 1) k p1) p2)) p3) (.ref p) (.ref s4.heap.objs.size)) (EP X pins σ Q) X.xe _
    refine tail_any (ops := [.ref p, .ref s4.heap.objs.size]) ht.isList.typeIs (PySem.slot_list_getitem.lookup) ?_ (by with_unfolding_all rfl)
    refine wpAny_getItem_list_slice ht.isList (Heap.IsSliceOf.new _ _ _ vk) .none .none pk (by decide) ?_ (by rw [List.size_toArray]; omega)
    rw [PySem.W.krv_pick]
    exact ⟨.ref _, _, I5.laid (t' := s4.toks) (o := .lst xs.reverse) (fun b ob q => Heap.get?_push_of_some _ q) (Nat.le_refl _) ⟨by rw [List.length_reverse]; exact hz, _, 0, rr.reverse, Heap.get?_push_size _ rfl⟩, rfl,
      rd.tmpNew tr vs (I5.hok.fresh (Nat.le_refl _)) d1.rev⟩
  · cases hg
    obtain ⟨p, xs, rfl, h1, d1⟩ := b1.tuple vs.fh
    cases r1
    obtain ⟨its, rr, ht, hz⟩ := I5.tuple h1
    have hlen := rr.length
    cases pk with
    | int _ t =>
      show wpAny (model X.prog X.w) X.A (subscriptTail a (.Slice none none (some (.UnaryOp .USub (.Constant (.int 1) k p1) p2)) p3) (.ref p) (.ref s4.heap.objs.size)) (EP X pins σ Q) X.xe _
      refine tail_any (ops := [.ref p, .ref s4.heap.objs.size]) ht.typeIs (PyProof.Rows.slot_tuple_getitem.lookup) ?_ (by with_unfolding_all rfl)
      refine item_rev ht (Heap.IsSliceOf.new _ _ _ _) ?_ (by rw [List.size_toArray]; omega)
      exact ⟨.ref _, _, I5.laid (t' := s4.toks) (o := .tup xs.reverse) (fun b ob q => Heap.get?_push_of_some _ q) (Nat.le_refl _) ⟨by rw [List.length_reverse]; exact hz, _, rr.reverse, IsTup.new _ _⟩, rfl,
        rd.tupNew tr vs (I5.hok.fresh (Nat.le_refl _)) d1.rev⟩
  · cases hg
end
end VL

namespace VL
open PySem PySem.Spec PyProof.Rows L2
open AutoSeq1 (wpAny_loadPart')

/-! ### t * n -/
theorem tmul_same (l : Addr) (items : Array Value) (n : Nat) (dd : Option Addr) (sl : Array (Option Value)) (x : Int) (u : Tok) (c0 : (decide (x < -(2 ^ 63)) || decide (x ≥ 2 ^ 63)) = false) (c1 : (items.isEmpty || x == 1) = true) :
    Meets (Builtin.«tuple.__mul__» ⟨[.ref l, .int x u], []⟩) (fun _ R s => s.heap.get? l = some { cls := .type "tuple", dict := dd, data := .seq items n, slots := sl } ∧ R (.ok (.ret (.ref l))) s) :=
  .of_wp fun prog w A R s h => by
    obtain ⟨hp, g, d, tk, os⟩ := s
    obtain ⟨hl, h⟩ := h
    have f1 := AutoSeq1.idx_int
    wp_walk using wpAny_loadPart' hl
    refine wpAny_ite_false (decide_eq_false (by rw [c0]; exact Bool.false_ne_true)) ?_
    wp_walk using wpAny_loadPart' hl
    exact ⟨_, rfl, h⟩
theorem tmul_none (l : Addr) (items : Array Value) (n : Nat) (dd : Option Addr) (sl : Array (Option Value)) (x : Int) (u : Tok) (c0 : (decide (x < -(2 ^ 63)) || decide (x ≥ 2 ^ 63)) = false) (c1 : (items.isEmpty || x == 1) = false) (c2 : (decide (x ≤ 0) || items.isEmpty) = true) :
    Meets (Builtin.«tuple.__mul__» ⟨[.ref l, .int x u], []⟩) (fun _ R s => s.heap.get? l = some { cls := .type "tuple", dict := dd, data := .seq items n, slots := sl } ∧
      R (.ok (.ret (Value.ref s.heap.objs.size))) { s with heap := s.heap.push { cls := Value.type "tuple", data := Data.seq #[] }, toks := s.toks }) :=
  .of_wp fun prog w A R s h => by
    obtain ⟨hp, g, d, tk, os⟩ := s
    obtain ⟨hl, h⟩ := h
    have f1 := AutoSeq1.idx_int
    wp_walk using wpAny_loadPart' hl
    refine wpAny_ite_false (decide_eq_false (by rw [c0]; exact Bool.false_ne_true)) ?_
    wp_walk using wpAny_loadPart' hl
    exact ⟨_, rfl, h⟩
def gMulT : PyData → PyData → Option RV
  | .tuple xs, .int k => if k ≤ 1000 ∧ -1000 ≤ k ∧ xs.length ≤ 1000 then some (.dat (.tuple (List.replicate k.toNat xs).flatten)) else none
  | d, e => gMul d e
section
variable {X : Cx} {C : Ct X.K}
theorem o_mulT : OpR X (binaryOp .Mult) (rOp C gMulT) := by
  intro pins s σ H x y v u Q I rx ry hh
  obtain ⟨σ', O0, F0, H0, O, F, st, d, e, r, vs, tr, b1, b2, hg, rd⟩ := id hh
  unfold gMulT at hg
  split at hg
  · split at hg
    · cases hg
      rename_i ds k hm
      obtain ⟨p, xs, rfl, h1, d1⟩ := b1.tuple vs.fh
      have dl := d1.len
      have ey := b2.int
      subst ey
      by_cases hk : 2 ≤ k ∧ xs ≠ []
      · exact op_repT pins s σ H _ _ v u Q I rx ry ⟨p, k, xs, rfl, rfl, h1, hk.2, hk.1, hm.1, by omega, fun p' hp => rd.tupNew tr vs hp (d1.rep _)⟩
      · cases rx
        obtain ⟨t, rfl⟩ := ry
        obtain ⟨its, rr, ⟨⟨cls, dd, data, sl⟩, ho, hc, n, hd⟩, hs⟩ := I.tuple h1
        simp only at hc hd
        subst hc hd
        have hle : its.length = xs.length := rr.length.symm
        have c0 : (decide (k < -(2 ^ 63)) || decide (k ≥ 2 ^ 63)) = false := by
          rw [decide_eq_false (by omega), decide_eq_false (by omega)] <;> rfl
        by_cases hc1 : (its.toArray.isEmpty || k == 1) = true
        · refine wpAny_binaryOp_repeat_ref (T := "tuple") (U := "int") (by decide) ⟨_, ho, rfl⟩ (fun s' => typeIs_int s' k t) noFill_tuple_mul PySem.F.fills_int_mul PySem.F.slot_int_rmul repeat_tuple PySem.F.slot_int_index.lookup
            (call_meets PySem.F.slot_int_rmul (typeIs_int s k t) PySem.F.entry_int_rmul (PySem.F.args_int_rmul_2 _ _) (int_rmul_tuple k t p its.toArray n dd sl)
              ⟨ho, rfl, ⟨_, ho, rfl⟩, call_meets PySem.F.slot_tuple_mul ⟨_, ho, rfl⟩ PySem.F.entry_tuple_mul (PySem.F.args_tuple_mul_2 _ _) (tmul_same p its.toArray n dd sl k t c0 hc1) ⟨ho, ?_⟩⟩)
          refine ⟨.ref p, H, I, rfl, ?_⟩
          have e : (List.replicate k.toNat ds).flatten = ds := by
            rcases Bool.or_eq_true _ _ ▸ hc1 with q | q
            · have : its = [] := by
                cases its with
                | nil => rfl
                | cons a b => cases q
              subst this
              have : ds = [] := List.eq_nil_of_length_eq_zero (by rw [← dl, ← hle]; rfl)
              subst this
              rw [List.flatten_eq_nil_iff]
              intro l hl
              exact List.eq_of_mem_replicate hl
            · have : k = 1 := by simpa using q
              subst this
              simp
          rw [e] at rd
          exact rd.dat tr vs b1.tupF
        · have c1 : (its.toArray.isEmpty || k == 1) = false := by simpa using hc1
          have hn : its.toArray.isEmpty = false := by
            revert c1
            cases its.toArray.isEmpty <;> simp
          have hne : xs ≠ [] := fun e => by
            rw [e] at hle
            have := List.eq_nil_of_length_eq_zero hle
            subst this
            cases hn
          have k1 : k ≠ 1 := fun e => by subst e; rw [hn] at c1; cases c1
          have k0 : k ≤ 0 := by
            by_cases q : 2 ≤ k
            · exact absurd ⟨q, hne⟩ hk
            · omega
          have c2 : (decide (k ≤ 0) || its.toArray.isEmpty) = true := by rw [decide_eq_true k0]; rfl
          refine wpAny_binaryOp_repeat_ref (T := "tuple") (U := "int") (by decide) ⟨_, ho, rfl⟩ (fun s' => typeIs_int s' k t) noFill_tuple_mul PySem.F.fills_int_mul PySem.F.slot_int_rmul repeat_tuple PySem.F.slot_int_index.lookup
            (call_meets PySem.F.slot_int_rmul (typeIs_int s k t) PySem.F.entry_int_rmul (PySem.F.args_int_rmul_2 _ _) (int_rmul_tuple k t p its.toArray n dd sl)
              ⟨ho, rfl, ⟨_, ho, rfl⟩, call_meets PySem.F.slot_tuple_mul ⟨_, ho, rfl⟩ PySem.F.entry_tuple_mul (PySem.F.args_tuple_mul_2 _ _) (tmul_none p its.toArray n dd sl k t c0 c1 c2) ⟨ho, ?_⟩⟩)
          have e : (List.replicate k.toNat ds).flatten = [] := by
            rw [show k.toNat = 0 by omega]; rfl
          rw [e] at rd
          refine ⟨.ref s.heap.objs.size, _, I.laid (t' := s.toks) (o := .tup []) (fun b ob q => Heap.get?_push_of_some _ q) (Nat.le_refl _) ⟨Nat.zero_le _, [], .nil, IsTup.new _ _⟩, rfl, rd.tupNew tr vs (I.hok.fresh (Nat.le_refl _)) .nil⟩
    · cases hg
  · exact o_mul pins s σ H x y v u Q I rx ry ⟨σ', O0, F0, H0, O, F, st, _, _, r, vs, tr, b1, b2, hg, rd⟩
end
end VL

namespace VL
open PySem PySem.Spec PyProof.Rows L2

/-! ### the drawn numbers -/
def mixD (c n : Int) : Int := (c * (1 + 2 * n) * 48271 % 2147483647 + 7919 * n * n + 104729 * n) * 69621 % 2147483629 / 7
def greatHere (m : DS) : Nat := (m.spot % (m.great.length : Int)).toNat
def greatAt (m : DS) : Int := m.great.getD (greatHere m) 0
def drawF (m : DS) (L : Int) : Int × DS :=
  if 0 < greatAt m then (greatAt m % L, { m with spot := m.spot + 1, great := m.great.set (greatHere m) (greatAt m / L) })
  else (mixD (mixD (m.cells.getD (m.spot % 64).toNat 0 + 31 * (m.spot / 64)) m.spot) (m.spot + 7) % L, { m with spot := m.spot + 1 })
def drawOk (m : DS) (L : Int) : Bool := decide (0 ≤ m.spot) && decide (m.spot < 1152921504606846976) && decide (m.cells.length = 64) && decide (0 < L) && decide (L < 1073741824)
inductive MPr where
  | ok (d : PyData) (m : DS)
  | exc (c : Nat) (fs : List PyData) (m : DS)
  | bad
abbrev MFn := DS → List PyData → MPr
def drawFn : MFn := fun m ds => match ds with
  | [.int L] => if drawOk m L = true then .ok (.int (drawF m L).1) (drawF m L).2 else .bad
  | _ => .bad
structure DrIn (K : PySem.W.Frag) (F H : Hp) (pm pc pg : Addr) (m : DS) : Prop where
  ne : pm ≠ pg
  fm : F pm = none
  fg : F pg = none
  hm : H pm = some (.dK (mKvs pc pg m.spot))
  hg : H pg = some (.lst (m.great.map V.int))
  sc : SqL K F pc (m.cells.map V.int)
def spD (K : PySem.W.Frag) (n : Nat) (fn : MFn) : Sp := fun vs H Q _ => vs.length = n + 1 ∧ ∃ pm pc pg F m rest ds, vs = .ref pm :: rest ∧ DrIn K F H pm pc pg m ∧ (Same F H ∧ Tp F H) ∧ DtAll K F rest ds ∧
  match fn m ds with
  | .ok d m' => ∀ v F' H', DrIn K F' H' pm pc pg m' → (∀ a o, H a = some o → a ≠ pm → a ≠ pg → H' a = some o) → Same F F' → Same F' H' → (∀ a o, F' a = some o → F a = some o ∨ H a = none) → Tp F' H' → Dt K F' v d → Q v H'
  | _ => False

/-! the body of _law_draw -/
def rMod0 : R2 := rI (fun _ j => 0 < j) fun i j => .int (i % j)
def rDiv0 : R2 := rI CDiv fun i j => .int (i / j)
def rAdd0 : R2 := rI0 fun i j => .int (i + j)
def rMul0 : R2 := rI CMul fun i j => .int (i * j)
def rInt0 : List V → Hp → VK → Prop := fun xs H Q => (∃ i, xs = [.int i] ∧ Q (.int i) H) ∨ ∃ k, xs = [.bl k] ∧ Q (.int (if k then 1 else 0)) H
def rLen0 (K : PySem.W.Frag) : List V → Hp → VK → Prop := fun xs H Q => ∃ x n, xs = [x] ∧ LenV K x H n ∧ Q (.int n) H
def rGt0 : R2 := rI0 fun i j => .bl (decide (j < i))
def tFn (sp : Sp) (E : XK) (t : TA) : TE := fun σ H Q => t σ H fun vs H1 => sp vs H1 Q E
abbrev tInt0 (t : TE) : TE := tCB rInt0 (tCons t tNil)
abbrev tM (x : Str) : TE := tDGet (tVar 0) (tC (.str x))
def tDraw (K : PySem.W.Frag) (fn : PFn) (E : XK) : TS :=
  tSeq (tAsg (tM "spot") (gName 2)) <|
  tSeq (sDPut (tVar 0) (tC (.str "spot")) (tOp rAdd0 (tVar 2) (tC (.int 1)))) <|
  tSeq (tIfS (tTest (tOp (rNeD K) (tM "great") (tLst tNil)))
    (tSeq (tAsg (tM "great") (gName 3)) <|
      tSeq (tAsg (tOp rMod0 (tInt0 (tVar 2)) (tCB (rLen0 K) (tCons (tVar 3) tNil))) (gName 4)) <|
      tSeq (tAsg (tOp (rIx K) (tVar 3) (tVar 4)) (gName 5)) <|
      tIfS (tTest (tOp rGt0 (tVar 5) (tC (.int 0))))
        (tSeq (tAsg (tOp rDiv0 (tVar 5) (tVar 1)) (L2.gSub (tVar 3) (tVar 4) rSetL)) (tRet (tOp rMod0 (tInt0 (tVar 5)) (tVar 1)))) tNext) tNext) <|
  tSeq (tAsg (tM "cells") (gName 3)) <|
  tRet (tOp rMod0 (tInt0 (tFn (spP K 2 fn) E (tCons (tFn (spP K 2 fn) E (tCons (tOp rAdd0 (tOp (rIx K) (tVar 3) (tOp rMod0 (tInt0 (tVar 2)) (tC (.int 64)))) (tOp rMul0 (tC (.int 31)) (tOp rDiv0 (tVar 2) (tC (.int 64)))))
    (tCons (tVar 2) tNil))) (tCons (tOp rAdd0 (tVar 2) (tC (.int 7))) tNil)))) (tVar 1))

theorem ints_lay : ∀ xs : List Int, PyData.canLayAll0 (xs.map PyData.int) = true ∧ PyData.depthAll (xs.map PyData.int) = 0
  | [] => ⟨rfl, rfl⟩
  | x :: xs => by
    obtain ⟨a, b⟩ := ints_lay xs
    refine ⟨?_, ?_⟩
    · show (PyData.canLay0 (.int x) && PyData.canLayAll0 (xs.map PyData.int)) = true
      rw [a]; rfl
    · show max (PyData.depth (.int x)) (PyData.depthAll (xs.map PyData.int)) = 0
      rw [b]; rfl
theorem ints_shaped (xs : List Int) : SeqAt.shaped (.list (xs.map PyData.int)) = true := by
  obtain ⟨a, b⟩ := ints_lay xs
  refine Bool.and_eq_true_iff.mpr ⟨a, decide_eq_true ?_⟩
  show PyData.depthAll (xs.map PyData.int) + 1 ≤ 64
  rw [b]; decide
theorem ints_dt {K : PySem.W.Frag} {F : Hp} : ∀ xs : List Int, DtAll K F (xs.map V.int) (xs.map PyData.int)
  | [] => .nil
  | x :: xs => .cons (.int x) (ints_dt xs)
theorem ixN_nn {n : Nat} {i : Int} (h0 : 0 ≤ i) (h1 : i < n) : ixN n i = some i.toNat := by
  unfold ixN
  rw [if_pos h0, if_pos h1]
theorem atI_int {xs : List Int} {i : Int} (h0 : 0 ≤ i) (h1 : i < xs.length) : atI (xs.map V.int) i = some (V.int (xs.getD i.toNat 0)) := by
  unfold atI
  rw [ixN_nn h0 (by rw [List.length_map]; exact h1)]
  show (xs.map V.int)[i.toNat]? = _
  have hi : i.toNat < xs.length := by omega
  rw [List.getElem?_map, List.getD_eq_getElem?_getD, List.getElem?_eq_getElem hi]
  rfl
theorem draw_run {K : PySem.W.Frag} {fn : PFn} {vs : List V} {H : Hp} {Q : VK} {E E' : XK} {N : List Str} (hN : N.length = 6) (hfn : ∀ c n : Int, 0 ≤ n → n < 2305843009213693952 → fn [.int c, .int n] = .ok (.int (mixD c n))) (h : spD K 1 drawFn vs H Q E') :
    tDraw K fn E { nx := fun _ H' => Q .non H', rt := Q } (start N vs) H := by
  obtain ⟨hl, pm, pc, pg, F, m, rest, ds, rfl, d, ⟨hs, htp⟩, hd, hq⟩ := h
  have hx : ∃ L, ds = [.int L] ∧ drawOk m L = true := by
    cases e : drawFn m ds with
    | ok d' m' =>
      unfold drawFn at e
      split at e
      · split at e
        · rename_i hk
          exact ⟨_, rfl, hk⟩
        · cases e
      · cases e
    | exc a b c => rw [e] at hq; exact hq.elim
    | bad => rw [e] at hq; exact hq.elim
  obtain ⟨L, rfl, hok⟩ := hx
  have ex : drawFn m [.int L] = .ok (.int (drawF m L).1) (drawF m L).2 := by
    show (if drawOk m L = true then _ else _) = _
    rw [if_pos hok]
  rw [ex] at hq
  unfold drawOk at hok
  simp only [Bool.and_eq_true, decide_eq_true_eq] at hok
  obtain ⟨⟨⟨⟨k0, k1⟩, k2⟩, k3⟩, k4⟩ := hok
  cases hd with
  | cons hL hr =>
    cases hr
    cases hL
    simp only at hq
    obtain ⟨n1, n2, n3, n4, n5, n6, rfl⟩ : ∃ a b c d e f, N = [a, b, c, d, e, f] := by
      match N, hN with
      | [a, b, c, d, e, f], _ => exact ⟨a, b, c, d, e, f, rfl⟩
    obtain ⟨ne, fm, fg, hm, hg, sc⟩ := d
    -- n = m['spot']
    refine ⟨_, rfl, ⟨pm, .int m.spot, rfl, .inl ⟨_, .inr "spot", .inl hm, rfl, rfl⟩, ?_⟩⟩
    -- m['spot'] = n + 1
    refine ⟨_, rfl, m.spot, 1, rfl, rfl, ⟨_, rfl, ⟨pm, _, rfl, .inl ⟨_, .inr "spot", hm, rfl, ?_, rfl⟩, ?_⟩⟩⟩
    · rw [sizeLine_eq]; show 3 < 16777216; decide
    have e0 : putK (mKvs pc pg m.spot) (.inr "spot") (.int (m.spot + 1)) = mKvs pc pg (m.spot + 1) := rfl
    rw [e0]
    generalize eH1 : upd H pm (.dK (mKvs pc pg (m.spot + 1))) = H1
    have hm1 : H1 pm = some (.dK (mKvs pc pg (m.spot + 1))) := by rw [← eH1, upd_same]
    have hg1 : H1 pg = some (.lst (m.great.map V.int)) := by rw [← eH1, upd_ne (Ne.symm ne)]; exact hg
    have hs1 : Same F H1 := fun a o e => by
      rw [← eH1, upd_ne (fun z => by subst z; rw [fm] at e; cases e)]
      exact hs a o e
    have kp1 : ∀ a o, H a = some o → a ≠ pm → a ≠ pg → H1 a = some o := fun a o e z _ => by rw [← eH1, upd_ne z]; exact e
    -- m['great'] != []
    refine ⟨_, rfl, ⟨pm, .ref pg, rfl, .inl ⟨_, .inr "great", .inl hm1, rfl, rfl⟩, ?_⟩⟩
    refine ⟨Nat.zero_le _, fun p hp => ?_⟩
    generalize eH2 : upd H1 p (.lst []) = H2
    have np : ∀ q o, H1 q = some o → q ≠ p := fun q o e z => by subst z; rw [hp] at e; cases e
    have k12 : ∀ q o, H1 q = some o → H2 q = some o := fun q o e => by rw [← eH2, upd_ne (np q o e)]; exact e
    have hm2 := k12 _ _ hm1
    have hg2 := k12 _ _ hg1
    have hs2 : Same F H2 := fun a o e => k12 a o (hs1 a o e)
    have kp2 : ∀ a o, H a = some o → a ≠ pm → a ≠ pg → H2 a = some o := fun a o e z1 z2 => k12 _ _ (kp1 a o e z1 z2)
    have hp2 : H2 p = some (.lst []) := by rw [← eH2, upd_same]
    have tp2 : Tp F H2 := fun a xs e => by
      by_cases z : a = p
      · subst z; rw [hp2] at e; cases e
      · rw [← eH2, upd_ne z] at e
        by_cases y : a = pm
        · subst y; rw [hm1] at e; cases e
        · rw [← eH1, upd_ne y] at e
          exact htp a xs e
    refine ⟨.list (m.great.map PyData.int), .list [], (Dt.lst hg2 (ints_dt m.great)).dp (SeqAt.canLay_of_shaped (ints_shaped _)), (Dt.lst hp2 .nil).dp rfl, ints_shaped _, rfl, ?_⟩
    -- the last part
    have last : ∀ (σ : L2.St), σ[0]? = some (some (.ref pm)) → σ[1]? = some (some (.int L)) → σ[2]? = some (some (.int m.spot)) → 3 < σ.length → ¬ 0 < greatAt m →
      tSeq (tAsg (tM "cells") (gName 3)) (tRet (tOp rMod0 (tInt0 (tFn (spP K 2 fn) E (tCons (tFn (spP K 2 fn) E (tCons (tOp rAdd0 (tOp (rIx K) (tVar 3) (tOp rMod0 (tInt0 (tVar 2)) (tC (.int 64)))) (tOp rMul0 (tC (.int 31)) (tOp rDiv0 (tVar 2) (tC (.int 64)))))
        (tCons (tVar 2) tNil))) (tCons (tOp rAdd0 (tVar 2) (tC (.int 7))) tNil)))) (tVar 1))) { nx := fun _ H' => Q .non H', rt := Q } σ H2 := by
      intro σ s0 s1 s2 s3 hgr
      refine ⟨_, s0, ⟨pm, .ref pc, rfl, .inl ⟨_, .inr "cells", .inl hm2, rfl, rfl⟩, ?_⟩⟩
      have g3 : (σ.set 3 (some (V.ref pc)))[3]? = some (some (.ref pc)) := by rw [List.getElem?_set_self s3]
      have g2 : (σ.set 3 (some (V.ref pc)))[2]? = some (some (.int m.spot)) := by rw [List.getElem?_set_ne (by decide)]; exact s2
      have g1 : (σ.set 3 (some (V.ref pc)))[1]? = some (some (.int L)) := by rw [List.getElem?_set_ne (by decide)]; exact s1
      have hn0 : 0 ≤ m.spot % 64 := Int.emod_nonneg _ (by decide)
      have hn1 : m.spot % 64 < 64 := Int.emod_lt_of_pos _ (by decide)
      refine ⟨_, g3, ⟨_, g2, .inl ⟨_, rfl, m.spot, 64, rfl, rfl, (by decide : (0 : Int) < 64), .inl ⟨pc, _, m.spot % 64, _, rfl, rfl, Same.seq hs2 sc, atI_int hn0 (by rw [k2]; exact hn1), ?_⟩⟩⟩⟩
      refine ⟨_, g2, m.spot, 64, rfl, rfl, ⟨by decide, by decide⟩, 31, m.spot / 64, rfl, rfl, .inl ⟨by decide, by decide⟩, _, _, rfl, rfl, ?_⟩
      refine ⟨_, g2, ?_⟩
      refine ⟨rfl, F, [.int (m.cells.getD (m.spot % 64).toNat 0 + 31 * (m.spot / 64)), .int m.spot], ⟨hs2, tp2⟩, .cons (.int _) (.cons (.int _) .nil), ?_⟩
      rw [hfn _ _ k0 (by omega)]
      intro v3 F3 H3 a1 a2 a3 a4 a5 hv3
      cases hv3
      refine ⟨_, g2, m.spot, 7, rfl, rfl, ?_⟩
      refine ⟨rfl, F3, [.int (mixD (m.cells.getD (m.spot % 64).toNat 0 + 31 * (m.spot / 64)) m.spot), .int (m.spot + 7)], ⟨a3, a5⟩, .cons (.int _) (.cons (.int _) .nil), ?_⟩
      rw [hfn _ _ (by omega) (by omega)]
      intro v4 F4 H4 b1 b2 b3 b4 b5 hv4
      cases hv4
      refine .inl ⟨_, rfl, _, g1, _, _, rfl, rfl, k3, ?_⟩
      have ed : drawF m L = (mixD (mixD (m.cells.getD (m.spot % 64).toNat 0 + 31 * (m.spot / 64)) m.spot) (m.spot + 7) % L, { m with spot := m.spot + 1 }) := by
        unfold drawF
        rw [if_neg hgr]
      rw [ed] at hq
      have nf4 : ∀ a o, F4 a = some o → F a = some o ∨ H2 a = none := fun a o e => by
        rcases b4 a o e with z | z
        · exact a4 a o z
        · right
          cases q : H2 a with
          | none => rfl
          | some u => rw [a1 _ _ q] at z; cases z
      have fm4 : F4 pm = none := by
        cases q : F4 pm with
        | none => rfl
        | some u =>
          rcases nf4 pm u q with z | z
          · rw [fm] at z; cases z
          · rw [hm2] at z; cases z
      have fg4 : F4 pg = none := by
        cases q : F4 pg with
        | none => rfl
        | some u =>
          rcases nf4 pg u q with z | z
          · rw [fg] at z; cases z
          · rw [hg2] at z; cases z
      exact hq _ F4 H4 ⟨ne, fm4, fg4, b1 _ _ (a1 _ _ hm2), b1 _ _ (a1 _ _ hg2), sqLM (a2.trans b2) sc⟩ (fun a o e z1 z2 => b1 _ _ (a1 _ _ (kp2 a o e z1 z2))) (a2.trans b2) b3 (fun a o e => by
        rcases nf4 a o e with z | z
        · exact .inl z
        · right
          cases q : H a with
          | none => rfl
          | some u =>
            by_cases y1 : a = pm
            · subst y1; rw [fm4] at e; cases e
            · by_cases y2 : a = pg
              · subst y2; rw [fg4] at e; cases e
              · rw [kp2 a u q y1 y2] at z; cases z) b5 (.int _)
    refine ⟨_, rfl, ?_⟩
    cases eg : m.great with
    | nil =>
      have : ¬ (!PyData.eqv (.list (List.map PyData.int [])) (.list [])) = true := by decide
      rw [if_neg this]
      refine last _ rfl rfl rfl (by simp [L2.start]) ?_
      unfold greatAt
      rw [eg]
      simp
    | cons g0 gr =>
      have : (!PyData.eqv (.list (List.map PyData.int (g0 :: gr))) (.list [])) = true := rfl
      rw [if_pos this]
      have gl : 0 < m.great.length := by rw [eg]; exact Nat.succ_pos _
      have hn0 : 0 ≤ m.spot % (m.great.length : Int) := Int.emod_nonneg _ (by omega)
      have hn1 : m.spot % (m.great.length : Int) < (m.great.length : Int) := Int.emod_lt_of_pos _ (by omega)
      refine ⟨_, rfl, ⟨pm, .ref pg, rfl, .inl ⟨_, .inr "great", .inl hm2, rfl, rfl⟩, ?_⟩⟩
      refine ⟨_, rfl, .inl ⟨_, rfl, _, rfl, _, _, rfl, .inl ⟨_, SqL.of hg2, rfl⟩, m.spot, _, rfl, rfl, ?_, ?_⟩⟩
      · rw [List.length_map]; omega
      rw [List.length_map]
      refine ⟨_, rfl, _, rfl, .inl ⟨pg, _, m.spot % (m.great.length : Int), _, rfl, rfl, SqL.of hg2, atI_int hn0 hn1, ?_⟩⟩
      refine ⟨_, rfl, m.great.getD (m.spot % (m.great.length : Int)).toNat 0, 0, rfl, rfl, _, rfl, ?_⟩
      have eat : m.great.getD (m.spot % (m.great.length : Int)).toNat 0 = greatAt m := rfl
      rw [eat]
      show if decide (0 < greatAt m) = true then _ else _
      by_cases hpos : 0 < greatAt m
      · rw [if_pos (decide_eq_true hpos)]
        refine ⟨_, rfl, _, rfl, greatAt m, L, rfl, rfl, ⟨k3, k4⟩, ?_⟩
        refine ⟨_, rfl, _, rfl, pg, _, m.spot % (m.great.length : Int), greatHere m, rfl, rfl, hg2, ixN_nn hn0 (by rw [List.length_map]; exact hn1), ?_⟩
        refine ⟨_, rfl, .inl ⟨_, rfl, _, rfl, greatAt m, L, rfl, rfl, k3, ?_⟩⟩
        have ed : drawF m L = (greatAt m % L, { m with spot := m.spot + 1, great := m.great.set (greatHere m) (greatAt m / L) }) := by
          unfold drawF
          rw [if_pos hpos]
        rw [ed] at hq
        refine hq _ F _ ⟨ne, fm, fg, by rw [upd_ne ne]; exact hm2, by rw [upd_same, List.map_set], sc⟩ (fun a o e z1 z2 => by rw [upd_ne z2]; exact kp2 a o e z1 z2) (Same.refl _) (fun a o e => ?_) (fun a o e => .inl e) (fun a xs e => ?_) (.int _)
        · rw [upd_ne (fun z => by subst z; rw [fg] at e; cases e)]
          exact hs2 a o e
        · by_cases z : a = pg
          · subst z; rw [upd_same] at e; cases e
          · rw [upd_ne z] at e; exact tp2 _ _ e
      · rw [if_neg (fun z => hpos (of_decide_eq_true z))]
        exact last _ rfl rfl rfl (by simp [L2.start]) hpos
end VL

namespace VL
open PySem PySem.Spec PyProof.Rows L2

/-! ### defs that draw -/
def mprOf (o : SOut) : MPr :=
  match o with
  | .rt d s => .ok d s.m
  | .nx s => .ok .none s.m
  | .exc c fs s => .exc c fs s.m
  | _ => .bad
def startM (nN : Nat) (m : DS) (ds : List PyData) : Sx := ⟨some .drw :: ((ds.map fun d => some (.dat d)) ++ List.replicate (nN - 1 - ds.length) none), m⟩
def fnOfM (nN : Nat) (den : DSt) : MFn := fun m ds => mprOf (den (startM nN m ds))
def without (H : Hp) (p q : Addr) : Hp := fun a => if a = p ∨ a = q then none else H a
theorem without_some {H : Hp} {p q a : Addr} {o : HO} (h : without H p q a = some o) : a ≠ p ∧ a ≠ q ∧ H a = some o := by
  unfold without at h
  split at h
  · cases h
  · rename_i z
    exact ⟨fun e => z (.inl e), fun e => z (.inr e), h⟩
theorem without_ne {H : Hp} {p q a : Addr} (h1 : a ≠ p) (h2 : a ≠ q) : without H p q a = H a := by
  unfold without
  rw [if_neg (fun z => z.elim h1 h2)]
def ow2 (pm pg : Addr) : Ow := updO (updO (fun _ => none) pg (some 1)) pm (some 0)
theorem ow2_some {pm pg p : Addr} {i : Nat} (h : ow2 pm pg p = some i) : p = pm ∨ p = pg := by
  unfold ow2 at h
  by_cases z : p = pm
  · exact .inl z
  · rw [updO_ne z] at h
    by_cases y : p = pg
    · exact .inr y
    · rw [updO_ne y] at h; cases h
theorem ow2_m {pm pg : Addr} : ow2 pm pg pm = some 0 := updO_same
theorem ow2_g {pm pg : Addr} (ne : pm ≠ pg) : ow2 pm pg pg = some 1 := by
  unfold ow2
  rw [updO_ne (Ne.symm ne), updO_same]
section
variable {K : PySem.W.Frag} {F H : Hp} {pm pc pg : Addr} {m : DS}
abbrev ctM (F H : Hp) (pm pc pg : Addr) : Ct K := ⟨F, without H pm pg, some pm, pc, pg, fun _ _ _ _ _ _ _ => False⟩
theorem vs_startM {vs : List V} {ds : List PyData} {N : List Str} (d : DrIn K F H pm pc pg m) (h1 : Same F H ∧ Tp F H) (h2 : DtAll K F vs ds) (hl : vs.length + 1 ≤ N.length) :
    VS (K := K) (ctM F H pm pc pg) (ow2 pm pg) F (startM N.length m ds) (start N (.ref pm :: vs)) H := by
  have dl := h2.len
  obtain ⟨ne, fm, fg, hm, hg, sc⟩ := d
  refine ⟨?_, h1.1, fun a o e => (without_some e).2.2, Same.refl _, fun a o e1 e2 => ?_, fun p i e => ?_, fun i b e => ?_, fun pm' e => ?_, h1.2⟩
  · unfold L2.start startM
    simp only [List.length_append, List.length_map, List.length_replicate, List.length_cons]
    omega
  · have e2 : F a = none := e2
    rw [e1] at e2; cases e2
  · rcases ow2_some e with z | z
    · subst z
      exact ⟨fm, (by show without H p pg p = none; unfold without; rw [if_pos (.inl rfl)]), by rw [hm]; exact fun z => nomatch z⟩
    · subst z
      exact ⟨fg, (by show without H pm p p = none; unfold without; rw [if_pos (.inr rfl)]), by rw [hg]; exact fun z => nomatch z⟩
  · cases i with
    | zero =>
      cases e
      exact ⟨.ref pm, rfl, pm, rfl, rfl⟩
    | succ i =>
      have e : ((ds.map fun d => some (VB.dat d)) ++ List.replicate (N.length - 1 - ds.length) none)[i]? = some (some b) := e
      by_cases hi : i < ds.length
      · rw [List.getElem?_append_left (by simpa using hi), List.getElem?_map] at e
        cases q : ds[i]? with
        | none => rw [q] at e; cases e
        | some d =>
          rw [q] at e
          cases e
          obtain ⟨v, a1, a2⟩ := h2.get q
          refine ⟨v, ?_, a2⟩
          unfold L2.start
          show (((V.ref pm :: vs).map some) ++ _)[i + 1]? = _
          rw [List.getElem?_append_left (by simp; omega), List.getElem?_map, List.getElem?_cons_succ, a1]
          rfl
      · rw [List.getElem?_append_right (by simpa using hi), List.getElem?_replicate] at e
        split at e <;> cases e
  · cases e
    exact ⟨pc, pg, ow2_m, ⟨ow2_g ne, rfl, rfl⟩, hm, hg, sc⟩
theorem VS.drIn {C : Ct K} {O : Ow} {s : Sx} {σ : L2.St} (v : VS C O F s σ H) (h : C.dr = some pm) : DrIn K F H pm C.dc C.dg s.m ∧ O pm = some 0 ∧ O C.dg = some 1 := by
  obtain ⟨pc, pg, a1, ⟨a2, rfl, rfl⟩, a3, a4, a5⟩ := v.dr pm h
  exact ⟨⟨fun z => (by rw [z, a2] at a1; cases a1), (v.ow _ _ a1).1, (v.ow _ _ a2).1, a3, a4, a5⟩, a1, a2⟩
theorem VS.drawn {C : Ct K} {O : Ow} {s : Sx} {σ : L2.St} {F' H' : Hp} {m' : DS} (v : VS C O F s σ H) (h : C.dr = some pm) (d' : DrIn K F' H' pm C.dc C.dg m') (kp : ∀ a o, H a = some o → a ≠ pm → a ≠ C.dg → H' a = some o)
    (h2 : Same F F') (h3 : Same F' H') (h4 : ∀ a o, F' a = some o → F a = some o ∨ H a = none) (h5 : Tp F' H') : VS C O F' { s with m := m' } σ H' ∧ Tr O F H O F' H' := by
  obtain ⟨d, om, og⟩ := v.drIn h
  have hne : ∀ p, H p ≠ none → H' p ≠ none := fun p hp => by
    by_cases z1 : p = pm
    · subst z1; rw [d'.hm]; exact fun z => nomatch z
    · by_cases z2 : p = C.dg
      · subst z2; rw [d'.hg]; exact fun z => nomatch z
      · cases q : H p with
        | none => exact absurd q hp
        | some o => rw [kp p o q z1 z2]; exact fun z => nomatch z
  have nem : ∀ p i, O p = some (i + 2) → p ≠ pm ∧ p ≠ C.dg := fun p i e => ⟨fun z => (by subst z; rw [om] at e; cases e), fun z => (by subst z; rw [og] at e; cases e)⟩
  refine ⟨⟨v.len, h3, fun a o e => ?_, v.ff.trans h2, fun a o e e0 => ?_, fun p i e => ?_, fun i b e => ?_, fun pm' e => ?_, h5⟩, ⟨h2, fun p o e e0 => ?_, hne, fun a o e => ?_, fun p i e => .inl (by rw [e]; exact fun z => nomatch z)⟩⟩
  · refine kp a o (v.hh a o e) (fun z => ?_) (fun z => ?_)
    · subst z; rw [(v.ow _ _ om).2.1] at e; cases e
    · subst z; rw [(v.ow _ _ og).2.1] at e; cases e
  · rcases h4 a o e with z | z
    · exact v.nw a o z e0
    · exact v.hh.free z
  · obtain ⟨a1, a2, a3⟩ := v.ow p i e
    refine ⟨?_, a2, hne p a3⟩
    cases q : F' p with
    | none => rfl
    | some o =>
      rcases h4 p o q with z | z
      · rw [a1] at z; cases z
      · exact absurd z a3
  · obtain ⟨x, e1, e2⟩ := v.pl i b e
    refine ⟨x, e1, ?_⟩
    cases b with
    | dat d => exact Dt.mono h2 e2
    | own ds => obtain ⟨p, vs, a1, a2, a3, a4⟩ := e2; exact ⟨p, vs, a1, a2, kp _ _ a3 (nem p i a2).1 (nem p i a2).2, a4.mono h2⟩
    | dk kvs => obtain ⟨p, vs, a1, a2, a3, a4⟩ := e2; exact ⟨p, vs, a1, a2, kp _ _ a3 (nem p i a2).1 (nem p i a2).2, a4.mono h2⟩
    | dt kvs => obtain ⟨p, vs, a1, a2, a3, a4⟩ := e2; exact ⟨p, vs, a1, a2, kp _ _ a3 (nem p i a2).1 (nem p i a2).2, a4.mono h2⟩
    | drw => exact e2
  · rw [h] at e
    cases e
    exact ⟨C.dc, C.dg, om, ⟨og, rfl, rfl⟩, d'.hm, d'.hg, d'.sc⟩
  · exact kp p o e (fun z => by subst z; rw [om] at e0; cases e0) (fun z => by subst z; rw [og] at e0; cases e0)
  · rcases h4 a o e with z | z
    · exact .inl z
    · exact .inr (.inl z)
end
section
variable {P : Program} {w : World} {K : PySem.W.Frag} {mg : Str → Option Value} {base : Heap} {k : Nat} {f : Addr} {fd : FuncData} {ps : List Str} {x qual : Str} {st : Stmt} {N : List Str} {den : DSt}
theorem okM {n : Nat} (hn : ps.length = n + 1) (F : Fun K x qual st f fd) (S : FnScope N ps (defScope st)) (hb : BodyOk P w K mg base N qual f k (defScope st) (defBody st) den) : FnG P w K mg base CX0 (k + 1) f fd ps (spD K n (fnOfM N.length den)) := by
  obtain ⟨oc, od, kV, doc, pm', an, cdv, ct, osl, rfl, lk, hcd⟩ := F.ex
  refine fnG_of lk hcd S (fun vs H Q E h => by rw [h.1, hn]) fun A outer s H vs Q E hr hg h => ?_
  obtain ⟨hl, pm, pc, pg, F0, m, rest, ds, rfl, d, h1, h2, h3⟩ := h
  have hpl : ps.length ≤ N.length := by
    have := congrArg List.length S.pre
    rw [List.length_take] at this
    omega
  have hrl : rest.length = n := by rw [List.length_cons] at hl; omega
  refine ⟨_, (hb cdv A outer s H E (ctM F0 H pm pc pg) hr hg).run.nox, _, F0, _, vs_startM (N := N) d h1 h2 (by omega), ?_⟩
  have h3 : match mprOf (den (startM N.length m ds)) with
    | .ok d m' => ∀ v F' H', DrIn K F' H' pm pc pg m' → (∀ a o, H a = some o → a ≠ pm → a ≠ pg → H' a = some o) → Same F0 F' → Same F' H' → (∀ a o, F' a = some o → F0 a = some o ∨ H a = none) → Tp F' H' → Dt K F' v d → Q v H'
    | _ => False := h3
  have fin : ∀ {O' : Ow} {F' H' : Hp} {s' : Sx} {σ' : L2.St}, VS (K := K) (ctM F0 H pm pc pg) O' F' s' σ' H' → Tr (ow2 pm pg) F0 H O' F' H' →
      DrIn K F' H' pm pc pg s'.m ∧ (∀ a o, H a = some o → a ≠ pm → a ≠ pg → H' a = some o) ∧ ∀ a o, F' a = some o → F0 a = some o ∨ H a = none := fun {O' F' H' s' σ'} q t => by
    obtain ⟨d', om, og⟩ := q.drIn (pm := pm) rfl
    refine ⟨d', fun a o e z1 z2 => q.hh a o (by show without H pm pg a = some o; rw [without_ne z1 z2]; exact e), fun a o e => ?_⟩
    rcases t.nf a o e with z | z | z
    · exact .inl z
    · exact .inr z
    · cases e2 : ow2 pm pg a with
      | none => exact absurd e2 z
      | some i =>
        rcases ow2_some e2 with y | y
        · subst y; rw [(q.ow _ _ om).1] at e; cases e
        · subst y; rw [(q.ow _ _ og).1] at e; cases e
  cases e : den (startM N.length m ds) with
  | rt d s' => rw [e] at h3; exact fun v σ' O' F' H' q t hd => h3 v F' H' (fin q t).1 (fin q t).2.1 t.ff q.fh (fin q t).2.2 q.tp hd
  | nx s' => rw [e] at h3; exact fun σ' O' F' H' q t => h3 .non F' H' (fin q t).1 (fin q t).2.1 t.ff q.fh (fin q t).2.2 q.tp .non
  | brk s' => rw [e] at h3; exact h3.elim
  | ct s' => rw [e] at h3; exact h3.elim
  | exc c fs s' => rw [e] at h3; exact h3.elim
  | bad => rw [e] at h3; exact h3.elim
/-- _law_draw itself -/
theorem okDraw {E0 : XK} {fn : PFn} (hN : N.length = 6) (hps : ps.length = 2) (hfn : ∀ c n : Int, 0 ≤ n → n < 2305843009213693952 → fn [.int c, .int n] = .ok (.int (mixD c n))) (F : Fun K x qual st f fd) (S : FnScope N ps (defScope st))
    (hb : ∀ (cdv : Value) (A : Around) (outer : List Env) (s : Shared) (H : Hp) (E : XK), Room k (A.deeper (envOfC qual (defScope st) s.heap.objs.size f cdv)) → A.guards = some [] → PSs (bodyX P w K mg base N qual (defScope st) f cdv A outer s H E) (defBody st) (tDraw K fn E0)) :
    FnG P w K mg base CX0 (k + 1) f fd ps (spD K 1 drawFn) := by
  obtain ⟨oc, od, kV, doc, pm', an, cdv, ct, osl, rfl, lk, hcd⟩ := F.ex
  refine fnG_of lk hcd S (fun vs H Q E h => by rw [h.1, hps]) fun A outer s H vs Q E hr hg h => ?_
  exact ⟨_, (hb cdv A outer s H E hr hg).nox, draw_run hN hfn h⟩
end
/-- f(m, ..), the other arguments frozen -/
def isDrw (s : Sx) (k : Nat) : Bool := match s.g[k]? with
  | some (some .drw) => true
  | _ => false
def dCallM (fn : MFn) (k : Nat) (fa : DDs) : DE := fun s => if isDrw s k = true then (fa s).bind fun ds s1 => match fn s1.m ds with
  | .ok d m' => .ok (.dat d) { s1 with m := m' }
  | _ => .bad else .bad
section
variable {X : Cx} {C : Ct X.K} {k n : Nat} {f : Addr} {fd : FuncData} {ps : List Str} {fn : MFn} {x : Str} {p pos : Pos} {e : Expr} {es : List Expr}
theorem ve_callM {i : Nat} {fa : DDs} (G : FnG X.prog X.w X.K X.mg X.base CX0 k f fd ps (spD X.K es.length fn)) (hr : Room k X.A) (hgd : X.A.guards = some []) (hm : X.mg x = some (.ref f)) (hk : PySem.W.keepIn X.K (.ref f) = true) (hb : Binds X.K fd ps []) (hv : PE X e (tVar i)) (ha : VDs X C es fa)
    (hlen : ∀ s ds s', fa s = .ok ds s' → ds.length = es.length)
    (hg : Gl X x := by rfl) (hdb : (x == ("__debug__" : Str)) = false := by decide) (he : starEach (e :: es) X.env = (false, eval e X.env) :: starEach es X.env := by rfl) (hpl : (backTo pos (starEach es X.env)).any (·.1) = false := by rfl) :
    VE X C (.Call (.Name x p) (e :: es) [] pos) (dCallM fn i fa) := by
  refine ⟨peI (pe_G G hr hgd hm hk hb pass0 (pa_cons hv ha.run he) hg hdb he hpl) fun σ H Q ⟨O, F, s, v, h⟩ => ?_⟩
  unfold dCallM at h
  split at h
  case isFalse => exact h.elim
  rename_i hd
  have hq : ∃ pm, C.dr = some pm ∧ σ[i]? = some (some (.ref pm)) := by
    unfold isDrw at hd
    split at hd
    · rename_i q
      obtain ⟨y, e1, pm, rfl, e2⟩ := v.pl i _ q
      exact ⟨pm, e2, e1⟩
    · cases hd
  obtain ⟨pm, hdr, hs⟩ := hq
  refine ⟨_, hs, O, F, s, v, ?_⟩
  have hl := hlen s
  cases e1 : fa s with
  | bad => rw [e1] at h; exact h.elim
  | exc c fs s1 => rw [e1] at h; exact h
  | ok ds s1 =>
    rw [e1] at h
    intro O1 F1 H1 v1 t1 xs hxs
    have h : RdE C σ O F H (match fn s1.m ds with | .ok d m' => .ok (.dat d) { s1 with m := m' } | _ => .bad) Q := h
    obtain ⟨d1, om, og⟩ := v1.drIn hdr
    refine ⟨by rw [List.length_cons, hxs.len, hl ds s1 e1], pm, C.dc, C.dg, F1, s1.m, xs, ds, rfl, d1, ⟨v1.fh, v1.tp⟩, hxs, ?_⟩
    cases e2 : fn s1.m ds with
    | ok d m' =>
      rw [e2] at h
      intro y F' H' b1 b2 b3 b4 b5 b6 hy
      obtain ⟨v2, t2⟩ := v1.drawn hdr b1 b2 b3 b4 b5 b6
      exact h _ _ _ v2 (t1.trans t2) y hy trivial
    | exc c fs m' => rw [e2] at h; exact h.elim
    | bad => rw [e2] at h; exact h.elim
end
end VL

namespace VL
open PySem PySem.Spec PyProof.Rows L2

/-! ### _law_begun -/
theorem VS.loose {K : PySem.W.Frag} {C : Ct K} {O : Ow} {F H : Hp} {s : Sx} {σ : L2.St} (v : VS C O F s σ H) {i : Nat} {x : Option V} (h : s.g[i]? = some none) : VS C O F s (σ.set i x) H := by
  refine ⟨by simp [v.len], v.fh, v.hh, v.ff, v.nw, v.ow, fun j b e => ?_, v.dr, v.tp⟩
  have hj : i ≠ j := fun z => by subst z; rw [h] at e; cases e
  obtain ⟨y, e1, e2⟩ := v.pl j b e
  exact ⟨y, by rw [List.getElem?_set_ne hj]; exact e1, e2⟩
def spB (K : PySem.W.Frag) (fn : List PyData → Option DS) : Sp := fun vs H Q _ => vs.length = 1 ∧ ∃ F ds, (Same F H ∧ Tp F H) ∧ DtAll K F vs ds ∧
  match fn ds with
  | some m => ∀ pm pc pg F' H', DrIn K F' H' pm pc pg m → Same H H' → Same F F' → Same F' H' → (∀ a o, F' a = some o → F a = some o ∨ H a = none) → Tp F' H' → H pm = none → H pg = none → Q (.ref pm) H'
  | none => False
def tBegun {K : PySem.W.Frag} (C : Ct K) (ff : DD) (fc : DE) : TS :=
  tSeq (tAsg (tDisp [(tC (.str "cells"), tD C ff), (tC (.str "great"), tLst tNil), (tC (.str "spot"), tC (.int 0))]) (gName 1)) <|
  tSeq (sDPut (tVar 1) (tC (.str "great")) (tE C fc)) (tRet (tVar 1))
def intsOf : List PyData → Option (List Int)
  | [] => some []
  | .int i :: r => (intsOf r).map (i :: ·)
  | _ :: _ => none
theorem intsOf_map : ∀ {ds : List PyData} {is : List Int}, intsOf ds = some is → ds = is.map PyData.int
  | [], is, h => by cases h; rfl
  | d :: r, is, h => by
    cases d with
    | int i =>
      have h : (intsOf r).map (i :: ·) = some is := h
      cases q : intsOf r with
      | none => rw [q] at h; cases h
      | some js =>
        rw [q] at h
        cases h
        rw [intsOf_map q]
        rfl
    | none => cases h
    | bool b => cases h
    | str x => cases h
    | list x => cases h
    | tuple x => cases h
    | dict x => cases h
theorem ints_vals {K : PySem.W.Frag} {F : Hp} : ∀ {is : List Int} {xs : List V}, DtAll K F xs (is.map PyData.int) → xs = is.map V.int
  | [], _, .nil => rfl
  | i :: r, _, .cons (.int _) t => by rw [ints_vals t]; rfl
/-- what the def begun gives, by its two parts -/
def begunD (ff : DD) (fc : DE) (nN : Nat) : List PyData → Option DS := fun ds =>
  match ff (startS nN ds), fc (startS nN ds) with
  | .ok (.list cs) s1, .ok (.tmp gs) s2 => (match intsOf cs, intsOf gs with | some c, some g => some ⟨c, g, 0⟩ | _, _ => none)
  | _, _ => none
theorem begun_run {K : PySem.W.Frag} {ff : DD} {fc : DE} {F H : Hp} {vs : List V} {ds : List PyData} {Q : VK} {N : List Str} (hN : 1 < N.length) (hl : vs.length = 1) (h1 : Same F H ∧ Tp F H) (h2 : DtAll K F vs ds) {m : DS}
    (hf : begunD ff fc N.length ds = some m) (pu : ∀ d s', ff (startS N.length ds) = .ok d s' → s' = startS N.length ds)
    (hq : ∀ pm pc pg F' H', DrIn K F' H' pm pc pg m → Same H H' → Same F F' → Same F' H' → (∀ a o, F' a = some o → F a = some o ∨ H a = none) → Tp F' H' → H pm = none → H pg = none → Q (.ref pm) H') :
    tBegun (K := K) (ct0 F H) ff fc { nx := fun _ H' => Q .non H', rt := Q } (start N vs) H := by
  unfold begunD at hf
  split at hf
  case h_2 => cases hf
  rename_i cs s1 gs s2 ef ec
  obtain rfl := pu _ _ ef
  split at hf
  case h_2 => cases hf
  rename_i c g ic ig
  cases hf
  have ec' := intsOf_map ic
  have eg' := intsOf_map ig
  subst ec' eg'
  have dl := h2.len
  have v0 : VS (K := K) (ct0 F H) (fun _ => none) F (startS N.length ds) (start N vs) H := vs_start h1 h2 (by omega)
  intro pm hpm
  obtain ⟨v1, t1⟩ := v0.fresh (.dK []) hpm
  refine ⟨_, F, _, v1, ?_⟩
  show Rd0 _ _ _ _ _ (ff (startS N.length ds)) _
  rw [ef]
  intro O2 F2 H2 v2 t2 xc hxc
  cases hxc with
  | lst hpc hcs =>
    rename_i pc xs
    have exs := ints_vals hcs
    subst exs
    refine ⟨Nat.zero_le _, fun p0 hp0 => ?_⟩
    obtain ⟨v3, t3⟩ := v2.fresh (.lst []) hp0
    have pm1 : (upd H pm (.dK [])) pm = some (.dK []) := upd_same
    have pm2 : H2 pm = some (.dK []) := t2.kp _ _ pm1 rfl
    have npm0 : p0 ≠ pm := fun z => by subst z; rw [hp0] at pm2; cases pm2
    have pm3 : (upd H2 p0 (.lst [])) pm = some (.dK []) := by rw [upd_ne (Ne.symm npm0)]; exact pm2
    -- pm is not frozen
    have fpm : F2 pm = none := by
      cases q : F2 pm with
      | none => rfl
      | some o =>
        rcases t2.nf pm o q with z | z | z
        · rw [v0.fh.free hpm] at z; cases z
        · rw [pm1] at z; cases z
        · exact absurd rfl z
    refine ⟨pm3, [(.inr "cells", .ref pc), (.inr "great", .ref p0), (.inr "spot", .int 0)], rfl, by show 3 ≤ 15; decide, ?_⟩
    have opm : O2 pm = none := by
      cases q : O2 pm with
      | none => rfl
      | some i =>
        rcases t2.no pm i q with z | z
        · exact absurd rfl z
        · rw [pm1] at z; cases z
    have h0pm : (ct0 (K := K) F H).H0 pm = none := hpm
    have v4 := v3.wtmp (o := .dK (mergeK [] [((.inr "cells" : Key), V.ref pc), (.inr "great", .ref p0), (.inr "spot", .int 0)])) pm3 fpm h0pm opm
    generalize eH4 : upd (upd H2 p0 (.lst [])) pm (.dK (mergeK [] [((.inr "cells" : Key), V.ref pc), (.inr "great", .ref p0), (.inr "spot", .int 0)])) = H4 at v4
    have g1 : (startS N.length ds).g[1]? = some none := by
      have d1 : ds.length = 1 := by rw [← dl]; exact hl
      match ds, d1 with
      | [d], _ =>
        show (some (VB.dat d) :: List.replicate (N.length - 1) none)[1]? = some none
        rw [List.getElem?_cons_succ, List.getElem?_replicate, if_pos (by omega)]
    have v5 := v4.loose (x := some (.ref pm)) g1
    have hsl : ((start N vs).set 1 (some (V.ref pm)))[1]? = some (some (.ref pm)) := by
      rw [List.getElem?_set_self (by unfold L2.start; simp; omega)]
    refine ⟨_, F2, _, v5, ?_⟩
    show Rd0 _ _ _ _ _ (fc (startS N.length ds)) _
    rw [ec]
    intro O6 F6 H6 v6 t6 x ⟨pg, gv, hx, hpg, fpg, h0pg, opg, hgv⟩ _
    subst hx
    have exs := ints_vals hgv
    subst exs
    have pm4 : H4 pm = some (.dK (mKvs pc p0 0)) := by rw [← eH4, upd_same]; rfl
    have pm6 : H6 pm = some (.dK (mKvs pc p0 0)) := t6.kp _ _ pm4 opm
    have fpm6 : F6 pm = none := by
      cases q : F6 pm with
      | none => rfl
      | some o =>
        rcases t6.nf pm o q with z | z | z
        · rw [fpm] at z; cases z
        · rw [pm4] at z; cases z
        · exact absurd opm z
    have npg : pm ≠ pg := fun z => by subst z; rw [pm6] at hpg; cases hpg
    refine ⟨_, hsl, pm, _, rfl, .inl ⟨_, .inr "great", pm6, rfl, ?_, rfl⟩, _, hsl, ?_⟩
    · rw [sizeLine_eq]; show 3 < 16777216; decide
    have e0 : putK (mKvs pc p0 0) (.inr "great") (.ref pg) = mKvs pc pg 0 := rfl
    rw [e0]
    have h26 : ∀ a o, F2 a = some o → F6 a = some o := t6.ff
    refine hq pm pc pg F6 _ ⟨npg, fpm6, fpg, upd_same, by rw [upd_ne (Ne.symm npg)]; exact hpg, ?_⟩ (fun a o e => ?_) (fun a o e => v6.ff a o e) (fun a o e => ?_) (fun a o e => ?_) (fun a xs e => ?_) hpm h0pg
    · exact SqL.of (h26 _ _ hpc)
    · rw [upd_ne (fun z => by subst z; rw [hpm] at e; cases e)]
      exact v6.hh a o e
    · rw [upd_ne (fun z => by subst z; rw [fpm6] at e; cases e)]
      exact v6.fh a o e
    · cases q : F a with
      | some u =>
        have := v6.ff a u q
        rw [this] at e
        exact .inl e
      | none => exact .inr (v6.nw a o e q)
    · by_cases z : a = pm
      · subst z; rw [upd_same] at e; cases e
      · rw [upd_ne z] at e; exact v6.tp _ _ e
section
variable {P : Program} {w : World} {K : PySem.W.Frag} {mg : Str → Option Value} {base : Heap} {k : Nat} {f : Addr} {fd : FuncData} {ps : List Str} {x qual : Str} {st : Stmt} {N : List Str}
theorem okBegun {ff : DD} {fc : DE} (hN : 1 < N.length) (hps : ps.length = 1) (pu : ∀ ds d s', ff (startS N.length ds) = .ok d s' → s' = startS N.length ds) (F : Fun K x qual st f fd) (S : FnScope N ps (defScope st))
    (hb : ∀ (cdv : Value) (A : Around) (outer : List Env) (s : Shared) (H : Hp) (E : XK) (C : Ct K), Room k (A.deeper (envOfC qual (defScope st) s.heap.objs.size f cdv)) → A.guards = some [] → PSs (bodyX P w K mg base N qual (defScope st) f cdv A outer s H E) (defBody st) (tBegun C ff fc)) :
    FnG P w K mg base CX0 (k + 1) f fd ps (spB K (begunD ff fc N.length)) := by
  obtain ⟨oc, od, kV, doc, pm', an, cdv, ct, osl, rfl, lk, hcd⟩ := F.ex
  refine fnG_of lk hcd S (fun vs H Q E h => by rw [h.1, hps]) fun A outer s H vs Q E hr hg h => ?_
  obtain ⟨hl, F0, ds, h1, h2, h3⟩ := h
  cases e : begunD ff fc N.length ds with
  | none => rw [e] at h3; exact h3.elim
  | some m =>
    rw [e] at h3
    exact ⟨_, (hb cdv A outer s H E (ct0 F0 H) hr hg).nox, begun_run hN hl h1 h2 e (pu ds) h3⟩
end

/-! ### the law itself: m = begun(script), and the rest -/
def spLaw (K : PySem.W.Frag) (fn : List PyData → Option PyData) : Sp := fun vs H Q _ => vs.length = 1 ∧ ∃ F ds, (Same F H ∧ Tp F H) ∧ DtAll K F vs ds ∧
  match fn ds with
  | some d => ∀ v F' H', Dt K F' v d → Q v H'
  | none => False
def startL (nN : Nat) (m : DS) (d : PyData) : Sx := ⟨some (.dat d) :: some .drw :: List.replicate (nN - 2) none, m⟩
def lawD (fb : List PyData → Option DS) (nN : Nat) (den : DSt) : List PyData → Option PyData := fun ds => match ds with
  | [d] => (match fb [d] with
    | some m => (match den (startL nN m d) with
      | .rt r _ => some r
      | .nx _ => some .none
      | _ => none)
    | none => none)
  | _ => none
section
variable {P : Program} {w : World} {K : PySem.W.Frag} {mg : Str → Option Value} {base : Heap} {k : Nat} {f : Addr} {fd : FuncData} {ps : List Str} {x qual : Str} {st : Stmt} {N : List Str}
theorem okLaw {fb : List PyData → Option DS} {den : DSt} {E0 : XK} {n : Nat} {st1 : Stmt} {rest : List Stmt} (hN : N.length = n + 2) (hps : ps.length = 1) (F : Fun K x qual st f fd) (S : FnScope N ps (defScope st)) (hbd : defBody st = st1 :: rest)
    (hb1 : ∀ (cdv : Value) (A : Around) (outer : List Env) (s : Shared) (H : Hp) (E : XK), Room k (A.deeper (envOfC qual (defScope st) s.heap.objs.size f cdv)) → A.guards = some [] →
      PS (bodyX P w K mg base N qual (defScope st) f cdv A outer s H E) st1 (tAsg (tFn (spB K fb) E0 (tCons (tVar 0) tNil)) (gName 1)))
    (hb2 : ∀ (cdv : Value) (A : Around) (outer : List Env) (s : Shared) (H : Hp) (E : XK) (C : Ct K), Room k (A.deeper (envOfC qual (defScope st) s.heap.objs.size f cdv)) → A.guards = some [] →
      VSs (bodyX P w K mg base N qual (defScope st) f cdv A outer s H E) C rest den) :
    FnG P w K mg base CX0 (k + 1) f fd ps (spLaw K (lawD fb N.length den)) := by
  obtain ⟨oc, od, kV, doc, pm', an, cdv, ct, osl, rfl, lk, hcd⟩ := F.ex
  refine fnG_of lk hcd S (fun vs H Q E h => by rw [h.1, hps]) fun A outer s H vs Q E hr hg h => ?_
  obtain ⟨hl, F0, ds, h1, h2, h3⟩ := h
  rw [hbd]
  refine ⟨_, (pss_cons (hb1 cdv A outer s H E hr hg) (u := fun D σ H1 => ∃ C, tS C den D σ H1) ⟨fun pins s1 σ H1 D I ⟨C, q⟩ => (hb2 cdv A outer s H E C hr hg).run.run pins s1 σ H1 D I q⟩).nox, ?_⟩
  have dl := h2.len
  match ds, (by omega : ds.length = 1) with
  | [d], _ =>
  cases eb : fb [d] with
  | none =>
    have e : lawD fb N.length den [d] = none := by
      show (match fb [d] with | some m => _ | none => none) = _
      rw [eb]
    rw [e] at h3
    exact h3.elim
  | some m =>
    have e : lawD fb N.length den [d] = (match den (startL N.length m d) with
      | .rt r _ => some r
      | .nx _ => some .none
      | _ => none) := by
      show (match fb [d] with | some m => _ | none => none) = _
      rw [eb]
    rw [e] at h3
    match vs, hl, h2 with
    | [v0], _, h2 =>
    have s0 : (start N [v0])[0]? = some (some v0) := by
      match N, hN with
      | _ :: _, _ => rfl
    refine ⟨_, s0, rfl, F0, [d], h1, h2, ?_⟩
    rw [eb]
    intro pm pc pg F1 H1 dr a1 a2 a3 a4 a7 a5 a6
    refine ⟨⟨F1, without H1 pm pg, some pm, pc, pg, fun _ _ _ _ _ _ _ => False⟩, ow2 pm pg, F1, startL N.length m d, ?_, ?_⟩
    · obtain ⟨ne, fm, fg, hm, hg', sc⟩ := dr
      have hv : Dt K F1 v0 d := by
        cases h2 with
        | cons q _ => exact q.mono a2
      refine ⟨?_, a3, fun a o e => (without_some e).2.2, Same.refl _, fun a o e1 e2 => ?_, fun p i e => ?_, fun i b e => ?_, fun pm' e => ?_, a7⟩
      · unfold L2.start startL
        simp only [List.length_set, List.length_append, List.length_map, List.length_replicate, List.length_cons, List.length_nil]
        omega
      · have e2 : F1 a = none := e2
        rw [e1] at e2; cases e2
      · rcases ow2_some e with z | z
        · subst z
          exact ⟨fm, (by show without H1 p pg p = none; unfold without; rw [if_pos (.inl rfl)]), by rw [hm]; exact fun z => nomatch z⟩
        · subst z
          exact ⟨fg, (by show without H1 pm p p = none; unfold without; rw [if_pos (.inr rfl)]), by rw [hg']; exact fun z => nomatch z⟩
      · match i with
        | 0 =>
          cases e
          refine ⟨v0, ?_, hv⟩
          rw [List.getElem?_set_ne (by decide)]
          exact s0
        | 1 =>
          cases e
          refine ⟨.ref pm, ?_, pm, rfl, rfl⟩
          rw [List.getElem?_set_self (by unfold L2.start; simp; omega)]
        | i + 2 =>
          have e : (List.replicate (N.length - 2) (none : Option VB))[i]? = some (some b) := e
          rw [List.getElem?_replicate] at e
          split at e <;> cases e
      · cases e
        exact ⟨pc, pg, ow2_m, ⟨ow2_g ne, rfl, rfl⟩, hm, hg', sc⟩
    · cases e2 : den (startL N.length m d) with
      | rt r s' => rw [e2] at h3; exact fun v σ' O' F' H' q t hd => h3 v F' H' hd
      | nx s' => rw [e2] at h3; exact fun σ' O' F' H' q t => h3 .non F' H' .non
      | brk s' => rw [e2] at h3; exact h3.elim
      | ct s' => rw [e2] at h3; exact h3.elim
      | exc c fs s' => rw [e2] at h3; exact h3.elim
      | bad => rw [e2] at h3; exact h3.elim
end
end VL

namespace VL
open PySem PySem.Spec PyProof.Rows L2

/-! ### the script -/
def scrD (ns : List Int) : PyData := .dict [(.none, .list (ns.map PyData.int))]
def starS : PyData → Option (List PyData)
  | .dict [(.none, .list ds)] => some ds
  | _ => none
def iSeqS (f : DD) : DDs := fun s => (f s).bind fun d s1 => liftO (starS d) s1
def iEnumS (f : DDs) : DDs := fun s => (f s).bind fun ds s1 => match ds with | [d] => liftO ((starS d).map (enumD 0)) s1 | _ => .bad
def gLenS : PyData → Option RV := fun d => (starS d).map fun ds => int_ ds.length
section
variable {K : PySem.W.Frag} {F : Hp} {a b : Addr} {xs ys : List V} {ds es : List PyData}
theorem dt_scr {v : V} {d : PyData} (h : Dt K F v d) (e : starS d = some ds) : ∃ a xs, v = .ref a ∧ SqL K F a xs ∧ DtAll K F xs ds := by
  cases h with
  | scr h => cases e; exact ⟨_, _, rfl, h, ints_dt _⟩
  | non => cases e
  | bl b => cases e
  | int i => cases e
  | str x => cases e
  | lst _ _ => cases e
  | tup _ _ => cases e
  | dctT _ h => cases h with | nil => cases e | cons _ _ => cases e
  | dct0 _ => cases e
theorem yld_listS (h : SqL K F a xs) (hd : DtAll K F xs ds) : Yld K F (Itl K a) ds := fun i H e => by
  have hq : SqL K H a xs := sqLM e h
  have hl := hd.len
  refine ⟨fun hi => ⟨xs, hq, by omega⟩, fun d hd' => ?_⟩
  obtain ⟨v, e1, e2⟩ := hd.get hd'
  refine ⟨⟨xs, v, hq, e1⟩, fun x H' ⟨hH, hx⟩ => .inl ⟨hH, ?_⟩⟩
  have := hx xs hq
  rw [e1] at this
  cases this
  exact e2
theorem yld_iteS (h : SqL K F a xs) (hd : DtAll K F xs ds) : Yld K F (Ite K a) (enumD 0 ds) := fun i H e => by
  have hq : SqL K H a xs := sqLM e h
  have hl := hd.len
  refine ⟨fun hi => ⟨xs, hq, by rw [enumD_len] at hi; omega⟩, fun d hd' => ?_⟩
  obtain ⟨z, h1, h2⟩ := enumD_get ds 0 i d hd'
  obtain ⟨v, e1, e2⟩ := hd.get h1
  refine ⟨⟨xs, v, hq, e1⟩, fun x H' hy => ?_⟩
  obtain ⟨T, y, rfl, hT, rfl, hx⟩ := hy
  have := hx xs hq
  rw [e1] at this
  cases this
  exact .inr ⟨T, _, _, rfl, hT, rfl, h2, .cons (by rw [Int.zero_add]; exact .int _) (.one e2)⟩
end
section
variable {X : Cx} {C : Ct X.K} {pos p tpos : Pos} {tg e a b c : Expr} {elts : List Expr} {kk : Nat} {f : DD} {fd : DDs} {fa : DE}
theorem vi_seqS (h : VD X C e f) : VI X C tg e (iSeqS f) := by
  refine ⟨⟨fun pins s σ H R I ⟨O, F, st, v, q⟩ => ?_⟩⟩
  refine (pi_list h.run).run pins s σ H R I ⟨O, F, st, v, Rd0.bind q Tr.refl fun d s1 O1 F1 H1 v1 t1 q1 x hx => ?_⟩
  cases e1 : starS d with
  | none => rw [e1] at q1; exact q1.elim
  | some ds =>
    rw [e1] at q1
    obtain ⟨a, xs, rfl, h1, h2⟩ := dt_scr hx e1
    exact ⟨_, rfl, ⟨_, sqLM v1.fh h1⟩, q1 O1 F1 H1 v1 t1 _ (yld_listS h1 h2)⟩
theorem vi_enumS (h : VDs X C [a] fd) (hm : X.mg "enumerate" = none) (hg : Gl X "enumerate" := by rfl) (hs : starEach [a] X.env = [(false, eval a X.env)] := by rfl) :
    VI X C (.Tuple elts kk tpos) (.Call (.Name "enumerate" p) [a] [] pos) (iEnumS fd) := by
  refine ⟨⟨fun pins s σ H R I ⟨O, F, st, v, q⟩ => ?_⟩⟩
  refine (pi_enum hg hm h.run hs).run pins s σ H R I ⟨O, F, st, v, Rd0.bind q Tr.refl fun ds s1 O1 F1 H1 v1 t1 q1 xs hxs => ?_⟩
  split at q1
  case h_2 => exact q1.elim
  rename_i d
  cases e1 : starS d with
  | none => rw [e1] at q1; exact q1.elim
  | some ds =>
    rw [e1] at q1
    cases hxs with
    | cons hx r =>
      cases r
      obtain ⟨a, xs, rfl, h1, h2⟩ := dt_scr hx e1
      exact ⟨_, _, rfl, sqLM v1.fh h1, q1 O1 F1 H1 v1 t1 _ (yld_iteS h1 h2)⟩
theorem ve_lenS (h : VE X C a fa) (hm : X.mg "len" = none) (hg : Gl X "len" := by rfl) (he : starEach [a] X.env = (false, eval a X.env) :: starEach [] X.env := by rfl) : VE X C (.Call (.Name "len" p) [a] [] pos) (dUn gLenS fa) := by
  refine ⟨peI (pe_callB call_len_seq hg hm (by decide +kernel) (pa_cons h.run pa_nil he) (he := he)) fun σ H Q ⟨O, F, s, v, q⟩ => ⟨O, F, s, v, Rd0.bind q Tr.refl fun r s1 O1 F1 H1 v1 t1 q1 x hx _ => ?_⟩⟩
  obtain ⟨σ', O0, F0, H0, O', F', s', d, rr, vs, tr, bo, hg', rd⟩ := fin1_ok q1 t1 v1 hx
  unfold gLenS at hg'
  cases e1 : starS d with
  | none => rw [e1] at hg'; cases hg'
  | some ds =>
    rw [e1] at hg'
    cases hg'
    rcases bo with bo | ⟨p, _, ds', rfl, rfl, _⟩
    · obtain ⟨p, xs, rfl, h1, h2⟩ := dt_scr bo e1
      exact ⟨p, xs, rfl, .inl (sqLM vs.fh h1), by rw [h2.len]; exact rd.dat tr vs (.int _)⟩
    · cases e1
/-! ### x.pop(i), x.pop() -/
def dPopAt (k : Nat) (fi : DE) : DE := fun s => match ownAt s k with
  | none => .bad
  | some _ => (fi s).bind fun r s1 => match ownAt s1 k, asInt r s1 with
    | some ds, some i => if 0 ≤ i ∧ i < 1000000 then (match ds[i.toNat]? with
      | some d => .ok (.dat d) (setOwn s1 k (ds.eraseIdx i.toNat))
      | none => .bad) else .bad
    | _, _ => .bad
def dPop (k : Nat) : DE := fun s => match ownAt s k with
  | none => .bad
  | some ds => (match ds[ds.length - 1]? with
    | some d => .ok (.dat d) (setOwn s k ds.dropLast)
    | none => .bad)
theorem DtAll.dropLast {K : PySem.W.Frag} {F : Hp} {ds : List PyData} {vs : List V} (h : DtAll K F vs ds) : DtAll K F vs.dropLast ds.dropLast := by
  rw [List.dropLast_eq_take, List.dropLast_eq_take, h.len]
  exact h.take _
theorem ve_popAt {k : Nat} {ce : Expr} {fi : DE} (hm : PE X ce (tBM X.K "list" rPopAt (tVar k) (tCons (tE C fi) tNil))) : VE X C ce (dPopAt k fi) := by
  refine ⟨peI hm fun σ H Q ⟨O, F, s, v, h⟩ => ?_⟩
  unfold dPopAt at h
  cases e0 : ownAt s k with
  | none => rw [e0] at h; exact h.elim
  | some ds0 =>
    rw [e0] at h
    obtain ⟨p, xs, hp, ho, hl, hx⟩ := own_ty v e0
    refine ⟨.ref p, hp, .inl ⟨rfl, xs, .of hl⟩, O, F, s, v, Rd0.bind h Tr.refl fun r s1 O1 F1 H1 v1 t1 h1 y hy _ => ?_⟩
    cases e1 : ownAt s1 k with
    | none => rw [e1] at h1; exact h1.elim
    | some ds1 =>
      cases e2 : asInt r s1 with
      | none => rw [e1, e2] at h1; exact h1.elim
      | some i =>
        rw [e1, e2] at h1
        simp only at h1
        split at h1
        case isFalse => exact h1.elim
        rename_i hi
        cases e3 : ds1[i.toNat]? with
        | none => rw [e3] at h1; exact h1.elim
        | some d =>
          rw [e3] at h1
          obtain ⟨q, zs, hq, ho1, hl1, hz⟩ := own_ty v1 e1
          rw [hp] at hq
          cases hq
          obtain ⟨z, z1, z2⟩ := hz.get e3
          have ey := asInt_ok v1 hy e2
          subst ey
          have hlt : i.toNat < zs.length := (List.getElem?_eq_some_iff.mp z1).1
          refine ⟨p, zs, i, i.toNat, z, rfl, rfl, hl1, by omega, by omega, ?_, z1, ?_⟩
          · unfold seqIndex?
            simp
            omega
          · obtain ⟨v2, t2⟩ := v1.wown t1 (b := .own (ds1.eraseIdx i.toNat)) (o := .lst (zs.eraseIdx i.toNat)) hp ho1 ⟨p, _, rfl, ho1, upd_same, hz.erase _⟩
            exact h1 _ _ _ v2 t2 z z2 trivial
theorem ve_pop0 {k : Nat} {ce : Expr} (hm : PE X ce (tBM0 X.K "list" rPop (tVar k))) : VE X C ce (dPop k) := by
  refine ⟨peI hm fun σ H Q ⟨O, F, s, v, h⟩ => ?_⟩
  unfold dPop at h
  cases e0 : ownAt s k with
  | none => rw [e0] at h; exact h.elim
  | some ds =>
    rw [e0] at h
    simp only at h
    obtain ⟨p, xs, hp, ho, hl, hx⟩ := own_ty v e0
    cases e3 : ds[ds.length - 1]? with
    | none => rw [e3] at h; exact h.elim
    | some d =>
      rw [e3] at h
      obtain ⟨z, z1, z2⟩ := hx.get e3
      rw [← hx.len] at z1
      obtain ⟨v2, t2⟩ := v.wown Tr.refl (b := .own ds.dropLast) (o := .lst xs.dropLast) hp ho ⟨p, _, rfl, ho, upd_same, hx.dropLast⟩
      exact ⟨.ref p, hp, .inl ⟨rfl, xs, .of hl⟩, p, xs, z, rfl, rfl, hl, z1, h _ _ _ v2 t2 z z2 trivial⟩
end
end VL

namespace VL
open PySem PySem.Spec PyProof.Rows L2

/-! ### x[i], x[j] = e -/
def stI (k : Nat) (d : PyData) (fi : DE) : DSt := fun s => match ownAt s k with
  | none => .bad
  | some _ => (fi s).toS fun r s2 => putAt k d r s2
def sSwap (k : Nat) (fi fj : DE) (fe : DD) : DSt := fun s => (fe s).toS fun d s1 => match d with
  | .tuple [a, b] => (stI k a fi s1).then fun s3 => (stI k b fj s3).then fun s4 => .nx s4
  | _ => .bad
section
variable {X : Cx} {C : Ct X.K} {pos : Pos} {e : Expr} {fe : DD} {fi fj : DE} {k : Nat}
theorem RdS.bindT {α : Type} {O O1 : Ow} {F H F1 H1 : Hp} {σ : L2.St} {D : Ends} {o : Out α} {k : α → Sx → SOut} {kk : Sx → SOut} {P : α → Sx → Ow → Hp → Hp → Prop} (h : RdS C O F H ((o.toS k).then kk) D) (t : Tr O F H O1 F1 H1)
    (f : ∀ a s2 O2 F2 H2, VS C O2 F2 s2 σ H2 → Tr O1 F1 H1 O2 F2 H2 → RdS C O F H ((k a s2).then kk) D → P a s2 O2 F2 H2) : Rd0 C σ O1 F1 H1 o P := by
  cases o with
  | ok a s' => exact fun O' F' H' v u => f a s' O' F' H' v u h
  | exc c fs s' => exact fun O' F' H' v u => h σ O' F' H' v (t.trans u)
  | bad => exact h
theorem stI_ok {O O1 : Ow} {F H F1 H1 : Hp} {s : Sx} {σ : L2.St} {D : Ends} {d : PyData} {y : V} {kont : Sx → SOut} {R : L2.St → Hp → Prop} (h : RdS C O F H ((stI k d fi s).then kont) D) (t : Tr O F H O1 F1 H1) (v : VS C O1 F1 s σ H1) (hy : Dt X.K F1 y d)
    (f : ∀ O2 F2 s2 H2, VS C O2 F2 s2 σ H2 → Tr O F H O2 F2 H2 → Same F1 F2 → RdS C O F H (kont s2) D → R σ H2) : L2.gSub (tVar k) (tE C fi) rSetL y σ H1 R := by
  unfold stI at h
  cases e0 : ownAt s k with
  | none => rw [e0] at h; exact h.elim
  | some ds0 =>
    rw [e0] at h
    obtain ⟨p, xs, hp, _⟩ := own_ty v e0
    refine ⟨.ref p, hp, O1, F1, s, v, RdS.bindT h t fun r s2 O2 F2 H2 v2 t2 q2 z hz _ => ?_⟩
    unfold putAt at q2
    cases e2 : ownAt s2 k with
    | none => rw [e2] at q2; exact q2.elim
    | some ds2 =>
      cases e3 : asInt r s2 with
      | none => rw [e2, e3] at q2; exact q2.elim
      | some i =>
        rw [e2, e3] at q2
        simp only at q2
        cases e4 : ixN ds2.length i with
        | none => rw [e4] at q2; exact q2.elim
        | some j =>
          rw [e4] at q2
          obtain ⟨q, zs, hq, ho, hl, hz2⟩ := own_ty v2 e2
          rw [hp] at hq
          cases hq
          obtain ⟨v3, t3⟩ := v2.wown (t.trans t2) (b := .own (ds2.set j d)) (o := .lst (zs.set j y)) hp ho ⟨p, _, rfl, ho, upd_same, hz2.set (hy.mono t2.ff) j⟩
          exact ⟨p, zs, i, j, rfl, asInt_ok v2 hz e3, hl, by rw [hz2.len]; exact e4, f _ _ _ _ v3 t3 t2.ff q2⟩
theorem vs_swap {tg : Expr} (he : VD X C e fe) (hg : PG X tg (gTup X.K 2 (gCons (L2.gSub (tVar k) (tE C fi) rSetL) (gCons (L2.gSub (tVar k) (tE C fj) rSetL) gNil)))) (hs : swapsWithSole [tg] e pos.line X.env = pure false := by rfl) (hw : swappedStores [tg] e X.env = pure none := by rfl)
    (h1 : (assignEach [tg] X.env).map (·.2) = [assign tg X.env] := by rfl) : VSt X C (.Assign [tg] e pos) (sSwap k fi fj fe) := by
  refine ⟨psI (ps_asg he.run hg hs hw h1) fun D σ H ⟨O, F, s, v, h⟩ => ⟨O, F, s, v, RdS.bind h Tr.refl fun d s1 O1 F1 H1 v1 t1 q1 y hy => ?_⟩⟩
  split at q1
  case h_2 => exact q1.elim
  rename_i a b
  cases hy with
  | tup hT hx =>
    cases hx with
    | cons ha hr =>
      cases hr with
      | cons hb hr2 =>
        cases hr2
        refine ⟨_, _, rfl, tupS (v1.fh _ _ hT), rfl, _, _, rfl, stI_ok q1 t1 v1 ha fun O2 F2 s2 H2 v2 t2 sf q2 => ?_⟩
        exact ⟨_, _, rfl, stI_ok q2 t2 v2 (hb.mono sf) fun O3 F3 s3 H3 v3 t3 _ q3 => ⟨rfl, q3 σ _ _ _ v3 t3⟩⟩
end
end VL

namespace VL
open PySem PySem.Spec PyProof.Rows L2

theorem u1 {A : Around} {k : Nat} (r : Room k A) : A.units + 1 < cLine := by
  have := r.un
  omega
/-! ### mixed, folded, begun -/
def den_mixed0 : DSt := (sSeq (sSet 2 (dOp gAdd (dOp gAdd (dOp gMod (dCall gInt (daCons (dOp gMulT (dOp gMulT (dVar 0) (dOp gAdd (dC (.int 1)) (dOp gMulT (dC (.int 2)) (dVar 1)))) (dC (.int 48271))) daNil)) (dC (.int 2147483647))) (dOp gMulT (dOp gMulT (dC (.int 7919)) (dVar 1)) (dVar 1))) (dOp gMulT (dC (.int 104729)) (dVar 1)))) (sRet (dFrz (dOp gDiv (dOp gMod (dCall gInt (daCons (dOp gMulT (dVar 2) (dC (.int 69621))) daNil)) (dC (.int 2147483629))) (dC (.int 7))))))
theorem mulOk_l {i j : Int} (h1 : -(2 ^ 64) < i) (h2 : i < 2 ^ 64) : mulOk i j = true := by
  unfold mulOk
  rw [decide_eq_true h1, decide_eq_true h2]; rfl
theorem mulOk_r {i j : Int} (h1 : -(2 ^ 64) < j) (h2 : j < 2 ^ 64) : mulOk i j = true := by
  unfold mulOk
  rw [decide_eq_true h1, decide_eq_true h2]; simp
theorem gMulT_int {i j : Int} (h : mulOk i j = true) : gMulT (.int i) (.int j) = some (int_ (i * j)) := by
  show (if mulOk i j = true then _ else _) = _
  rw [if_pos h]
theorem mixed_ok {fn : PFn} (hf : fn = fnOfD 3 den_mixed0) {c n : Int} (h0 : 0 ≤ n) (h1 : n < 2305843009213693952) : fn [.int c, .int n] = .ok (.int (mixD c n)) := by
  subst hf
  have e1 : gMulT (.int 2) (.int n) = some (int_ (2 * n)) := gMulT_int (mulOk_l (by decide) (by decide))
  have e2 : gMulT (.int c) (.int (1 + 2 * n)) = some (int_ (c * (1 + 2 * n))) := gMulT_int (mulOk_r (by omega) (by omega))
  have e3 : gMulT (.int (c * (1 + 2 * n))) (.int 48271) = some (int_ (c * (1 + 2 * n) * 48271)) := gMulT_int (mulOk_r (by decide) (by decide))
  have e4 : gMulT (.int 7919) (.int n) = some (int_ (7919 * n)) := gMulT_int (mulOk_l (by decide) (by decide))
  have e5 : gMulT (.int (7919 * n)) (.int n) = some (int_ (7919 * n * n)) := gMulT_int (mulOk_r (by omega) (by omega))
  have e6 : gMulT (.int 104729) (.int n) = some (int_ (104729 * n)) := gMulT_int (mulOk_l (by decide) (by decide))
  have e7 : ∀ x : Int, gMulT (.int x) (.int 69621) = some (int_ (x * 69621)) := fun x => gMulT_int (mulOk_r (by decide) (by decide))
  simp [fnOfD, den_mixed0, prOf, startS, sSeq, sSet, dOp, dVar, dC, Out.bind, Out.toS, SOut.then, fin2, RV.res, dCall, daCons, daNil, finN, resAll, gInt, int_, e1, e2, e3, e4, e5, e6, e7, gAdd, gMod, gDiv, putR, sRet, dFrz, frz, mixD]
def den_folded0 : DSt := (sSeq (sSet 1 (dLc [2] (iRng1 (dC (.int 64))) (gN 2) tdYes (dFrz (dOp gAdd (dC (.int 17)) (dVar 2))))) (sSeq (sFor (iEnumS (ddCons (dFrz (dVar 0)) ddNil)) (gTup0 2 (gCons0 (gN 2) (gCons0 (gN 3) gNil0))) (sSetI 1 (dOp gMod (dCall gInt (daCons (dVar 2) daNil)) (dC (.int 64))) (dFrz (dOp gMod (dCall gInt (daCons (dOp gAdd (dOp gMulT (dOp gIx (dVar 1) (dOp gMod (dCall gInt (daCons (dVar 2) daNil)) (dC (.int 64)))) (dC (.int 48271))) (dVar 3)) daNil)) (dC (.int 2147483647)))))) (sSeq (sFor (iRng2 (dC (.int 1)) (dC (.int 64))) (gN 2) (sSetI 1 (dVar 2) (dFrz (dOp gMod (dCall gInt (daCons (dOp gAdd (dOp gIx (dVar 1) (dVar 2)) (dOp gMulT (dOp gIx (dVar 1) (dOp gSub (dVar 2) (dC (.int 1)))) (dC (.int 16807)))) daNil)) (dC (.int 2147483647)))))) (sRet (dFrz (dVar 1))))))
/-- a loop that keeps what is so -/
theorem forD_inv {tgt : Tg} {body : DSt} (I : Sx → Prop) : ∀ (ds : List PyData) (s : Sx), I s → (∀ d ∈ ds, ∀ s, I s → ∃ s1 s2, tgt d s = some s1 ∧ body s1 = .nx s2 ∧ I s2) → ∃ s', forD tgt body ds s = .nx s' ∧ I s'
  | [], s, h, _ => ⟨s, rfl, h⟩
  | d :: r, s, h, f => by
    obtain ⟨s1, s2, e1, e2, h2⟩ := f d List.mem_cons_self s h
    obtain ⟨s3, e3, h3⟩ := forD_inv I r s2 h2 fun d' m => f d' (List.mem_cons_of_mem _ m)
    refine ⟨s3, ?_, h3⟩
    unfold forD
    rw [e1]
    simp only
    rw [e2]
    exact e3
theorem enumD_mem {ns : List Int} : ∀ {k : Int} {d : PyData}, d ∈ enumD k (ns.map PyData.int) → ∃ i x, d = .tuple [.int i, .int x] ∧ k ≤ i := by
  induction ns with
  | nil => intro k d h; cases h
  | cons n r ih =>
    intro k d h
    rcases List.mem_cons.mp h with rfl | h
    · exact ⟨k, n, rfl, Int.le_refl _⟩
    · obtain ⟨i, x, e, hk⟩ := ih h
      exact ⟨i, x, e, by omega⟩
theorem rngD_mem {lo : Int} {n : Nat} {d : PyData} (h : d ∈ rngD lo 1 n) : ∃ i : Int, d = .int i ∧ lo ≤ i ∧ i < lo + n := by
  obtain ⟨j, hj⟩ := List.mem_iff_getElem?.mp h
  obtain ⟨e, hl⟩ := rngD_get 1 n lo j d hj
  exact ⟨_, e, by omega, by omega⟩
theorem atI_ints {c : List Int} {i : Int} (h0 : 0 ≤ i) (h1 : i < c.length) : atI (c.map PyData.int) i = some (.int (c.getD i.toNat 0)) := by
  unfold atI
  rw [ixN_nn h0 (by rw [List.length_map]; exact h1)]
  show (c.map PyData.int)[i.toNat]? = _
  have hi : i.toNat < c.length := by omega
  rw [List.getElem?_map, List.getD_eq_getElem?_getD, List.getElem?_eq_getElem hi]
  rfl
def cells0 : List Int := [17, 18, 19, 20, 21, 22, 23, 24, 25, 26, 27, 28, 29, 30, 31, 32, 33, 34, 35, 36, 37, 38, 39, 40, 41, 42, 43, 44, 45, 46, 47, 48, 49, 50, 51, 52, 53, 54, 55, 56, 57, 58, 59, 60, 61, 62, 63, 64, 65, 66, 67, 68, 69, 70, 71, 72, 73, 74, 75, 76, 77, 78, 79, 80]
theorem folded_ok {fn : PFn} (hf : fn = fnOfD 4 den_folded0) (ns : List Int) : ∃ c : List Int, fn [scrD ns] = .ok (.list (c.map PyData.int)) ∧ c.length = 64 := by
  subst hf
  have first : sSet 1 (dLc [2] (iRng1 (dC (.int 64))) (gN 2) tdYes (dFrz (dOp gAdd (dC (.int 17)) (dVar 2)))) (startS 4 [scrD ns]) = .nx ⟨[some (.dat (scrD ns)), some (.own (cells0.map PyData.int)), none, none], m0⟩ := by kernel_rfl
  let I : Sx → Prop := fun s => ∃ (c : List Int) (x y : Option VB), c.length = 64 ∧ s = ⟨[some (.dat (scrD ns)), some (.own (c.map PyData.int)), x, y], m0⟩
  have i0 : I ⟨[some (.dat (scrD ns)), some (.own (cells0.map PyData.int)), none, none], m0⟩ := ⟨cells0, none, none, rfl, rfl⟩
  obtain ⟨s1, e1, i1⟩ := forD_inv (tgt := gTup0 2 (gCons0 (gN 2) (gCons0 (gN 3) gNil0))) (body := sSetI 1 (dOp gMod (dCall gInt (daCons (dVar 2) daNil)) (dC (.int 64))) (dFrz (dOp gMod (dCall gInt (daCons (dOp gAdd (dOp gMulT (dOp gIx (dVar 1) (dOp gMod (dCall gInt (daCons (dVar 2) daNil)) (dC (.int 64)))) (dC (.int 48271))) (dVar 3)) daNil)) (dC (.int 2147483647))))) I (enumD 0 (ns.map PyData.int)) _ i0 (fun d hd s hs => by
    obtain ⟨i, x, rfl, hi⟩ := enumD_mem hd
    obtain ⟨c, u, v, hc, rfl⟩ := hs
    have a0 : 0 ≤ i % 64 := Int.emod_nonneg _ (by decide)
    have a1 : i % 64 < 64 := Int.emod_lt_of_pos _ (by decide)
    have b1 : atI (c.map PyData.int) (i % 64) = some (.int (c.getD (i % 64).toNat 0)) := atI_ints a0 (by rw [hc]; exact a1)
    have b2 : ∀ z : Int, gMulT (.int z) (.int 48271) = some (int_ (z * 48271)) := fun z => gMulT_int (mulOk_r (by decide) (by decide))
    have b3 : ixN c.length (i % 64) = some (i % 64).toNat := ixN_nn a0 (by rw [hc]; exact a1)
    refine ⟨_, ⟨[some (.dat (scrD ns)), some (.own ((c.set (i % 64).toNat ((c.getD (i % 64).toNat 0 * 48271 + x) % 2147483647)).map PyData.int)), some (.dat (.int i)), some (.dat (.int x))], m0⟩, rfl, ?_, _, _, _, by simpa using hc, rfl⟩
    simp [sSetI, dOp, dVar, dC, Out.bind, Out.toS, fin2, RV.res, VB.data, dCall, daCons, daNil, finN, resAll, gInt, int_, gIx, b1, b2, gAdd, gMod, dFrz, frz, ownAt, putAt, asInt, b3, setOwn, List.map_set])
  obtain ⟨s2, e2, i2⟩ := forD_inv (tgt := gN 2) (body := sSetI 1 (dVar 2) (dFrz (dOp gMod (dCall gInt (daCons (dOp gAdd (dOp gIx (dVar 1) (dVar 2)) (dOp gMulT (dOp gIx (dVar 1) (dOp gSub (dVar 2) (dC (.int 1)))) (dC (.int 16807)))) daNil)) (dC (.int 2147483647))))) I (rngD 1 1 63) _ i1 (fun d hd s hs => by
    obtain ⟨i, rfl, h0, h1⟩ := rngD_mem hd
    obtain ⟨c, u, v, hc, rfl⟩ := hs
    have b1 : atI (c.map PyData.int) i = some (.int (c.getD i.toNat 0)) := atI_ints (by omega) (by omega)
    have b4 : atI (c.map PyData.int) (i - 1) = some (.int (c.getD (i - 1).toNat 0)) := atI_ints (by omega) (by omega)
    have b2 : ∀ z : Int, gMulT (.int z) (.int 16807) = some (int_ (z * 16807)) := fun z => gMulT_int (mulOk_r (by decide) (by decide))
    have b3 : ixN c.length i = some i.toNat := ixN_nn (by omega) (by omega)
    refine ⟨_, ⟨[some (.dat (scrD ns)), some (.own ((c.set i.toNat ((c.getD i.toNat 0 + c.getD (i - 1).toNat 0 * 16807) % 2147483647)).map PyData.int)), some (.dat (.int i)), v], m0⟩, rfl, ?_, _, _, _, by simpa using hc, rfl⟩
    simp [sSetI, dOp, dVar, dC, Out.bind, Out.toS, fin2, RV.res, VB.data, dCall, daCons, daNil, finN, resAll, gInt, int_, gIx, b1, b2, b4, gAdd, gSub, gMod, dFrz, frz, ownAt, putAt, asInt, b3, setOwn, List.map_set])
  obtain ⟨c, u, v, hc, rfl⟩ := i2
  refine ⟨c, ?_, hc⟩
  have g1 : iEnumS (ddCons (dFrz (dVar 0)) ddNil) ⟨[some (.dat (scrD ns)), some (.own (cells0.map PyData.int)), none, none], m0⟩ = .ok (enumD 0 (ns.map PyData.int)) ⟨[some (.dat (scrD ns)), some (.own (cells0.map PyData.int)), none, none], m0⟩ := rfl
  have g2 : ∀ s, iRng2 (dC (.int 1)) (dC (.int 64)) s = .ok (rngD 1 1 63) s := fun s => rfl
  show prOf (den_folded0 (startS 4 [scrD ns])) = _
  unfold den_folded0
  unfold sSeq
  rw [first]
  simp only [SOut.then, sFor]
  rw [g1]
  simp only [Out.toS]
  rw [e1]
  simp only [SOut.then, sFor]
  rw [g2]
  simp only [Out.toS]
  rw [e2]
  rfl
theorem begun_same {fn : PFn} {ff : DD} (hff : ff = dFrz (dCallF fn (ddCons (dFrz (dVar 0)) ddNil))) {n : Nat} {ds : List PyData} {d : PyData} {s' : Sx} (h : ff (startS n ds) = .ok d s') : s' = startS n ds := by
  subst hff
  cases ds with
  | nil =>
    have e : dVar 0 (startS n []) = .bad := by
      unfold dVar startS
      cases n <;> rfl
    simp [dFrz, dCallF, ddCons, e, Out.bind] at h
  | cons d0 r =>
    have e : dVar 0 (startS n (d0 :: r)) = .ok (.dat d0) (startS n (d0 :: r)) := rfl
    simp only [dFrz, dCallF, ddCons, ddNil, e, Out.bind, frz] at h
    cases q : fn [d0] with
    | ok x => rw [q] at h; simp only [frz] at h; cases h; rfl
    | exc a b => rw [q] at h; cases h
    | bad => rw [q] at h; cases h
def great0 (x : Int) : Int := if 10 ^ 18 ≤ x then x else 0
theorem begun_lc (d0 : PyData) (e1 : Option VB) : ∀ (ns acc : List Int), acc.length + ns.length ≤ 1000000 →
    lcA [2] (gN 2) tdYes (dFrz (dIf (dTest (dOp gGe (dVar 2) (dOp gPow (dC (.int 10)) (dC (.int 18))))) (dVar 2) (dC (.int 0)))) (acc.map PyData.int) (ns.map PyData.int) ⟨[some (.dat d0), e1, none], m0⟩ = .ok ((acc ++ ns.map great0).map PyData.int) ⟨[some (.dat d0), e1, none], m0⟩
  | [], acc, _ => by simp [lcA]
  | n :: r, acc, h => by
    have ih := begun_lc d0 e1 r (acc ++ [great0 n]) (by simp at h ⊢; omega)
    have hl : acc.length < 1000000 := by simp at h; omega
    have step : (dFrz (dIf (dTest (dOp gGe (dVar 2) (dOp gPow (dC (.int 10)) (dC (.int 18))))) (dVar 2) (dC (.int 0)))) ⟨[some (.dat d0), e1, some (.dat (.int n))], m0⟩ = .ok (.int (great0 n)) ⟨[some (.dat d0), e1, some (.dat (.int n))], m0⟩ := by
      by_cases hn : (10 : Int) ^ 18 ≤ n
      · have hn' : (1000000000000000000 : Int) ≤ n := hn
        simp [dFrz, dIf, dTest, dOp, dVar, dC, Out.bind, fin2, RV.res, gGe, gPow, int_, bl_, asB, frz, great0, hn']
      · have hn' : ¬ (1000000000000000000 : Int) ≤ n := hn
        simp [dFrz, dIf, dTest, dOp, dVar, dC, Out.bind, fin2, RV.res, gGe, gPow, int_, bl_, asB, frz, great0, hn']
    have wp : wipeX [2] ⟨[some (.dat d0), e1, some (.dat (.int n))], m0⟩ = ⟨[some (.dat d0), e1, none], m0⟩ := rfl
    show lcA [2] (gN 2) tdYes _ (acc.map PyData.int) (.int n :: r.map PyData.int) _ = _
    unfold lcA
    show (Out.nox (.ok true ⟨[some (.dat d0), e1, some (.dat (.int n))], m0⟩)).bind _ = _
    simp only [Out.nox, Out.bind, if_true]
    rw [step]
    simp only [Out.nox, Out.bind, List.length_map, hl, if_true]
    rw [wp]
    have e : acc.map PyData.int ++ [PyData.int (great0 n)] = (acc ++ [great0 n]).map PyData.int := by simp
    rw [e, ih]
    simp
theorem begun_ok {fn : PFn} {ff : DD} {fc : DE} (hff : ff = dFrz (dCallF fn (ddCons (dFrz (dVar 0)) ddNil))) (hf : fn = fnOfD 4 den_folded0)
    (hfc : fc = dLc [2] (iSeqS (dFrz (dVar 0))) (gN 2) tdYes (dFrz (dIf (dTest (dOp gGe (dVar 2) (dOp gPow (dC (.int 10)) (dC (.int 18))))) (dVar 2) (dC (.int 0))))) (ns : List Int) (hl : ns.length ≤ 1000) :
    ∃ c g, begunD ff fc 3 [scrD ns] = some ⟨c, g, 0⟩ ∧ c.length = 64 := by
  obtain ⟨c, e1, hc⟩ := folded_ok hf ns
  subst hff hfc
  have a1 : dFrz (dCallF fn (ddCons (dFrz (dVar 0)) ddNil)) (startS 3 [scrD ns]) = .ok (.list (c.map PyData.int)) (startS 3 [scrD ns]) := by
    have e : dVar 0 (startS 3 [scrD ns]) = .ok (.dat (scrD ns)) (startS 3 [scrD ns]) := rfl
    simp only [dFrz, dCallF, ddCons, ddNil, e, Out.bind, frz]
    rw [e1]
  have a2 : dLc [2] (iSeqS (dFrz (dVar 0))) (gN 2) tdYes (dFrz (dIf (dTest (dOp gGe (dVar 2) (dOp gPow (dC (.int 10)) (dC (.int 18))))) (dVar 2) (dC (.int 0)))) (startS 3 [scrD ns]) = .ok (.tmp ((ns.map great0).map PyData.int)) (startS 3 [scrD ns]) := by
    have e : iSeqS (dFrz (dVar 0)) (startS 3 [scrD ns]) = .ok (ns.map PyData.int) (startS 3 [scrD ns]) := rfl
    have e2 := begun_lc (scrD ns) none ns [] (by simp; omega)
    have e3 : wipeX [2] (startS 3 [scrD ns]) = ⟨[some (.dat (scrD ns)), none, none], m0⟩ := rfl
    have e4 : noOwn [2] (startS 3 [scrD ns]) = true := rfl
    unfold dLc
    rw [e]
    simp only [Out.bind, e4, if_true]
    rw [e3]
    rw [show ([] : List PyData) = ([] : List Int).map PyData.int from rfl, e2]
    rfl
  refine ⟨c, ns.map great0, ?_, hc⟩
  have i1 : ∀ xs : List Int, intsOf (xs.map PyData.int) = some xs := by
    intro xs
    induction xs with
    | nil => rfl
    | cons x r ih =>
      show (intsOf (r.map PyData.int)).map (x :: ·) = _
      rw [ih]; rfl
  unfold begunD
  rw [a1, a2]
  simp only [i1]
end VL

namespace VL
open PySem PySem.Spec PyProof.Rows L2

/-! ### the end of a law row, for a def that is shown where no repr runs around -/
theorem law_callG {P : Program} {w : World} {K : PySem.W.Frag} {mg mb : Str → Option Value} {k : Nat} {fa a : Addr} {fd : FuncData} {x : Str} {sp : Sp} {t : Shared} {us : List Value} {js : List Int}
    (inK : K.In t.heap) (nsG : t.heap.Ns mainGlobals mg) (nsB : t.heap.Ns builtinsNs mb) (isB : ∀ y : Str, y ≠ "__name__" → mb y = bootBuiltins y) (nol : t.heap.NoLimit) (gens : t.gens = #[])
    (at_ : t.heap.get? a = some { cls := .type "list", data := .seq us.toArray }) (inTs : IntsAre us js) (few : js.length ≤ sizeLine) (room : Room k callerA)
    (G : ∀ base : Heap, K.In base → base.Ns mainGlobals mg → FnG P w K mg base CX0 k fa fd [x] sp) (bind_ : ∀ (s : Shared) (u : Value), BindsTo s fd ⟨[u], []⟩ [(x, u)])
    (says : ∀ H : Hp, SqL K H a (js.map V.int) → sp [.ref a] H (fun v _ => v = .bl true) fun _ _ _ => False) :
    codeAny (model P w) callerA (.call (.ref fa) ⟨[.ref a], []⟩) (fun r z => r = .ok (.ret (.bool true)) ∧ OldK t.heap z.heap ∧ z.os = t.os ∧ AllBare z.gens) t := by
  have rel := vals_ints inTs
  have lens := inTs.length
  have main : ∀ H : Hp, Only H → SqL K H a (js.map V.int) → HOk P w H t.heap → (∀ b, H b ≠ none → b = a) → (H a ≠ none → K.lookup a = none) →
      codeAny (model P w) callerA (.call (.ref fa) ⟨[.ref a], []⟩) (fun r z => r = .ok (.ret (.bool true)) ∧ OldK t.heap z.heap ∧ z.os = t.os ∧ AllBare z.gens) t := by
    intro H only hS ok onlyA notK
    have noD : ∀ {b : Addr} {o : Obj} {es : Array DictEntry} {ep : Nat}, t.heap.get? b = some o → o.data = .dict es ep → H b = none := by
      intro b o es ep e1 e2
      by_cases q : H b = none
      · exact q
      · have z := onlyA b q
        subst z
        rw [at_] at e1
        injection e1 with e1
        rw [← e1] at e2
        cases e2
    have keepNs : ∀ {b : Addr} {m : Str → Option Value}, t.heap.Ns b m → (hidT t.heap H).Ns b m := by
      intro b m q
      obtain ⟨o, es, ep, e1, e2, rest⟩ := q
      exact ⟨o, es, ep, hidT_get e1 (noD e1 e2), e2, rest⟩
    have baseK : K.In (hidT t.heap H) := by
      intro b o e
      refine hidT_get (inK b o e) ?_
      by_cases q : H b = none
      · exact q
      · have z := onlyA b q
        subst z
        rw [notK q] at e
        cases e
    have mod_ : Mod K mg (hidT t.heap H) := by
      obtain ⟨mc, c1, c2⟩ := nol
      exact ⟨baseK, keepNs nsG, ⟨mb, keepNs nsB, isB⟩, mc, keepNs c1, c2⟩
    have env_ : Env0 P w K mg (hidT t.heap H) callerA [] t H :=
      ⟨rfl, mod_, fun b o e => of_hidT e, Nat.le_of_eq (hidT_size _ _), trivial, fun b q => (by cases q), ok, .of_eq gens⟩
    have run_ := (G _ baseK (keepNs nsG)).go callerA [] t H ⟨[.ref a], []⟩ [.ref a] [.ref a] _ _ room rfl env_ (bind_ t (.ref a)) (.cons rfl .nil) (says H hS)
    refine codeAny_mono run_ fun r z q => ?_
    match r, q with
    | .error e, q => exact q.elim
    | .ok .next, q => exact q.elim
    | .ok .brk, q => exact q.elim
    | .ok .cont, q => exact q.elim
    | .ok (.ret u), q =>
      obtain ⟨v, H', os_, bare, un, ok', rv, hv⟩ := q
      have hv : v = .bl true := hv
      subst hv
      have hu : u = Value.bool true := rv
      subst hu
      refine ⟨rfl, OldK.of_keep fun b o e => ?_, os_, bare⟩
      by_cases q : H b = none
      · refine un.keep b o e q ?_ ?_
        · intro z
          cases z
        · simp
      · rcases only b with z | ⟨ob, xs, z⟩
        · exact absurd z q
        · have z2 := un.frzs b ob _ z
          have e1 := (ok b _ z).1
          have e2 := (ok' b _ z2).1
          rw [e] at e1
          injection e1 with e1
          rw [e1]
          exact e2
  by_cases hk : K.lookup a = none
  · refine main (fun b => if b = a then some (.frz { cls := .type "list", data := .seq us.toArray } (.lst (js.map V.int))) else none) ?_ (.inl (.inr ⟨{ cls := .type "list", data := .seq us.toArray }, if_pos rfl⟩)) ?_ ?_ fun _ => hk
    · intro b
      by_cases e : b = a
      · exact .inr ⟨_, _, if_pos e⟩
      · exact .inl (if_neg e)
    · intro b u z
      by_cases e : b = a
      · have z2 := (if_pos e).symm.trans z
        injection z2 with z2
        subst e
        subst z2
        exact ⟨at_, by rw [List.length_map]; exact few, us, _, rel, at_⟩
      · have z2 := (if_neg e).symm.trans z
        cases z2
    · intro b z
      by_cases e : b = a
      · exact e
      · exact absurd (if_neg e) z
  · obtain ⟨o, ho⟩ := Option.ne_none_iff_exists'.mp hk
    have e := inK a o ho
    rw [at_] at e
    injection e with e
    subst e
    exact main (fun _ => none) (fun _ => .inl rfl) (.inr ⟨_, us.toArray, _, ho, rfl, rfl, rfl, by rw [List.size_toArray, lens]; exact few, by simpa using rel⟩) (fun b u z => (by cases z)) (fun b z => absurd rfl z) fun z => absurd rfl z
/-- a law row from the promise of its def -/
theorem walk_ofG {l : PySem.W.OpenLaw} {n k : Nat} {q : Program} {loose : List Str} {XP : (Str → Option Value) → Heap → Prop} {YP : World → Heap → Prop} {d : DefRec} {x : Str} (hn : l.most = some n) (hn2 : n ≤ sizeLine) (hdf : d.params.defaults = []) (hr : Room k callerA)
    (F : ∀ (w : World) (mg : Str → Option Value) (fa : Addr) (h : Heap), YP w h → h.Ns mainGlobals mg → mg d.name = some (.ref fa) →
      ∃ (K : PySem.W.Frag) (fd : FuncData) (fn : List PyData → Option PyData), K.In h ∧ (∀ (s : Shared) (u : Value), BindsTo s fd ⟨[u], []⟩ [(x, u)]) ∧ (∀ ns : List Int, ns.length ≤ n → fn [scrD ns] = some (.bool true)) ∧
        ∀ base : Heap, K.In base → base.Ns mainGlobals mg → FnG l.prog w K mg base CX0 k fa fd [x] (spLaw K fn)) :
    PySem.W.WalkO q loose XP YP l.row.toRowW d [] (fun f vs => PySem.call f vs) := by
  refine Att.attach_call hn hdf fun w s0 s1 mg mb fa o pm cd doc a vs ns GG Y ho hd hcd hmg hobj hints hlen hgens => ?_
  obtain ⟨K, fd, fn, KX, hb, says, hF⟩ := F w mg fa _ Y GG.T.g hmg
  refine law_callG KX GG.T.g GG.T.b GG.T.builtins GG.T.nolimit hgens hobj hints (Nat.le_trans hlen hn2) hr hF hb fun H hS => ?_
  refine ⟨rfl, H, [scrD ns], ⟨Same.refl _, fun _ _ z => z⟩, .one (.scr hS), ?_⟩
  rw [says ns hlen]
  intro v F' H' hv
  cases hv
  rfl
end VL

namespace VL
open PySem PySem.Spec PyProof.Rows L2

/-! ### defs of the head -/
def fdAt (K : PySem.W.Frag) (d0 : FuncData) (a : Addr) : FuncData := match K.lookup a with
  | some ⟨_, _, .func fd, _⟩ => fd
  | _ => d0
theorem fun_of {K : PySem.W.Frag} {x qual : Str} {st : Stmt} {f : Addr} {kws : List (Str × V)} {d0 : FuncData} (F : ∃ fd, FunD K x qual (defArgs st) (defBody st) (defScope st) [] kws f fd) : Fun K x qual st f (fdAt K d0 f) := by
  obtain ⟨fd, ⟨oc, od, dV, kV, doc, pm, an, cdv, ct, osl, e, lk, hcd, hD, hK⟩, kp⟩ := F
  rcases hD with ⟨_, rfl⟩ | ⟨z, _⟩
  · have h : fdAt K d0 f = fd := by
      unfold fdAt
      rw [lk]
    rw [h]
    exact ⟨⟨oc, od, kV, doc, pm, an, cdv, ct, osl, e, lk, hcd⟩, kp⟩
  · exact absurd rfl z
theorem fun_binds {K : PySem.W.Frag} {x qual : Str} {st : Stmt} {f : Addr} {fd : FuncData} {ps : List Str} (F : Fun K x qual st f fd)
    (h : ∀ (kV doc pm : Value) (an : Option Addr) (cdv ct : Value) (us : List Value), us.length = ps.length → bindArgs (PySem.W.fnOf x qual (defArgs st) (defBody st) (defScope st) .none kV doc pm an cdv ct) ⟨us, []⟩ = pure (ps.zip us)) (s : Shared) (us : List Value) (hl : us.length = ps.length) :
    BindsTo s fd ⟨us, []⟩ (ps.zip us) := by
  obtain ⟨oc, od, kV, doc, pm, an, cdv, ct, osl, rfl, lk, hcd⟩ := F.ex
  exact .of_eq (h kV doc pm an cdv ct us hl)
section
variable {X : Cx} {C : Ct X.K} {pos : Pos}
theorem ve_globIE {x : Str} {i : Int} (hm : ∃ t, X.mg x = some (.int i t)) (hg : Gl X x := by rfl) (hd : (x == ("__debug__" : Str)) = false := by decide) : VE X C (.Name x pos) (dC (.int i)) := by
  obtain ⟨t, hm⟩ := hm
  exact ve_globI hm hg hd
theorem ve_globSE {x : Str} {i : Str} (hm : ∃ t, X.mg x = some (.str i t)) (hg : Gl X x := by rfl) (hd : (x == ("__debug__" : Str)) = false := by decide) : VE X C (.Name x pos) (dC (.str i)) := by
  obtain ⟨t, hm⟩ := hm
  exact ve_globS hm hg hd
end
end VL

namespace VL
open PySem PySem.Spec PyProof.Rows L2

/-! ### reading denotations -/
theorem seq_nx {f g : DSt} {s s1 : Sx} {o : SOut} (h : f s = .nx s1) (k : g s1 = o) : sSeq f g s = o := by
  unfold sSeq
  rw [h]
  exact k
theorem fn_rt {n : Nat} {den : DSt} {ds : List PyData} {d : PyData} {s : Sx} (h : den (startS n ds) = .rt d s) : fnOfD n den ds = .ok d := by
  unfold fnOfD
  rw [h]; rfl
theorem fn_nx {n : Nat} {den : DSt} {ds : List PyData} {s : Sx} (h : den (startS n ds) = .nx s) : fnOfD n den ds = .ok .none := by
  unfold fnOfD
  rw [h]; rfl
theorem fnM_rt {n : Nat} {den : DSt} {ds : List PyData} {m : DS} {d : PyData} {s : Sx} (h : den (startM n m ds) = .rt d s) : fnOfM n den m ds = .ok d s.m := by
  unfold fnOfM
  rw [h]; rfl
theorem for_nx {it : DDs} {tgt : Tg} {body : DSt} {s s1 : Sx} {ds : List PyData} {o : SOut} (h : it s = .ok ds s1) (k : forD tgt body ds s1 = o) : sFor it tgt body s = o := by
  unfold sFor
  rw [h]
  exact k
/-- a loop, its state followed by a fold -/
theorem forD_rel {β : Type} {tgt : Tg} {body : DSt} (I : β → Sx → Prop) (step : β → PyData → β) : ∀ (ds : List PyData) (b : β) (s : Sx), I b s →
    (∀ d ∈ ds, ∀ b s, I b s → ∃ s1 s2, tgt d s = some s1 ∧ body s1 = .nx s2 ∧ I (step b d) s2) → ∃ s', forD tgt body ds s = .nx s' ∧ I (ds.foldl step b) s'
  | [], b, s, h, _ => ⟨s, rfl, h⟩
  | d :: r, b, s, h, f => by
    obtain ⟨s1, s2, e1, e2, h2⟩ := f d List.mem_cons_self b s h
    obtain ⟨s3, e3, h3⟩ := forD_rel I step r _ s2 h2 fun d' m => f d' (List.mem_cons_of_mem _ m)
    refine ⟨s3, ?_, h3⟩
    unfold forD
    rw [e1]
    simp only
    rw [e2]
    exact e3
/-- a loop, the turn counted -/
theorem forD_at {tgt : Tg} {body : DSt} (I : Nat → Sx → Prop) : ∀ (ds : List PyData) (k : Nat) (s : Sx), I k s →
    (∀ j d, ds[j]? = some d → ∀ s, I (k + j) s → ∃ s1 s2, tgt d s = some s1 ∧ body s1 = .nx s2 ∧ I (k + j + 1) s2) → ∃ s', forD tgt body ds s = .nx s' ∧ I (k + ds.length) s'
  | [], k, s, h, _ => ⟨s, rfl, h⟩
  | d :: r, k, s, h, f => by
    obtain ⟨s1, s2, e1, e2, h2⟩ := f 0 d rfl s h
    obtain ⟨s3, e3, h3⟩ := forD_at I r (k + 1) s2 h2 fun j d' hj s hs => by
      have := f (j + 1) d' (by simpa using hj) s (by rw [show k + (j + 1) = k + 1 + j by omega]; exact hs)
      rw [show k + (j + 1) + 1 = k + 1 + j + 1 by omega] at this
      exact this
    refine ⟨s3, ?_, by rw [List.length_cons, show k + (r.length + 1) = k + 1 + r.length by omega]; exact h3⟩
    unfold forD
    rw [e1]
    simp only
    rw [e2]
    exact e3
/-- a comprehension that keeps the state -/
theorem lcA_map {vs : List Nat} {tgt : Tg} {test : DT} {elt : DD} {f : PyData → PyData} {w : Sx} : ∀ (ds acc : List PyData), acc.length + ds.length ≤ 1000000 →
    (∀ d ∈ ds, ∃ s1 s2 s3, tgt d w = some s1 ∧ test s1 = .ok true s2 ∧ elt s2 = .ok (f d) s3 ∧ wipeX vs s3 = w) → lcA vs tgt test elt acc ds w = .ok (acc ++ ds.map f) w
  | [], acc, _, _ => by simp [lcA]
  | d :: r, acc, hl, h => by
    obtain ⟨s1, s2, s3, e1, e2, e3, e4⟩ := h d List.mem_cons_self
    have ih := lcA_map (vs := vs) (tgt := tgt) (test := test) (elt := elt) (f := f) (w := w) r (acc ++ [f d]) (by simp at hl ⊢; omega) fun d' m => h d' (List.mem_cons_of_mem _ m)
    unfold lcA
    rw [e1]
    simp only [e2, Out.nox, Out.bind, if_true, e3]
    rw [if_pos (by simp at hl; omega), e4, ih]
    simp
theorem dLc_map {vs : List Nat} {it : DDs} {tgt : Tg} {test : DT} {elt : DD} {s s1 : Sx} {ds : List PyData} (f : PyData → PyData) (w : Sx) (hi : it s = .ok ds s1) (hw : wipeX vs s1 = w) (ho : noOwn vs s1 = true) (hl : ds.length ≤ 1000000)
    (h : ∀ d ∈ ds, ∃ s1 s2 s3, tgt d w = some s1 ∧ test s1 = .ok true s2 ∧ elt s2 = .ok (f d) s3 ∧ wipeX vs s3 = w) : dLc vs it tgt test elt s = .ok (.tmp (ds.map f)) (backX vs s1 w) := by
  unfold dLc
  rw [hi]
  simp only [Out.bind, ho, if_true, hw]
  rw [lcA_map ds [] (by simpa using hl) h]
  simp
/-- a comprehension with a test -/
theorem lcA_filter {vs : List Nat} {tgt : Tg} {test : DT} {elt : DD} {f : PyData → PyData} {p : PyData → Bool} {w : Sx} : ∀ (ds acc : List PyData), acc.length + ds.length ≤ 1000000 →
    (∀ d ∈ ds, ∃ s1 s2 s3, tgt d w = some s1 ∧ test s1 = .ok (p d) s2 ∧ wipeX vs s2 = w ∧ (p d = true → elt s2 = .ok (f d) s3 ∧ wipeX vs s3 = w)) → lcA vs tgt test elt acc ds w = .ok (acc ++ (ds.filter p).map f) w
  | [], acc, _, _ => by simp [lcA]
  | d :: r, acc, hl, h => by
    obtain ⟨s1, s2, s3, e1, e2, e3, e4⟩ := h d List.mem_cons_self
    unfold lcA
    rw [e1]
    simp only [e2, Out.nox, Out.bind]
    cases q : p d with
    | true =>
      obtain ⟨e5, e6⟩ := e4 q
      have ih := lcA_filter (vs := vs) (tgt := tgt) (test := test) (elt := elt) (f := f) (p := p) (w := w) r (acc ++ [f d]) (by simp at hl ⊢; omega) fun d' m => h d' (List.mem_cons_of_mem _ m)
      simp only [e5, Out.nox, Out.bind, if_true]
      rw [if_pos (by simp at hl; omega), e6, ih]
      simp [List.filter_cons, q]
    | false =>
      have ih := lcA_filter (vs := vs) (tgt := tgt) (test := test) (elt := elt) (f := f) (p := p) (w := w) r acc (by simp at hl ⊢; omega) fun d' m => h d' (List.mem_cons_of_mem _ m)
      simp only [Bool.false_eq_true, if_false]
      rw [e3, ih]
      simp [List.filter_cons, q]
theorem dLc_filter {vs : List Nat} {it : DDs} {tgt : Tg} {test : DT} {elt : DD} {s s1 : Sx} {ds : List PyData} (f : PyData → PyData) (p : PyData → Bool) (w : Sx) (hi : it s = .ok ds s1) (hw : wipeX vs s1 = w) (ho : noOwn vs s1 = true) (hl : ds.length ≤ 1000000)
    (h : ∀ d ∈ ds, ∃ s1 s2 s3, tgt d w = some s1 ∧ test s1 = .ok (p d) s2 ∧ wipeX vs s2 = w ∧ (p d = true → elt s2 = .ok (f d) s3 ∧ wipeX vs s3 = w)) : dLc vs it tgt test elt s = .ok (.tmp ((ds.filter p).map f)) (backX vs s1 w) := by
  unfold dLc
  rw [hi]
  simp only [Out.bind, ho, if_true, hw]
  rw [lcA_filter ds [] (by simpa using hl) h]
  simp
/-- a comprehension that draws: a turn costs c -/
theorem lcA_draws {vs : List Nat} {tgt : Tg} {test : DT} {elt : DD} {P : PyData → Prop} (J : Nat → Sx → Prop) {c : Nat} : ∀ (ds acc : List PyData) (B : Nat) (s : Sx), acc.length + ds.length ≤ 1000000 → J (B + c * ds.length) s →
    (∀ d ∈ ds, ∀ B s, J (B + c) s → ∃ s1 s2 s3 e, tgt d s = some s1 ∧ test s1 = .ok true s2 ∧ elt s2 = .ok e s3 ∧ P e ∧ J B (wipeX vs s3)) →
    ∃ es s', lcA vs tgt test elt acc ds s = .ok (acc ++ es) s' ∧ es.length = ds.length ∧ (∀ e ∈ es, P e) ∧ J B s'
  | [], acc, B, s, _, h, _ => ⟨[], s, by simp [lcA], rfl, (by intro e z; cases z), by simpa using h⟩
  | d :: r, acc, B, s, hl, h, f => by
    obtain ⟨s1, s2, s3, e, e1, e2, e3, hp, hj⟩ := f d List.mem_cons_self (B + c * r.length) s (by rw [List.length_cons, Nat.mul_succ] at h; rw [Nat.add_assoc]; exact h)
    obtain ⟨es, s', a1, a2, a3, a4⟩ := lcA_draws J r (acc ++ [e]) B (wipeX vs s3) (by simp at hl ⊢; omega) hj fun d' m => f d' (List.mem_cons_of_mem _ m)
    refine ⟨e :: es, s', ?_, by simp [a2], fun x hx => ?_, a4⟩
    · unfold lcA
      rw [e1]
      simp only [e2, Out.nox, Out.bind, if_true, e3]
      rw [if_pos (by simp at hl; omega), a1]
      simp
    · rcases List.mem_cons.mp hx with rfl | hx
      · exact hp
      · exact a3 x hx
/-! ### the drawn numbers -/
def Good (B : Nat) (m : DS) : Prop := 0 ≤ m.spot ∧ m.spot + B ≤ 1152921504606846976 ∧ m.cells.length = 64
theorem Good.less {A B : Nat} {m : DS} (h : Good A m) (l : B ≤ A) : Good B m := ⟨h.1, by have := h.2.1; omega, h.2.2⟩
theorem draw_good {B : Nat} {m : DS} {L : Int} (h : Good (B + 1) m) (h0 : 0 < L) (h1 : L < 1073741824) : ∃ (r : Nat) (m' : DS), drawFn m [.int L] = .ok (.int r) m' ∧ (r : Int) < L ∧ Good B m' := by
  obtain ⟨g0, g1, g2⟩ := h
  have ok : drawOk m L = true := by
    unfold drawOk
    simp only [Bool.and_eq_true, decide_eq_true_eq]
    exact ⟨⟨⟨⟨g0, by omega⟩, g2⟩, h0⟩, h1⟩
  have e : drawFn m [.int L] = .ok (.int (drawF m L).1) (drawF m L).2 := by
    show (if drawOk m L = true then _ else _) = _
    rw [if_pos ok]
  have r0 : 0 ≤ (drawF m L).1 ∧ (drawF m L).1 < L := by
    unfold drawF
    split
    · exact ⟨Int.emod_nonneg _ (by omega), Int.emod_lt_of_pos _ h0⟩
    · exact ⟨Int.emod_nonneg _ (by omega), Int.emod_lt_of_pos _ h0⟩
  have rg : Good B (drawF m L).2 := by
    unfold drawF
    split
    · exact ⟨by show 0 ≤ m.spot + 1; omega, by show m.spot + 1 + B ≤ _; omega, g2⟩
    · exact ⟨by show 0 ≤ m.spot + 1; omega, by show m.spot + 1 + B ≤ _; omega, g2⟩
  refine ⟨(drawF m L).1.toNat, (drawF m L).2, ?_, by omega, rg⟩
  rw [e, Int.toNat_of_nonneg r0.1]
end VL

namespace VL
open PySem PySem.Spec PyProof.Rows L2

/-! ### what holds behind a statement -/
inductive Wp : SOut → (Sx → Prop) → (PyData → Sx → Prop) → Prop
  | nx {s : Sx} {Q : Sx → Prop} {R : PyData → Sx → Prop} : Q s → Wp (.nx s) Q R
  | rt {d : PyData} {s : Sx} {Q : Sx → Prop} {R : PyData → Sx → Prop} : R d s → Wp (.rt d s) Q R
inductive We {α : Type} : Out α → (α → Sx → Prop) → Prop
  | ok {a : α} {s : Sx} {Q : α → Sx → Prop} : Q a s → We (.ok a s) Q
section
variable {Q Q' : Sx → Prop} {R R' : PyData → Sx → Prop} {f g : DSt} {s s1 : Sx}
theorem Wp.mono {o : SOut} (h : Wp o Q R) (hq : ∀ s, Q s → Q' s) (hr : ∀ d s, R d s → R' d s) : Wp o Q' R' := by
  cases h with
  | nx h => exact .nx (hq _ h)
  | rt h => exact .rt (hr _ _ h)
theorem Wp.nxE {o : SOut} (h : Wp o Q fun _ _ => False) : ∃ s, o = .nx s ∧ Q s := by
  cases h with
  | nx h => exact ⟨_, rfl, h⟩
  | rt h => exact h.elim
theorem wp_seq (h : Wp (f s) (fun s1 => Wp (g s1) Q R) R) : Wp (sSeq f g s) Q R := by
  unfold sSeq SOut.then
  generalize f s = o at h
  cases h with
  | nx h => exact h
  | rt h => exact .rt h
theorem wp_nx (e : f s = .nx s1) (h : Q s1) : Wp (f s) Q R := by rw [e]; exact .nx h
theorem wp_rt {d : PyData} (e : f s = .rt d s1) (h : R d s1) : Wp (f s) Q R := by rw [e]; exact .rt h
theorem wp_step (e : f s = .nx s1) (h : Wp (g s1) Q R) : Wp (sSeq f g s) Q R := wp_seq (wp_nx e h)
theorem wp_if {c : DT} {b : Bool} (e : c s = .ok b s1) (h : b = true → Wp (f s1) Q R) (h' : b = false → Wp (g s1) Q R) : Wp (sIf c f g s) Q R := by
  unfold sIf Out.toS
  rw [e]
  cases b with
  | true => exact h rfl
  | false => exact h' rfl
theorem wp_ifT {c : DT} (e : c s = .ok true s1) (h : Wp (f s1) Q R) : Wp (sIf c f g s) Q R := wp_if e (fun _ => h) (fun z => nomatch z)
theorem wp_ifF {c : DT} (e : c s = .ok false s1) (h : Wp (g s1) Q R) : Wp (sIf c f g s) Q R := wp_if e (fun z => nomatch z) (fun _ => h)
theorem wp_forD {tgt : Tg} {body : DSt} (I : Nat → Sx → Prop) : ∀ (ds : List PyData) (k : Nat) (s : Sx), I k s →
    (∀ j d s, ds[j]? = some d → I (k + j) s → ∃ s1, tgt d s = some s1 ∧ Wp (body s1) (I (k + j + 1)) R) → (∀ s, I (k + ds.length) s → Q s) → Wp (forD tgt body ds s) Q R
  | [], k, s, h, _, q => .nx (q s h)
  | d :: r, k, s, h, f, q => by
    obtain ⟨s1, e1, h1⟩ := f 0 d s rfl h
    unfold forD
    rw [e1]
    simp only
    generalize body s1 = o at h1
    cases h1 with
    | nx h1 =>
      refine wp_forD I r (k + 1) _ h1 (fun j d' s hj hs => ?_) (fun s hs => q s (by rw [List.length_cons, show k + (r.length + 1) = k + 1 + r.length by omega]; exact hs))
      have := f (j + 1) d' s (by simpa using hj) (by rw [show k + (j + 1) = k + 1 + j by omega]; exact hs)
      rw [show k + (j + 1) + 1 = k + 1 + j + 1 by omega] at this
      exact this
    | rt h1 => exact .rt h1
theorem wp_for {it : DDs} {tgt : Tg} {body : DSt} {ds : List PyData} (I : Nat → Sx → Prop) (hi : it s = .ok ds s1) (h0 : I 0 s1)
    (hb : ∀ j d s, ds[j]? = some d → I j s → ∃ s1, tgt d s = some s1 ∧ Wp (body s1) (I (j + 1)) R) (hq : ∀ s, I ds.length s → Q s) : Wp (sFor it tgt body s) Q R := by
  unfold sFor Out.toS
  rw [hi]
  exact wp_forD I ds 0 s1 h0 (fun j d s hj hs => by rw [Nat.zero_add] at hs ⊢; exact hb j d s hj hs) (fun s hs => hq s (by rw [Nat.zero_add] at hs; exact hs))
/-- a while: I k s, at most k turns are left -/
theorem wp_while {c : DT} {body : DSt} (I : Nat → Sx → Prop) (hb : ∀ k s, I k s → ∃ b s1, c s = .ok b s1 ∧ (b = true → ∃ k', k = k' + 1 ∧ Wp (body s1) (I k') R) ∧ (b = false → Q s1)) :
    ∀ (n k : Nat) (s : Sx), k < n → I k s → Wp (whileD c body n s) Q R
  | 0, k, s, hk, _ => absurd hk (by omega)
  | n + 1, k, s, hk, h => by
    obtain ⟨b, s1, e, ht, hf⟩ := hb k s h
    unfold whileD Out.toS
    rw [e]
    simp only
    cases b with
    | false => exact .nx (hf rfl)
    | true =>
      obtain ⟨k', rfl, h1⟩ := ht rfl
      rw [if_pos rfl]
      generalize body s1 = o at h1
      cases h1 with
      | nx h1 => exact wp_while I hb n k' _ (by omega) h1
      | rt h1 => exact .rt h1
theorem fn_wp {n : Nat} {den : DSt} {ds : List PyData} {d : PyData} (h : Wp (den (startS n ds)) (fun _ => PyData.none = d) (fun d' _ => d' = d)) : fnOfD n den ds = .ok d := by
  unfold fnOfD
  generalize den (startS n ds) = o at h
  cases h with
  | nx h => exact congrArg Pr.ok h
  | rt h => exact congrArg Pr.ok h
theorem fn_wpE {n : Nat} {den : DSt} {ds : List PyData} {P : PyData → Prop} (h : Wp (den (startS n ds)) (fun _ => P .none) (fun d' _ => P d')) : ∃ d, fnOfD n den ds = .ok d ∧ P d := by
  unfold fnOfD
  generalize den (startS n ds) = o at h
  cases h with
  | nx h => exact ⟨_, rfl, h⟩
  | rt h => exact ⟨_, rfl, h⟩
theorem fnM_wp {n : Nat} {den : DSt} {m : DS} {ds : List PyData} {P : PyData → DS → Prop} (h : Wp (den (startM n m ds)) (fun s => P .none s.m) (fun d s => P d s.m)) : ∃ d m', fnOfM n den m ds = .ok d m' ∧ P d m' := by
  unfold fnOfM
  generalize den (startM n m ds) = o at h
  cases h with
  | nx h => exact ⟨_, _, rfl, h⟩
  | rt h => exact ⟨_, _, rfl, h⟩
theorem wp_toS {α : Type} {o : Out α} {k : α → Sx → SOut} (h : We o fun a s => Wp (k a s) Q R) : Wp (o.toS k) Q R := by
  cases h with
  | ok h => exact h
theorem wp_set {i : Nat} {f : DE} (h : We (f s) fun r s1 => Wp (putR i r s1) Q R) : Wp (sSet i f s) Q R := wp_toS h
theorem wp_ret {f : DD} (h : We (f s) fun d s1 => R d s1) : Wp (sRet f s) Q R := wp_toS (by
  generalize f s = o at h
  cases h with
  | ok h => exact .ok (.rt h))
theorem wp_expr {f : DE} (h : We (f s) fun _ s1 => Q s1) : Wp (sExpr f s) Q R := wp_toS (by
  generalize f s = o at h
  cases h with
  | ok h => exact .ok (.nx h))
theorem wp_ifE {c : DT} (h : We (c s) fun b s1 => if b = true then Wp (f s1) Q R else Wp (g s1) Q R) : Wp (sIf c f g s) Q R := wp_toS (by
  generalize c s = o at h
  cases h with
  | @ok b s1 _ h =>
    refine .ok ?_
    cases b with
    | true => exact h
    | false => exact h)
end
section
variable {α β : Type} {s s1 : Sx}
theorem We.mono {o : Out α} {Q Q' : α → Sx → Prop} (h : We o Q) (f : ∀ a s, Q a s → Q' a s) : We o Q' := by
  cases h with
  | ok h => exact .ok (f _ _ h)
theorem We.okE {o : Out α} {Q : α → Sx → Prop} (h : We o Q) : ∃ a s, o = .ok a s ∧ Q a s := by
  cases h with
  | ok h => exact ⟨_, _, rfl, h⟩
theorem we_ok {o : Out α} {a : α} {Q : α → Sx → Prop} (e : o = .ok a s1) (h : Q a s1) : We o Q := by rw [e]; exact .ok h
theorem we_bind {o : Out α} {k : α → Sx → Out β} {Q : β → Sx → Prop} (h : We o fun a s => We (k a s) Q) : We (o.bind k) Q := by
  cases h with
  | ok h => exact h
theorem we_frz {f : DE} {Q : PyData → Sx → Prop} (h : We (f s) fun r s1 => We (frz r s1) Q) : We (dFrz f s) Q := we_bind h
theorem we_lcA {vs : List Nat} {tgt : Tg} {test : DT} {elt : DD} (I : Nat → List PyData → Sx → Prop) : ∀ (ds acc : List PyData) (k : Nat) (s : Sx), acc.length + ds.length ≤ 1000000 → I k acc s →
    (∀ j d acc s, ds[j]? = some d → I (k + j) acc s → ∃ s1, tgt d s = some s1 ∧ We (test s1) fun b s2 => if b = true then We (elt s2) fun e s3 => I (k + j + 1) (acc ++ [e]) (wipeX vs s3) else I (k + j + 1) acc (wipeX vs s2)) →
    We (lcA vs tgt test elt acc ds s) fun es s' => I (k + ds.length) es s'
  | [], acc, k, s, _, h, _ => .ok h
  | d :: r, acc, k, s, hl, h, f => by
    obtain ⟨s1, e1, h1⟩ := f 0 d acc s rfl h
    obtain ⟨b, s2, e2, h2⟩ := h1.okE
    have nx : ∀ acc' s', acc'.length + r.length ≤ 1000000 → I (k + 1) acc' s' → We (lcA vs tgt test elt acc' r s') fun es s' => I (k + (d :: r).length) es s' := fun acc' s' hl' hs => by
      have := we_lcA (vs := vs) (tgt := tgt) (test := test) (elt := elt) I r acc' (k + 1) s' hl' hs fun j d' acc s hj hs => by
        have := f (j + 1) d' acc s (by simpa using hj) (by rw [show k + (j + 1) = k + 1 + j by omega]; exact hs)
        rw [show k + (j + 1) + 1 = k + 1 + j + 1 by omega] at this
        exact this
      rw [List.length_cons, show k + (r.length + 1) = k + 1 + r.length by omega]
      exact this
    unfold lcA
    rw [e1]
    simp only [e2, Out.nox, Out.bind]
    cases b with
    | true =>
      rw [if_pos rfl] at h2 ⊢
      obtain ⟨e, s3, e3, h3⟩ := h2.okE
      simp only [e3]
      rw [if_pos (by simp at hl; omega)]
      exact nx _ _ (by simp at hl ⊢; omega) h3
    | false =>
      rw [if_neg (fun z => nomatch z)] at h2 ⊢
      exact nx _ _ (by simp at hl ⊢; omega) h2
theorem we_lc {vs : List Nat} {it : DDs} {tgt : Tg} {test : DT} {elt : DD} {ds : List PyData} {Q : RV → Sx → Prop} (I : Nat → List PyData → Sx → Prop) (hi : it s = .ok ds s1) (ho : noOwn vs s1 = true) (hl : ds.length ≤ 1000000) (h0 : I 0 [] (wipeX vs s1))
    (hb : ∀ j d acc s, ds[j]? = some d → I j acc s → ∃ s1, tgt d s = some s1 ∧ We (test s1) fun b s2 => if b = true then We (elt s2) fun e s3 => I (j + 1) (acc ++ [e]) (wipeX vs s3) else I (j + 1) acc (wipeX vs s2))
    (hq : ∀ es s2, I ds.length es s2 → Q (.tmp es) (backX vs s1 s2)) : We (dLc vs it tgt test elt s) Q := by
  unfold dLc
  rw [hi]
  simp only [Out.bind, ho, if_true]
  have h := (we_lcA (vs := vs) (tgt := tgt) (test := test) (elt := elt) I ds [] 0 _ (by simpa using hl) h0 (fun j d acc s hj hs => by
    rw [Nat.zero_add] at hs ⊢
    exact hb j d acc s hj hs)).okE
  obtain ⟨es, s2, e, h⟩ := h
  rw [e]
  rw [Nat.zero_add] at h
  exact .ok (hq es s2 h)
/-- without a test -/
theorem we_lc1 {vs : List Nat} {it : DDs} {tgt : Tg} {elt : DD} {ds : List PyData} {Q : RV → Sx → Prop} (I : Nat → List PyData → Sx → Prop) (hi : it s = .ok ds s1) (ho : noOwn vs s1 = true) (hl : ds.length ≤ 1000000) (h0 : I 0 [] (wipeX vs s1))
    (hb : ∀ j d acc s, ds[j]? = some d → I j acc s → ∃ s1, tgt d s = some s1 ∧ We (elt s1) fun e s3 => I (j + 1) (acc ++ [e]) (wipeX vs s3))
    (hq : ∀ es s2, I ds.length es s2 → Q (.tmp es) (backX vs s1 s2)) : We (dLc vs it tgt tdYes elt s) Q :=
  we_lc I hi ho hl h0 (fun j d acc s hj hs => by
    obtain ⟨s1, e1, h1⟩ := hb j d acc s hj hs
    exact ⟨s1, e1, .ok h1⟩) hq
/-- a comprehension without a test, the items by a plain function -/
theorem lc_map {vs : List Nat} {it : DDs} {tgt : Tg} {elt : DD} {α : Type} {l : List α} {en : α → PyData} (f : α → PyData) (w : Sx) (hi : it s = .ok (l.map en) s1) (hw : wipeX vs s1 = w) (hk : backX vs s1 w = s1) (ho : noOwn vs s1 = true) (hl : l.length ≤ 1000000)
    (h : ∀ x ∈ l, ∃ s1 s3, tgt (en x) w = some s1 ∧ elt s1 = .ok (f x) s3 ∧ wipeX vs s3 = w) : dLc vs it tgt tdYes elt s = .ok (.tmp (l.map f)) s1 := by
  obtain ⟨r, s2, e, h1, h2⟩ := (we_lc (vs := vs) (it := it) (tgt := tgt) (test := tdYes) (elt := elt) (s := s) (Q := fun r s' => r = .tmp (l.map f) ∧ s' = s1) (fun j acc s => acc = (l.take j).map f ∧ s = w) hi ho (by simpa using hl) ⟨by simp, hw⟩ (fun j d acc s' hj hs => by
    obtain ⟨rfl, rfl⟩ := hs
    rw [List.getElem?_map] at hj
    cases q : l[j]? with
    | none => rw [q] at hj; cases hj
    | some x =>
      rw [q] at hj
      cases hj
      obtain ⟨s1', s3, a1, a2, a3⟩ := h x (List.mem_of_getElem? q)
      refine ⟨s1', a1, ?_⟩
      refine .ok ?_
      rw [if_pos rfl, a2]
      refine .ok ?_
      exact ⟨by rw [List.take_add_one, q]; simp, a3⟩) (fun es s2 hs => by
    obtain ⟨rfl, rfl⟩ := hs
    exact ⟨by simp, hk⟩)).okE
  rw [e, h1, h2]
end
end VL

namespace VL
open PySem PySem.Spec PyProof.Rows L2

/-! ### how large a thing is, shown -/
structure Sz (k t : Nat) (d : PyData) : Prop where
  lay : d.canLay0 = true
  dep : d.depth ≤ k
  shw : d.showable = true
  len : rbd d ≤ t
theorem Sz.le {k k' t t' : Nat} {d : PyData} (h : Sz k t d) (hk : k ≤ k') (ht : t ≤ t') : Sz k' t' d := ⟨h.lay, Nat.le_trans h.dep hk, h.shw, Nat.le_trans h.len ht⟩
theorem sz_none : Sz 0 4 .none := ⟨rfl, by decide, rfl, by decide⟩
theorem sz_bool (b : Bool) : Sz 0 5 (.bool b) := ⟨rfl, by cases b <;> decide, rfl, by cases b <;> decide⟩
theorem nat_len : ∀ n : Nat, n < 100 → rbd (.int (n : Int)) ≤ 2 := by decide +kernel
theorem nat_shw : ∀ n : Nat, n < 100 → (PyData.int (n : Int)).showable = true := by decide +kernel
theorem sz_nat {n : Nat} (h : n < 100) : Sz 0 2 (.int (n : Int)) := ⟨rfl, by show 0 ≤ 0; decide, nat_shw n h, nat_len n h⟩
theorem sz_all {k t : Nat} : ∀ {ds : List PyData}, (∀ d ∈ ds, Sz k t d) → PyData.canLayAll0 ds = true ∧ PyData.depthAll ds ≤ k ∧ PyData.showableAll ds = true ∧ rbdAll ds ≤ ds.length * (t + 2)
  | [], _ => ⟨rfl, Nat.zero_le _, rfl, Nat.zero_le _⟩
  | d :: r, h => by
    have h0 := h d List.mem_cons_self
    obtain ⟨a1, a2, a3, a4⟩ := sz_all (ds := r) fun x hx => h x (List.mem_cons_of_mem _ hx)
    refine ⟨?_, ?_, ?_, ?_⟩
    · show (d.canLay0 && PyData.canLayAll0 r) = true
      rw [h0.lay, a1]; rfl
    · show max d.depth (PyData.depthAll r) ≤ k
      exact Nat.max_le.mpr ⟨h0.dep, a2⟩
    · show (d.showable && PyData.showableAll r) = true
      rw [h0.shw, a3]; rfl
    · show rbd d + 2 + rbdAll r ≤ (r.length + 1) * (t + 2)
      rw [Nat.succ_mul]
      have := h0.len
      omega
theorem Sz.tup {k t n : Nat} {ds : List PyData} (h : ∀ d ∈ ds, Sz k t d) (hn : ds.length ≤ n) : Sz (k + 1) (n * (t + 2) + 3) (.tuple ds) := by
  obtain ⟨a1, a2, a3, a4⟩ := sz_all h
  refine ⟨a1, Nat.succ_le_succ a2, a3, ?_⟩
  show rbdAll ds + 3 ≤ _
  have := Nat.mul_le_mul_right (t + 2) hn
  omega
theorem Sz.lst {k t n : Nat} {ds : List PyData} (h : ∀ d ∈ ds, Sz k t d) (hn : ds.length ≤ n) : Sz (k + 1) (n * (t + 2) + 3) (.list ds) := by
  obtain ⟨a1, a2, a3, a4⟩ := sz_all h
  refine ⟨a1, Nat.succ_le_succ a2, a3, ?_⟩
  show rbdAll ds + 2 ≤ _
  have := Nat.mul_le_mul_right (t + 2) hn
  omega
theorem Sz.shaped {k t : Nat} {d : PyData} (h : Sz k t d) (hk : k ≤ 64) : SeqAt.shaped d = true := Bool.and_eq_true_iff.mpr ⟨h.lay, decide_eq_true (Nat.le_trans h.dep hk)⟩
theorem Sz.okR {k t : Nat} {d : PyData} (h : Sz k t d) (hk : k ≤ 64) (ht : t ≤ 16777216) : okR d = true := by
  unfold VL.okR
  rw [h.shaped hk, h.shw, decide_eq_true (show rbd d ≤ sizeLine from Nat.le_trans h.len ht)]
  rfl
mutual
theorem eqv_self : ∀ d : PyData, d.canLay0 = true → PyData.eqv d d = true
  | .none, _ => rfl
  | .bool b, _ => by simp [PyData.eqv]
  | .int i, _ => by simp [PyData.eqv]
  | .str x, _ => by simp [PyData.eqv]
  | .list xs, h => by
    show PyData.eqvAll xs xs = true
    exact eqvAll_self xs h
  | .tuple xs, h => by
    show PyData.eqvAll xs xs = true
    exact eqvAll_self xs h
  | .dict _, h => by cases h
theorem eqvAll_self : ∀ ds : List PyData, PyData.canLayAll0 ds = true → PyData.eqvAll ds ds = true
  | [], _ => rfl
  | d :: r, h => by
    have z : d.canLay0 = true ∧ PyData.canLayAll0 r = true := by simpa [PyData.canLayAll0] using h
    show (PyData.eqv d d && PyData.eqvAll r r) = true
    rw [eqv_self d z.1, eqvAll_self r z.2]; rfl
end
theorem gNe_list {xs ys : List PyData} (h : SeqAt.shaped (.list xs) = true) (h' : SeqAt.shaped (.list ys) = true) : gNe (.list xs) (.list ys) = some (bl_ (!PyData.eqvAll xs ys)) := by
  show (if SeqAt.shaped (.list xs) = true ∧ SeqAt.shaped (.list ys) = true then some (bl_ (!PyData.eqv (.list xs) (.list ys))) else none) = _
  rw [if_pos ⟨h, h'⟩]; rfl
theorem gEq_list {xs ys : List PyData} (h : SeqAt.shaped (.list xs) = true) (h' : SeqAt.shaped (.list ys) = true) : gEq (.list xs) (.list ys) = some (bl_ (PyData.eqvAll xs ys)) := by
  show (if SeqAt.shaped (.list xs) = true ∧ SeqAt.shaped (.list ys) = true then some (bl_ (PyData.eqv (.list xs) (.list ys))) else none) = _
  rw [if_pos ⟨h, h'⟩]; rfl
theorem gEq_tup {xs ys : List PyData} (h : SeqAt.shaped (.tuple xs) = true) (h' : SeqAt.shaped (.tuple ys) = true) : gEq (.tuple xs) (.tuple ys) = some (bl_ (PyData.eqvAll xs ys)) := by
  show (if SeqAt.shaped (.tuple xs) = true ∧ SeqAt.shaped (.tuple ys) = true then some (bl_ (PyData.eqv (.tuple xs) (.tuple ys))) else none) = _
  rw [if_pos ⟨h, h'⟩]; rfl
theorem gNe_tup {xs ys : List PyData} (h : SeqAt.shaped (.tuple xs) = true) (h' : SeqAt.shaped (.tuple ys) = true) : gNe (.tuple xs) (.tuple ys) = some (bl_ (!PyData.eqvAll xs ys)) := by
  show (if SeqAt.shaped (.tuple xs) = true ∧ SeqAt.shaped (.tuple ys) = true then some (bl_ (!PyData.eqv (.tuple xs) (.tuple ys))) else none) = _
  rw [if_pos ⟨h, h'⟩]; rfl
theorem gNe_nil {xs : List PyData} (h : SeqAt.shaped (.list xs) = true) : gNe (.list xs) (.list []) = some (bl_ (!xs.isEmpty)) := by
  rw [gNe_list h rfl]
  cases xs <;> rfl
theorem gEq_nil {xs : List PyData} (h : SeqAt.shaped (.list xs) = true) : gEq (.list xs) (.list []) = some (bl_ xs.isEmpty) := by
  rw [gEq_list h rfl]
  cases xs <;> rfl
theorem gRepr_ok {d : PyData} (h : okR d = true) : gRepr [d] = some (.dat (.str d.shown)) := by
  show (if okR d = true then _ else _) = _
  rw [if_pos h]
theorem gEq_str (x y : Str) : gEq (.str x) (.str y) = some (bl_ (decide (x = y))) := rfl
theorem gNe_str (x y : Str) : gNe (.str x) (.str y) = some (bl_ (!decide (x = y))) := rfl
end VL

namespace VL
open PySem PySem.Spec PyProof.Rows L2
/-! ### reading denotations by simp -/
section
variable {α β : Type}
@[simp] theorem e_bind_ok (a : α) (s : Sx) (f : α → Sx → Out β) : (Out.ok a s).bind f = f a s := (rfl)
@[simp] theorem e_bind_bad (f : α → Sx → Out β) : (Out.bad : Out α).bind f = .bad := (rfl)
@[simp] theorem e_bind_exc (c : Nat) (fs : List PyData) (s : Sx) (f : α → Sx → Out β) : (Out.exc c fs s : Out α).bind f = .exc c fs s := (rfl)
@[simp] theorem e_toS_ok (a : α) (s : Sx) (k : α → Sx → SOut) : (Out.ok a s).toS k = k a s := (rfl)
@[simp] theorem e_toS_exc (c : Nat) (fs : List PyData) (s : Sx) (k : α → Sx → SOut) : (Out.exc c fs s : Out α).toS k = .exc c fs s := (rfl)
@[simp] theorem e_toS_bad (k : α → Sx → SOut) : (Out.bad : Out α).toS k = .bad := (rfl)
@[simp] theorem e_then_nx (s : Sx) (k : Sx → SOut) : (SOut.nx s).then k = k s := (rfl)
@[simp] theorem e_then_rt (d : PyData) (s : Sx) (k : Sx → SOut) : (SOut.rt d s).then k = .rt d s := (rfl)
@[simp] theorem e_then_exc (c : Nat) (fs : List PyData) (s : Sx) (k : Sx → SOut) : (SOut.exc c fs s).then k = .exc c fs s := (rfl)
end
@[simp] theorem e_startS (n : Nat) (ds : List PyData) : startS n ds = ⟨(ds.map fun d => some (.dat d)) ++ List.replicate (n - ds.length) none, m0⟩ := (rfl)
@[simp] theorem e_startM (n : Nat) (m : DS) (ds : List PyData) : startM n m ds = ⟨some .drw :: ((ds.map fun d => some (.dat d)) ++ List.replicate (n - 1 - ds.length) none), m⟩ := (rfl)
@[simp] theorem e_seq (f g : DSt) (s : Sx) : sSeq f g s = (f s).then g := (rfl)
@[simp] theorem e_set (i : Nat) (f : DE) (s : Sx) : sSet i f s = (f s).toS (putR i) := (rfl)
@[simp] theorem e_op (g : PyData → PyData → Option RV) (fa fb : DE) (s : Sx) : dOp g fa fb s = (fa s).bind fun ra s1 => (fb s1).bind fun rb s2 => fin2 g ra rb s2 := (rfl)
@[simp] theorem e_un (g : PyData → Option RV) (fa : DE) (s : Sx) : dUn g fa s = (fa s).bind fun ra s1 => fin1 g ra s1 := (rfl)
@[simp] theorem e_var (i : Nat) (s : Sx) : dVar i s = (match s.g[i]? with
  | some (some (.dat d)) => .ok (.dat d) s
  | some (some _) => .ok (.slot i) s
  | _ => .bad) := (rfl)
@[simp] theorem e_c (d : PyData) (s : Sx) : dC d s = .ok (.dat d) s := (rfl)
@[simp] theorem e_res_dat (d : PyData) (s : Sx) : (RV.dat d).res s = some d := (rfl)
@[simp] theorem e_res_tmp (d : List PyData) (s : Sx) : (RV.tmp d).res s = some (.list d) := (rfl)
@[simp] theorem e_res_slot (i : Nat) (s : Sx) : (RV.slot i).res s = (s.g[i]?.getD none).bind VB.data := (rfl)
@[simp] theorem e_data_dat (d : PyData) : (VB.dat d).data = some d := (rfl)
@[simp] theorem e_data_own (d : List PyData) : (VB.own d).data = some (.list d) := (rfl)
@[simp] theorem e_fin2 (g : PyData → PyData → Option RV) (ra rb : RV) (s : Sx) : fin2 g ra rb s = (match ra.res s, rb.res s with
  | some d, some e => (match g d e with | some r => .ok r s | none => .bad)
  | _, _ => .bad) := (rfl)
@[simp] theorem e_fin1 (g : PyData → Option RV) (ra : RV) (s : Sx) : fin1 g ra s = (match ra.res s with
  | some d => (match g d with | some r => .ok r s | none => .bad)
  | _ => .bad) := (rfl)
@[simp] theorem e_call (g : List PyData → Option RV) (fa : DA) (s : Sx) : dCall g fa s = (fa s).bind fun rs s1 => finN g rs s1 := (rfl)
@[simp] theorem e_daCons (fa : DE) (fr : DA) (s : Sx) : daCons fa fr s = (fa s).bind fun r s1 => (fr s1).bind fun rs s2 => .ok (r :: rs) s2 := (rfl)
@[simp] theorem e_daNil (s : Sx) : daNil s = .ok [] s := (rfl)
@[simp] theorem e_finN (g : List PyData → Option RV) (rs : List RV) (s : Sx) : finN g rs s = (match resAll rs s with
  | some ds => (match g ds with | some r => .ok r s | none => .bad)
  | none => .bad) := (rfl)
@[simp] theorem e_resAll_nil (s : Sx) : resAll [] s = some [] := (rfl)
@[simp] theorem e_resAll_cons (r : RV) (rs : List RV) (s : Sx) : resAll (r :: rs) s = (match r.res s, resAll rs s with
    | some d, some ds => some (d :: ds)
    | _, _ => none) := (rfl)
@[simp] theorem e_gInt (i : Int) : gInt [.int i] = some (.dat (.int i)) := (rfl)
@[simp] theorem e_int_ (i : Int) : int_ i = .dat (.int i) := (rfl)
@[simp] theorem e_bl_ (b : Bool) : bl_ b = .dat (.bool b) := (rfl)
@[simp] theorem e_gIx_list (ds : List PyData) (i : Int) : gIx (.list ds) (.int i) = (atI ds i).map .dat := (rfl)
@[simp] theorem e_gIx_tup (ds : List PyData) (i : Int) : gIx (.tuple ds) (.int i) = (atI ds i).map .dat := (rfl)
@[simp] theorem e_gAdd (i j : Int) : gAdd (.int i) (.int j) = some (.dat (.int (i + j))) := (rfl)
@[simp] theorem e_gAdd_list (xs ys : List PyData) : gAdd (.list xs) (.list ys) = if xs.length + ys.length ≤ 16777216 then some (.tmp (xs ++ ys)) else none := (rfl)
@[simp] theorem e_gAdd_tup (xs ys : List PyData) : gAdd (.tuple xs) (.tuple ys) = if xs.length + ys.length ≤ 16777216 then some (.dat (.tuple (xs ++ ys))) else none := (rfl)
@[simp] theorem e_gSub (i j : Int) : VL.gSub (.int i) (.int j) = some (.dat (.int (i - j))) := (rfl)
@[simp] theorem e_gMod (i j : Int) : gMod (.int i) (.int j) = if 0 < j then some (.dat (.int (i % j))) else none := (rfl)
@[simp] theorem e_gDiv (i j : Int) : gDiv (.int i) (.int j) = if 0 < j ∧ j < 1073741824 then some (.dat (.int (i / j))) else none := (rfl)
@[simp] theorem e_gShl (i j : Int) : gShl (.int i) (.int j) = if 0 ≤ j ∧ j ≤ 1000 ∧ i.natAbs < 18446744073709551616 then some (.dat (.int (i * 2 ^ j.toNat))) else none := (rfl)
@[simp] theorem e_gLt (i j : Int) : gLt (.int i) (.int j) = some (.dat (.bool (decide (i < j)))) := (rfl)
@[simp] theorem e_gLe (i j : Int) : gLe (.int i) (.int j) = some (.dat (.bool (decide (i ≤ j)))) := (rfl)
@[simp] theorem e_gGt (i j : Int) : gGt (.int i) (.int j) = some (.dat (.bool (decide (j < i)))) := (rfl)
@[simp] theorem e_gGe (i j : Int) : gGe (.int i) (.int j) = some (.dat (.bool (decide (j ≤ i)))) := (rfl)
@[simp] theorem e_gNeg (i : Int) : gNeg (.int i) = some (.dat (.int (-i))) := (rfl)
@[simp] theorem e_frzE (f : DE) (s : Sx) : dFrz f s = (f s).bind frz := (rfl)
@[simp] theorem e_frz_dat (d : PyData) (s : Sx) : frz (.dat d) s = .ok d s := (rfl)
@[simp] theorem e_frz_tmp (ds : List PyData) (s : Sx) : frz (.tmp ds) s = .ok (.list ds) s := (rfl)
@[simp] theorem e_frz_slot (i : Nat) (s : Sx) : frz (.slot i) s = (match s.g[i]? with
    | some (some (.dat d)) => .ok d s
    | some (some (.own ds)) => .ok (.list ds) { s with g := s.g.set i (some (.dat (.list ds))) }
    | some (some (.dt kvs)) => .ok (.dict (encT kvs)) { s with g := s.g.set i (some (.dat (.dict (encT kvs)))) }
    | _ => .bad) := (rfl)
@[simp] theorem e_frz_tt (kvs : List (List Key × PyData)) (s : Sx) : frz (.tt kvs) s = .ok (.dict (encT kvs)) s := (rfl)
@[simp] theorem e_ownAt (s : Sx) (k : Nat) : ownAt s k = (match s.g[k]? with
  | some (some (.own ds)) => some ds
  | _ => none) := (rfl)
@[simp] theorem e_putAt (k : Nat) (d : PyData) (r : RV) (s : Sx) : VL.putAt k d r s = (match ownAt s k, asInt r s with
  | some ds, some i => (match ixN ds.length i with | some j => .nx (setOwn s k (ds.set j d)) | none => .bad)
  | _, _ => .bad) := (rfl)
@[simp] theorem e_asInt (r : RV) (s : Sx) : asInt r s = (match r.res s with
  | some (.int i) => some i
  | _ => none) := (rfl)
@[simp] theorem e_setOwn (s : Sx) (k : Nat) (ds : List PyData) : setOwn s k ds = { s with g := s.g.set k (some (.own ds)) } := (rfl)
@[simp] theorem e_ret (f : DD) (s : Sx) : sRet f s = (f s).toS fun d s1 => .rt d s1 := (rfl)
@[simp] theorem e_isi (t : Ty4) (fa : DE) (s : Sx) : dIsi t fa s = (fa s).bind fun r s1 => match r.res s1 with | some d => if tyOk d = true then .ok (bl_ (isiD t d)) s1 else .bad | none => .bad := (rfl)
@[simp] theorem e_and (fa fb : DE) (s : Sx) : dAnd fa fb s = (fa s).bind fun r s1 => (asB r s1).bind fun b s2 => if b = true then fb s2 else .ok (bl_ false) s2 := (rfl)
@[simp] theorem e_or (fa fb : DE) (s : Sx) : dOr fa fb s = (fa s).bind fun r s1 => (asB r s1).bind fun b s2 => if b = true then .ok (bl_ true) s2 else fb s2 := (rfl)
@[simp] theorem e_not (fa : DE) (s : Sx) : dNot fa s = (fa s).bind fun r s1 => (asB r s1).bind fun b s2 => .ok (bl_ (!b)) s2 := (rfl)
@[simp] theorem e_chain (g g' : PyData → PyData → Option RV) (fa fb fc : DE) (s : Sx) : dChain g g' fa fb fc s = (fa s).bind fun ra s1 => (fb s1).bind fun rb s2 => (fin2 g ra rb s2).bind fun r s3 => (asB r s3).bind fun b s4 =>
  if b = true then (fc s4).bind fun rc s5 => fin2 g' rb rc s5 else .ok (bl_ false) s4 := (rfl)
@[simp] theorem e_asB (r : RV) (s : Sx) : asB r s = (match r.res s with
  | some (.bool b) => .ok b s
  | _ => .bad) := (rfl)
@[simp] theorem e_test (f : DE) (s : Sx) : dTest f s = (f s).bind asB := (rfl)
@[simp] theorem e_tAnd (fa fb : DT) (s : Sx) : tdAnd fa fb s = (fa s).bind fun b s1 => if b = true then fb s1 else .ok false s1 := (rfl)
@[simp] theorem e_tOr (fa fb : DT) (s : Sx) : tdOr fa fb s = (fa s).bind fun b s1 => if b = true then .ok true s1 else fb s1 := (rfl)
@[simp] theorem e_tNot (fa : DT) (s : Sx) : tdNot fa s = (fa s).bind fun b s1 => .ok (!b) s1 := (rfl)
@[simp] theorem e_if (c : DT) (f g : DSt) (s : Sx) : sIf c f g s = (c s).toS fun b s1 => if b = true then f s1 else g s1 := (rfl)
@[simp] theorem e_ifx (c : DT) (fa fb : DE) (s : Sx) : dIf c fa fb s = (c s).bind fun b s1 => if b = true then fa s1 else fb s1 := (rfl)
@[simp] theorem e_next (s : Sx) : sNext s = .nx s := (rfl)
@[simp] theorem e_callN (fn : PFn) (fa : DA) (s : Sx) : dCallN fn fa s = (fa s).bind fun rs s1 => match resAll rs s1 with
  | some ds => (match fn ds with
    | .ok d => if flat d = true then .ok (.dat d) s1 else .bad
    | _ => .bad)
  | none => .bad := (rfl)
@[simp] theorem e_callF (fn : PFn) (fa : DDs) (s : Sx) : dCallF fn fa s = (fa s).bind fun ds s1 => match fn ds with
  | .ok d => .ok (.dat d) s1
  | _ => .bad := (rfl)
@[simp] theorem e_flat_none : flat .none = true := (rfl)
@[simp] theorem e_flat_bool (b : Bool) : flat (.bool b) = true := (rfl)
@[simp] theorem e_flat_int (b : Int) : flat (.int b) = true := (rfl)
@[simp] theorem e_flat_str (b : Str) : flat (.str b) = true := (rfl)
@[simp] theorem e_gTuple_list (ds : List PyData) : gTuple [.list ds] = some (.dat (.tuple ds)) := (rfl)
@[simp] theorem e_gTuple_tup (ds : List PyData) : gTuple [.tuple ds] = some (.dat (.tuple ds)) := (rfl)
@[simp] theorem e_gList_list (ds : List PyData) : gList [.list ds] = some (.tmp ds) := (rfl)
@[simp] theorem e_gList_tup (ds : List PyData) : gList [.tuple ds] = some (.tmp ds) := (rfl)
@[simp] theorem e_ddCons (fa : DD) (fr : DDs) (s : Sx) : ddCons fa fr s = (fa s).bind fun d s1 => (fr s1).bind fun ds s2 => .ok (d :: ds) s2 := (rfl)
@[simp] theorem e_ddNil (s : Sx) : ddNil s = .ok [] s := (rfl)
@[simp] theorem e_ddStar (fa : DD) (fr : DDs) (s : Sx) : ddStar fa fr s = (fa s).bind fun d s1 => match starD d with | some xs => (fr s1).bind fun ds s2 => .ok (xs ++ ds) s2 | none => .bad := (rfl)
@[simp] theorem e_tup (f : DDs) (s : Sx) : dTup f s = (f s).bind fun ds s1 => if ds.length ≤ 16777216 then .ok (.dat (.tuple ds)) s1 else .bad := (rfl)
@[simp] theorem e_lst (f : DDs) (s : Sx) : dLst f s = (f s).bind fun ds s1 => if ds.length ≤ 16777216 then .ok (.tmp ds) s1 else .bad := (rfl)
@[simp] theorem e_expr (f : DE) (s : Sx) : sExpr f s = (f s).toS fun _ s1 => .nx s1 := (rfl)
@[simp] theorem e_putR_dat (i : Nat) (d : PyData) (s : Sx) : putR i (.dat d) s = .nx { s with g := s.g.set i (some (.dat d)) } := (rfl)
@[simp] theorem e_putR_tmp (i : Nat) (d : List PyData) (s : Sx) : putR i (.tmp d) s = .nx { s with g := s.g.set i (some (.own d)) } := (rfl)
@[simp] theorem e_putR_slot (i j : Nat) (s : Sx) : putR i (.slot j) s = (frz (.slot j) s).toS fun d s1 => .nx { s1 with g := s1.g.set i (some (.dat d)) } := (rfl)
@[simp] theorem e_sizeLine : sizeLine = 16777216 := (rfl)
@[simp] theorem e_pr_rt (d : PyData) (s : Sx) : prOf (.rt d s) = .ok d := (rfl)
@[simp] theorem e_pr_nx (s : Sx) : prOf (.nx s) = .ok .none := (rfl)
@[simp] theorem gEq_int (i j : Int) : gEq (.int i) (.int j) = some (bl_ (decide (i = j))) := by
  show (if SeqAt.shaped (.int i) = true ∧ SeqAt.shaped (.int j) = true then some (bl_ (PyData.eqv (.int i) (.int j))) else none) = _
  rw [if_pos ⟨rfl, rfl⟩]
  show some (bl_ (i == j)) = _
  rw [Bool.beq_eq_decide_eq]
@[simp] theorem gNe_int (i j : Int) : gNe (.int i) (.int j) = some (bl_ (!decide (i = j))) := by
  show (if SeqAt.shaped (.int i) = true ∧ SeqAt.shaped (.int j) = true then some (bl_ (!PyData.eqv (.int i) (.int j))) else none) = _
  rw [if_pos ⟨rfl, rfl⟩]
  show some (bl_ (!(i == j))) = _
  rw [Bool.beq_eq_decide_eq]
@[simp] theorem isiD_tup (ds : List PyData) : isiD .tuple (.tuple ds) = true := (rfl)
@[simp] theorem isiD_int (i : Int) : isiD .int (.int i) = true := (rfl)
@[simp] theorem isiD_bool (i : Int) : isiD .bool (.int i) = false := (rfl)
@[simp] theorem tyOk_tup (ds : List PyData) : tyOk (.tuple ds) = true := (rfl)
@[simp] theorem tyOk_int (i : Int) : tyOk (.int i) = true := (rfl)
@[simp] theorem gLen_tup (ds : List PyData) : gLen [.tuple ds] = some (int_ ds.length) := (rfl)
@[simp] theorem gLen_list (ds : List PyData) : gLen [.list ds] = some (int_ ds.length) := (rfl)
@[simp] theorem atI0 (a : PyData) (r : List PyData) : atI (a :: r) 0 = some a := by
  unfold atI ixN
  simp
@[simp] theorem atI1 (a b : PyData) (r : List PyData) : atI (a :: b :: r) 1 = some b := by
  unfold atI ixN
  have h : (1 : Int) < (((a :: b :: r).length : Nat) : Int) := by simp; omega
  rw [if_pos (by decide), if_pos h]
  rfl
@[simp] theorem e_par (is : List Nat) (f : DA) (s : Sx) : sPar is f s = (f s).toS fun rs s1 => if is.length = rs.length then .nx (VL.putAll is rs s1) else .bad := (rfl)
@[simp] theorem e_dpCons (fa : DE) (fr : DA) (s : Sx) : dpCons fa fr s = (fa s).bind fun r s1 => (norm r s1).bind fun r s2 => (fr s2).bind fun rs s3 => .ok (r :: rs) s3 := (rfl)
@[simp] theorem e_dpNil (s : Sx) : dpNil s = .ok [] s := (rfl)
@[simp] theorem e_norm_dat (d : PyData) (s : Sx) : norm (.dat d) s = .ok (.dat d) s := (rfl)
@[simp] theorem e_norm_tmp (d : List PyData) (s : Sx) : norm (.tmp d) s = .ok (.tmp d) s := (rfl)
@[simp] theorem e_norm_slot (j : Nat) (s : Sx) : norm (.slot j) s = (frz (.slot j) s).bind fun d s1 => .ok (.dat d) s1 := (rfl)
@[simp] theorem e_putAll_cons (i : Nat) (is : List Nat) (r : RV) (rs : List RV) (s : Sx) : VL.putAll (i :: is) (r :: rs) s = VL.putAll is rs (putD i r s) := (rfl)
@[simp] theorem e_putAll_nil (s : Sx) : VL.putAll [] [] s = s := (rfl)
@[simp] theorem e_putD_dat (i : Nat) (d : PyData) (s : Sx) : putD i (.dat d) s = { s with g := s.g.set i (some (.dat d)) } := (rfl)
@[simp] theorem e_putD_tmp (i : Nat) (d : List PyData) (s : Sx) : putD i (.tmp d) s = { s with g := s.g.set i (some (.own d)) } := (rfl)
@[simp] theorem e_isDrw (s : Sx) (k : Nat) : isDrw s k = (match s.g[k]? with
  | some (some .drw) => true
  | _ => false) := (rfl)
@[simp] theorem e_callM (fn : MFn) (k : Nat) (fa : DDs) (s : Sx) : dCallM fn k fa s = if isDrw s k = true then (fa s).bind fun ds s1 => match fn s1.m ds with
  | .ok d m' => .ok (.dat d) { s1 with m := m' }
  | _ => .bad else .bad := (rfl)
@[simp] theorem e_popAt (k : Nat) (fi : DE) (s : Sx) : dPopAt k fi s = (match ownAt s k with
  | none => .bad
  | some _ => (fi s).bind fun r s1 => match ownAt s1 k, asInt r s1 with
    | some ds, some i => if 0 ≤ i ∧ i < 1000000 then (match ds[i.toNat]? with
      | some d => .ok (.dat d) (setOwn s1 k (ds.eraseIdx i.toNat))
      | none => .bad) else .bad
    | _, _ => .bad) := (rfl)
@[simp] theorem e_app (k : Nat) (f : DD) (s : Sx) : sApp k f s = (match ownAt s k with
  | none => .bad
  | some _ => (f s).toS fun d s1 => match ownAt s1 k with
    | some ds => if ds.length < 1000000 then .nx (setOwn s1 k (ds ++ [d])) else .bad
    | none => .bad) := (rfl)
@[simp] theorem e_setI (k : Nat) (fi : DE) (fe : DD) (s : Sx) : sSetI k fi fe s = (fe s).toS fun d s1 => match ownAt s1 k with
  | none => .bad
  | some _ => (fi s1).toS fun r s2 => VL.putAt k d r s2 := (rfl)
@[simp] theorem e_asg (f : DD) (g : Tg) (s : Sx) : sAsg f g s = (f s).toS fun d s1 => match g d s1 with | some s2 => .nx s2 | none => .bad := (rfl)
@[simp] theorem e_gN (i : Nat) (d : PyData) (s : Sx) : VL.gN i d s = some { s with g := s.g.set i (some (.dat d)) } := (rfl)
@[simp] theorem e_gTup (n : Nat) (f : Tgs) (ds : List PyData) (s : Sx) : gTup0 n f (.tuple ds) s = if ds.length = n then f ds s else none := (rfl)
@[simp] theorem e_gCons (f : Tg) (g : Tgs) (d : PyData) (r : List PyData) (s : Sx) : gCons0 f g (d :: r) s = (f d s).bind (g r) := (rfl)
@[simp] theorem e_gNil (s : Sx) : gNil0 [] s = some s := (rfl)
theorem lawD_ok {fb : List PyData → Option DS} {nN : Nat} {den : DSt} {d : PyData} {m : DS} (e : fb [d] = some m) (h : Wp (den (startL nN m d)) (fun _ => False) (fun r _ => r = .bool true)) : lawD fb nN den [d] = some (.bool true) := by
  unfold lawD
  simp only
  rw [e]
  simp only
  generalize den (startL nN m d) = o at h
  cases h with
  | nx h => exact h.elim
  | rt h => exact congrArg some h
end VL

namespace VL
open PySem PySem.Spec PyProof.Rows L2
/-! ### comprehensions with two clauses -/
def lc2A (vs vs1 : List Nat) (tgt : Tg) (test : DT) (it1 : DDs) (tgt1 : Tg) (test1 : DT) (elt : DD) (acc : List PyData) : List PyData → Sx → Out (List PyData)
  | [], s => .ok acc s
  | d :: r, s => match tgt d s with
    | none => .bad
    | some s1 => (test s1).nox.bind fun b s2 => if b = true then
        (it1 s2).nox.bind fun es s3 => (lcA vs1 tgt1 test1 elt acc es (wipeX vs1 s3)).bind fun acc' s4 => lc2A vs vs1 tgt test it1 tgt1 test1 elt acc' r (wipeX vs s4)
      else lc2A vs vs1 tgt test it1 tgt1 test1 elt acc r (wipeX vs s2)
def dLc2 (vs vs1 : List Nat) (it : DDs) (tgt : Tg) (test : DT) (it1 : DDs) (tgt1 : Tg) (test1 : DT) (elt : DD) : DE := fun s => (it s).bind fun ds s1 =>
  if noOwn vs s1 = true then (lc2A vs vs1 tgt test it1 tgt1 test1 elt [] ds (wipeX vs s1)).bind fun es s2 => .ok (.tmp es) (backX vs s1 s2) else .bad
theorem wipe_sub {σ : L2.St} {vs vs1 : List Nat} (h : ∀ i ∈ vs1, i ∈ vs) : wipe (wipe σ vs1) vs = wipe σ vs := by
  apply List.ext_getElem?
  intro i
  by_cases hl : i < σ.length
  · by_cases hi : i ∈ vs
    · rw [wipe_in hi (by rw [wipe_length]; exact hl), wipe_in hi hl]
    · rw [wipe_out hi, wipe_out (fun z => hi (h i z)), wipe_out hi]
  · rw [List.getElem?_eq_none (by rw [wipe_length, wipe_length]; omega), List.getElem?_eq_none (by rw [wipe_length]; omega)]
section
variable {X : Cx} {C : Ct X.K} {pos : Pos} {elt tg iter tg1 iter1 : Expr} {ifs ifs1 : List Expr} {scope : Scope} {own : List (Str × Nat)} {it it1 : DDs} {g g1 : Tg} {tt tt1 : DT} {te : DD} {ts ts1 : List Nat}
abbrev tI {K : PySem.W.Frag} (C : Ct K) (it : DDs) : TI := fun σ H R => ∃ O F s, VS C O F s σ H ∧ Rd0 C σ O F H (it s) fun ds _ _ F' H' => ∀ J, Yld K F' J ds → R J H'
theorem tLc2_of {σ : L2.St} {H : Hp} {Q : VK} {vs vs1 : List Nat} (hv : ∀ i ∈ vs1, i ∈ vs) (hts : ∀ t ∈ ts, t ∈ vs) (hts1 : ∀ t ∈ ts1, t ∈ vs1) (h : tE C (dLc2 vs vs1 it g tt it1 g1 tt1 te) σ H Q) :
    tLc2 (tI C it) (tG C.nox ts g) (tT C.nox tt) (tI C.nox it1) (tG C.nox ts1 g1) (tT C.nox tt1) (tD C.nox te) vs vs1 σ H Q := by
  obtain ⟨O, F, s, v, h⟩ := h
  refine ⟨O, F, s, v, Rd0.bind h Tr.refl fun ds s1 O1 F1 H1 v1 t1 h1 J hJ => ?_⟩
  intro D hD
  split at h1
  case isFalse => exact h1.elim
  rename_i hown
  obtain ⟨v2, t2⟩ := v1.fresh (.lst []) hD
  refine ⟨fun i m H' => i + m = ds.length ∧ ∃ O' F' s' acc xs, VS C O' F' s' (wipe σ vs) H' ∧ Tr O1 F1 H1 O' F' H' ∧ H' D = some (.lst xs) ∧ F' D = none ∧ O' D = none ∧ DtAll X.K F' xs acc ∧
      RdE C σ O F H ((lc2A vs vs1 g tt it1 g1 tt1 te acc (ds.drop i) s').bind fun es s2 => .ok (.tmp es) (backX vs s1 s2)) Q,
    ⟨ds.length, by omega, O1, F1, wipeX vs s1, [], [], v2.wipe vs, t2, upd_same, v1.fh.free hD, v1.ofree hD, .nil, h1⟩, fun i m H' hW => ?_⟩
  obtain ⟨hm, O', F', s', acc, xs, v', t', e1, e2, e3, e4, hr⟩ := hW
  have t0 : Tr O1 F1 H1 O' F' H' := t'
  obtain ⟨j1, j2⟩ := hJ i H' (t'.ff.trans v'.fh)
  have h0 : C.H0 D = none := v1.hh.free hD
  by_cases hi : ds.length ≤ i
  · refine .inl ⟨j1 (by omega), ?_⟩
    rw [List.drop_eq_nil_of_le hi] at hr
    exact hr O' F' H' (v1.back v' t0 hown) (t1.trans t0) (.ref D) ⟨D, xs, rfl, e1, e2, h0, e3, e4⟩ (fun p hp => by cases hp; exact t1.back (.inl hD))
  · have hlt : i < ds.length := by omega
    obtain ⟨d, hd⟩ : ∃ d, ds[i]? = some d := ⟨ds[i], List.getElem?_eq_getElem hlt⟩
    have hdr : ds.drop i = d :: ds.drop (i + 1) := by
      rw [List.drop_eq_getElem_cons hlt]
      rw [List.getElem?_eq_getElem hlt] at hd
      cases hd
      rfl
    obtain ⟨jg, jy⟩ := j2 d hd
    rw [hdr] at hr
    simp only [lc2A] at hr
    refine .inr ⟨jg, fun H2 => ∃ O2 F2 s2 acc xs, VS C O2 F2 s2 (wipe σ vs) H2 ∧ Tr O1 F1 H1 O2 F2 H2 ∧ H2 D = some (.lst xs) ∧ F2 D = none ∧ O2 D = none ∧ DtAll X.K F2 xs acc ∧
      RdE C σ O F H ((lc2A vs vs1 g tt it1 g1 tt1 te acc (ds.drop (i + 1)) s2).bind fun es s2 => .ok (.tmp es) (backX vs s1 s2)) Q, fun H2 ⟨O2, F2, s2, acc2, xs2, q⟩ => ⟨m - 1, by omega, by omega, O2, F2, s2, acc2, xs2, q⟩, fun x H2 hy => ?_⟩
    have key : ∃ F2, VS C O' F2 s' (wipe σ vs) H2 ∧ Tr O' F' H' O' F2 H2 ∧ Dt X.K F2 x d := by
      rcases jy x H2 hy with ⟨rfl, hx⟩ | ⟨T, ys, es, rfl, hT, rfl, rfl, hx⟩
      · exact ⟨F', v', Tr.refl, hx.mono t'.ff⟩
      · obtain ⟨w1, w2⟩ := v'.laid (.tup ys) hT
        exact ⟨_, w1, w2, .tup upd_same (hx.mono (t'.ff.trans w2.ff))⟩
    obtain ⟨F2, w2, u2, hx⟩ := key
    cases eg : g d s' with
    | none => rw [eg] at hr; exact hr.elim
    | some s2 =>
      rw [eg] at hr
      refine ⟨O', F2, s', d, s2, w2.nox, hx, eg, fun σ3 v3 off => ⟨wipe_eq off hts, ?_⟩⟩
      have we := wipe_eq off hts
      refine ⟨O', F2, s2, v3, ?_⟩
      have hr1 : RdE C σ O F H (((tt s2).nox.bind fun b s2 => if b = true then
        (it1 s2).nox.bind fun es s3 => (lcA vs1 g1 tt1 te acc es (wipeX vs1 s3)).bind fun acc' s4 => lc2A vs vs1 g tt it1 g1 tt1 te acc' (ds.drop (i + 1)) (wipeX vs s4)
        else lc2A vs vs1 g tt it1 g1 tt1 te acc (ds.drop (i + 1)) (wipeX vs s2)).bind fun es s2 => .ok (.tmp es) (backX vs s1 s2)) Q := hr
      rw [Out.bind_assoc] at hr1
      refine Rd0.noxI hr1 fun b s3 O3 F3 H3 v3 u3 hr2 => ?_
      have td : Tr O' F' H' O3 F3 H3 := u2.trans u3
      obtain ⟨d1, d2, d3⟩ := td.tmp e1 e2 e3
      cases b with
      | false =>
        refine ⟨O3, F3, wipeX vs s3, acc, xs, ?_, t'.trans td, d1, d2, d3, e4.mono td.ff, hr2⟩
        exact VS.wiped v3 we
      | true =>
        refine ⟨O3, F3, s3, v3.nox, ?_⟩
        have hr3 : RdE C σ O F H (((it1 s3).nox.bind fun es s3 => (lcA vs1 g1 tt1 te acc es (wipeX vs1 s3)).bind fun acc' s4 => lc2A vs vs1 g tt it1 g1 tt1 te acc' (ds.drop (i + 1)) (wipeX vs s4)).bind fun es s2 => .ok (.tmp es) (backX vs s1 s2)) Q := hr2
        rw [Out.bind_assoc] at hr3
        refine Rd0.noxI hr3 fun es s4 O4 F4 H4 v4 u4 hr4 J1 hJ1 => ?_
        rw [Out.bind_assoc] at hr4
        have ti : Tr O1 F1 H1 O4 F4 H4 := t'.trans (td.trans u4)
        obtain ⟨d1, d2, d3⟩ := (td.trans u4).tmp e1 e2 e3
        refine ⟨fun j k H' => j + k = es.length ∧ ∃ O' F' s' acc xs, VS C O' F' s' (wipe σ3 vs1) H' ∧ Same F4 F' ∧ Tr O1 F1 H1 O' F' H' ∧ H' D = some (.lst xs) ∧ F' D = none ∧ O' D = none ∧ DtAll X.K F' xs acc ∧
            RdE C σ O F H ((lcA vs1 g1 tt1 te acc (es.drop j) s').bind fun acc' s4 => (lc2A vs vs1 g tt it1 g1 tt1 te acc' (ds.drop (i + 1)) (wipeX vs s4)).bind fun es s2 => .ok (.tmp es) (backX vs s1 s2)) Q,
          ⟨es.length, by omega, O4, F4, wipeX vs1 s4, acc, xs, v4.wipe vs1, Same.refl _, ti, d1, d2, d3, e4.mono (td.trans u4).ff, hr4⟩, fun j k H5 hW1 => ?_⟩
        obtain ⟨hm1, O5, F5, s5, acc5, xs5, v5, t45, t5, f1, f2, f3, f4, hr5⟩ := hW1
        obtain ⟨k1, k2⟩ := hJ1 j H5 (t45.trans v5.fh)
        by_cases hj : es.length ≤ j
        · refine .inl ⟨k1 (by omega), ?_⟩
          rw [List.drop_eq_nil_of_le hj] at hr5
          have we2 : wipe (wipe σ3 vs1) vs = wipe σ vs := (wipe_sub hv).trans we
          exact ⟨O5, F5, wipeX vs s5, acc5, xs5, VS.wiped v5 we2, t5, f1, f2, f3, f4, hr5⟩
        · have hlj : j < es.length := by omega
          obtain ⟨e, he⟩ : ∃ e, es[j]? = some e := ⟨es[j], List.getElem?_eq_getElem hlj⟩
          have hdr1 : es.drop j = e :: es.drop (j + 1) := by
            rw [List.drop_eq_getElem_cons hlj]
            rw [List.getElem?_eq_getElem hlj] at he
            cases he
            rfl
          obtain ⟨jg1, jy1⟩ := k2 e he
          rw [hdr1] at hr5
          simp only [lcA] at hr5
          refine .inr ⟨jg1, fun H2 => ∃ O2 F2 s2 acc xs, VS C O2 F2 s2 (wipe σ3 vs1) H2 ∧ Same F4 F2 ∧ Tr O1 F1 H1 O2 F2 H2 ∧ H2 D = some (.lst xs) ∧ F2 D = none ∧ O2 D = none ∧ DtAll X.K F2 xs acc ∧
            RdE C σ O F H ((lcA vs1 g1 tt1 te acc (es.drop (j + 1)) s2).bind fun acc' s4 => (lc2A vs vs1 g tt it1 g1 tt1 te acc' (ds.drop (i + 1)) (wipeX vs s4)).bind fun es s2 => .ok (.tmp es) (backX vs s1 s2)) Q,
            fun H2 ⟨O2, F2, s2, acc2, xs2, q⟩ => ⟨k - 1, by omega, by omega, O2, F2, s2, acc2, xs2, q⟩, fun x H6 hy => ?_⟩
          have key : ∃ F6, VS C O5 F6 s5 (wipe σ3 vs1) H6 ∧ Tr O5 F5 H5 O5 F6 H6 ∧ Dt X.K F6 x e := by
            rcases jy1 x H6 hy with ⟨rfl, hx⟩ | ⟨T, ys, es, rfl, hT, rfl, rfl, hx⟩
            · exact ⟨F5, v5, Tr.refl, hx.mono t45⟩
            · obtain ⟨w1, w2⟩ := v5.laid (.tup ys) hT
              exact ⟨_, w1, w2, .tup upd_same (hx.mono (t45.trans w2.ff))⟩
          obtain ⟨F6, w6, u6, hx6⟩ := key
          cases eg1 : g1 e s5 with
          | none => rw [eg1] at hr5; exact hr5.elim
          | some s6 =>
            rw [eg1] at hr5
            refine ⟨O5, F6, s5, e, s6, w6.nox, hx6, eg1, fun σ7 v7 off1 => ⟨wipe_eq off1 hts1, ?_⟩⟩
            have we1 := wipe_eq off1 hts1
            refine ⟨O5, F6, s6, v7, ?_⟩
            have hr6 : RdE C σ O F H (((tt1 s6).nox.bind fun b s2 => if b = true then
              (te s2).nox.bind fun e s3 => if acc5.length < 1000000 then lcA vs1 g1 tt1 te (acc5 ++ [e]) (es.drop (j + 1)) (wipeX vs1 s3) else .bad
              else lcA vs1 g1 tt1 te acc5 (es.drop (j + 1)) (wipeX vs1 s2)).bind fun acc' s4 => (lc2A vs vs1 g tt it1 g1 tt1 te acc' (ds.drop (i + 1)) (wipeX vs s4)).bind fun es s2 => .ok (.tmp es) (backX vs s1 s2)) Q := hr5
            rw [Out.bind_assoc] at hr6
            refine Rd0.noxI hr6 fun b s7 O7 F7 H7 v7 u7 hr7 => ?_
            have td7 : Tr O5 F5 H5 O7 F7 H7 := u6.trans u7
            obtain ⟨g1', g2', g3'⟩ := td7.tmp f1 f2 f3
            cases b with
            | false =>
              exact ⟨O7, F7, wipeX vs1 s7, acc5, xs5, VS.wiped v7 we1, t45.trans td7.ff, t5.trans td7, g1', g2', g3', f4.mono td7.ff, hr7⟩
            | true =>
              refine ⟨O7, F7, s7, v7.nox, ?_⟩
              have hr8 : RdE C σ O F H (((te s7).nox.bind fun e s3 => if acc5.length < 1000000 then lcA vs1 g1 tt1 te (acc5 ++ [e]) (es.drop (j + 1)) (wipeX vs1 s3) else .bad).bind fun acc' s4 => (lc2A vs vs1 g tt it1 g1 tt1 te acc' (ds.drop (i + 1)) (wipeX vs s4)).bind fun es s2 => .ok (.tmp es) (backX vs s1 s2)) Q := hr7
              rw [Out.bind_assoc] at hr8
              refine Rd0.noxI hr8 fun e s8 O8 F8 H8 v8 u8 hr9 y hy => ?_
              have te' : Tr O5 F5 H5 O8 F8 H8 := td7.trans u8
              obtain ⟨d1, d2, d3⟩ := te'.tmp f1 f2 f3
              split at hr9
              case isFalse => exact hr9.elim
              rename_i hz
              have hlen := f4.len
              refine ⟨xs5, d1, by rw [hlen]; exact Nat.lt_of_lt_of_le hz (by decide), ?_⟩
              refine ⟨O8, F8, wipeX vs1 s8, acc5 ++ [e], xs5 ++ [y], VS.wiped (v8.wtmp d1 d2 h0 d3) we1, t45.trans te'.ff, ?_, upd_same, d2, d3, (f4.mono te'.ff).app (.one hy), hr9⟩
              exact (t5.trans te').wr hD
theorem ve_lc2 {vs1 : List Nat} (hc : X.calm = true) (hN : X.N.Nodup) (hi : VI X C tg iter it) (ok : BlkOk X.N X.env.scope scope own) (hv : ∀ i ∈ vs1, i ∈ own.map (·.2)) (hts : ∀ t ∈ ts, t ∈ own.map (·.2)) (hts1 : ∀ t ∈ ts1, t ∈ vs1)
    (hg : ∀ (s : Shared) (H : Hp) (D : Addr) (cl : List (Str × Addr)) (fp : List Addr), VG (X.blk s H scope (compEnvC scope cl D X.env) fp) C.nox tg ts g)
    (ht : ∀ (s : Shared) (H : Hp) (D : Addr) (cl : List (Str × Addr)) (fp : List Addr), VTs (X.blk s H scope (compEnvC scope cl D X.env) fp) C.nox ifs tt)
    (hi1 : ∀ (s : Shared) (H : Hp) (D : Addr) (cl : List (Str × Addr)) (fp : List Addr), VI (X.blk s H scope (compEnvC scope cl D X.env) fp) C.nox tg1 iter1 it1)
    (hg1 : ∀ (s : Shared) (H : Hp) (D : Addr) (cl : List (Str × Addr)) (fp : List Addr), VG (X.blk s H scope (compEnvC scope cl D X.env) fp) C.nox tg1 ts1 g1)
    (ht1 : ∀ (s : Shared) (H : Hp) (D : Addr) (cl : List (Str × Addr)) (fp : List Addr), VTs (X.blk s H scope (compEnvC scope cl D X.env) fp) C.nox ifs1 tt1)
    (he : ∀ (s : Shared) (H : Hp) (D : Addr) (cl : List (Str × Addr)) (fp : List Addr), VD (X.blk s H scope (compEnvC scope cl D X.env) fp) C.nox elt te)
    (hs : ∀ x, foldedSetIterable iter X.env x = pure x := by intro _; rfl) (hs1 : ∀ env x, foldedSetIterable iter1 env x = pure x := by intro _ _; rfl) :
    VE X C (.ListComp elt [⟨tg, iter, ifs, 0⟩, ⟨tg1, iter1, ifs1, 0⟩] scope pos) (dLc2 (own.map (·.2)) vs1 it g tt it1 g1 tt1 te) :=
  ⟨peI (pe_lc2 (te := tD (K := X.K) C.nox te) (g := tG (K := X.K) C.nox ts g) (tt := tT (K := X.K) C.nox tt) (wi1 := tI (K := X.K) C.nox it1) (g1 := tG (K := X.K) C.nox ts1 g1) (tt1 := tT (K := X.K) C.nox tt1) hc hN hi.run ok hv (fun s H D cl fp => (hg s H D cl fp).run) (fun s H D cl fp => (ht s H D cl fp).run)
    (fun s H D cl fp => (hi1 s H D cl fp).run) (fun s H D cl fp => (hg1 s H D cl fp).run) (fun s H D cl fp => (ht1 s H D cl fp).run) (fun s H D cl fp => (he s H D cl fp).run) hs hs1) fun _ _ _ h => tLc2_of hv hts hts1 h⟩
theorem vs_setLc2 {i : Nat} {y : Str} {py spos : Pos} {vs1 : List Nat} (hc : X.calm = true) (hN : X.N.Nodup) (hi : VI X C tg iter it) (ok : BlkOk X.N X.env.scope scope own) (hv : ∀ i ∈ vs1, i ∈ own.map (·.2)) (hts : ∀ t ∈ ts, t ∈ own.map (·.2)) (hts1 : ∀ t ∈ ts1, t ∈ vs1)
    (hg : ∀ (s : Shared) (H : Hp) (D : Addr) (cl : List (Str × Addr)) (fp : List Addr), VG (X.blk s H scope (compEnvC scope cl D X.env) fp) C.nox tg ts g)
    (ht : ∀ (s : Shared) (H : Hp) (D : Addr) (cl : List (Str × Addr)) (fp : List Addr), VTs (X.blk s H scope (compEnvC scope cl D X.env) fp) C.nox ifs tt)
    (hi1 : ∀ (s : Shared) (H : Hp) (D : Addr) (cl : List (Str × Addr)) (fp : List Addr), VI (X.blk s H scope (compEnvC scope cl D X.env) fp) C.nox tg1 iter1 it1)
    (hg1 : ∀ (s : Shared) (H : Hp) (D : Addr) (cl : List (Str × Addr)) (fp : List Addr), VG (X.blk s H scope (compEnvC scope cl D X.env) fp) C.nox tg1 ts1 g1)
    (ht1 : ∀ (s : Shared) (H : Hp) (D : Addr) (cl : List (Str × Addr)) (fp : List Addr), VTs (X.blk s H scope (compEnvC scope cl D X.env) fp) C.nox ifs1 tt1)
    (he : ∀ (s : Shared) (H : Hp) (D : Addr) (cl : List (Str × Addr)) (fp : List Addr), VD (X.blk s H scope (compEnvC scope cl D X.env) fp) C.nox elt te)
    (hy : X.N[i]? = some y := by rfl) (hyl : X.env.scope.names.lookup y = some .local := by rfl) (hsw : swapsWith (.ListComp elt [⟨tg, iter, ifs, 0⟩, ⟨tg1, iter1, ifs1, 0⟩] scope pos) (some (.Name y py)) spos.line X.env = pure true := by exact sw_true rfl rfl rfl (by decide +kernel))
    (hs : ∀ x, foldedSetIterable iter X.env x = pure x := by intro _; rfl) (hs1 : ∀ env x, foldedSetIterable iter1 env x = pure x := by intro _ _; rfl) :
    VSt X C (.Assign [.Name y py] (.ListComp elt [⟨tg, iter, ifs, 0⟩, ⟨tg1, iter1, ifs1, 0⟩] scope pos) spos) (sSet i (dLc2 (own.map (·.2)) vs1 it g tt it1 g1 tt1 te)) := by
  refine ⟨psI (ps_setLc2 (te := tD (K := X.K) C.nox te) (g := tG (K := X.K) C.nox ts g) (tt := tT (K := X.K) C.nox tt) (wi1 := tI (K := X.K) C.nox it1) (g1 := tG (K := X.K) C.nox ts1 g1) (tt1 := tT (K := X.K) C.nox tt1) hc hN hy hyl hsw hi.run ok hv (fun s H D cl fp => (hg s H D cl fp).run) (fun s H D cl fp => (ht s H D cl fp).run)
    (fun s H D cl fp => (hi1 s H D cl fp).run) (fun s H D cl fp => (hg1 s H D cl fp).run) (fun s H D cl fp => (ht1 s H D cl fp).run) (fun s H D cl fp => (he s H D cl fp).run) hs hs1) fun D σ H ⟨O, F, s, v, h⟩ => ?_⟩
  refine tLc2_of (C := C) (Q := fun x H1 => D.nx (σ.set i (some x)) H1) hv hts hts1 ⟨O, F, s, v, RdS.bind h Tr.refl fun r s1 O1 F1 H1 v1 t1 h1 x hx hf => putR_ok h1 t1 v1 hx hf⟩
end
end VL

namespace VL
open PySem PySem.Spec PyProof.Rows L2
/-! ### the order of data: ints, tuples -/
mutual
def cmpD : PyData → PyData → Ordering
  | .int i, .int j => if i < j then .lt else if j < i then .gt else .eq
  | .tuple xs, .tuple ys => cmpL xs ys
  | .int _, _ => .lt
  | .tuple _, .int _ => .gt
  | .tuple _, _ => .lt
  | _, .int _ => .gt
  | _, .tuple _ => .gt
  | _, _ => .eq
def cmpL : List PyData → List PyData → Ordering
  | [], [] => .eq
  | [], _ :: _ => .lt
  | _ :: _, [] => .gt
  | x :: xs, y :: ys => (cmpD x y).then (cmpL xs ys)
end
def rk : PyData → Nat
  | .int _ => 0
  | .tuple _ => 1
  | _ => 2
theorem cmpD_rk {x y : PyData} (h : rk x ≠ rk y) : cmpD x y = if rk x < rk y then .lt else .gt := by
  cases x <;> cases y <;> first | rfl | (exfalso; exact h rfl)
theorem cmpD_two {x y : PyData} (h : rk x = 2) (h' : rk y = 2) : cmpD x y = .eq := by
  cases x <;> cases y <;> first | rfl | (exfalso; simp [rk] at h; done) | (exfalso; simp [rk] at h'; done)
theorem cmpD_int (i j : Int) : cmpD (.int i) (.int j) = if i < j then .lt else if j < i then .gt else .eq := rfl
theorem cmpD_tup (xs ys : List PyData) : cmpD (.tuple xs) (.tuple ys) = cmpL xs ys := rfl
theorem cmpL_cons (x y : PyData) (xs ys : List PyData) : cmpL (x :: xs) (y :: ys) = (cmpD x y).then (cmpL xs ys) := rfl
theorem rk_cases (x : PyData) : (∃ i, x = .int i) ∨ (∃ xs, x = .tuple xs) ∨ rk x = 2 := by
  cases x <;> first | exact .inl ⟨_, rfl⟩ | exact .inr (.inl ⟨_, rfl⟩) | exact .inr (.inr rfl)
/-- three comparisons go together -/
structure Tri (a b c : Ordering) : Prop where
  eq : a = .eq → c = b
  lt : a = .lt → b ≠ .gt → c = .lt
  gt : a = .gt → b ≠ .lt → c = .gt
theorem Tri.then {a b c a' b' c' : Ordering} (h : Tri a b c) (h' : Tri a' b' c') : Tri (a.then a') (b.then b') (c.then c') := by
  obtain ⟨h1, h2, h3⟩ := h
  obtain ⟨k1, k2, k3⟩ := h'
  refine ⟨?_, ?_, ?_⟩
  · cases a <;> cases b <;> cases c <;> simp_all [Ordering.then]
  · cases a <;> cases b <;> cases c <;> simp_all [Ordering.then]
  · cases a <;> cases b <;> cases c <;> simp_all [Ordering.then]
mutual
theorem triD : ∀ x y z : PyData, Tri (cmpD x y) (cmpD y z) (cmpD x z)
  | x, y, z => by
    by_cases h1 : rk x = rk y
    · by_cases h2 : rk y = rk z
      · rcases rk_cases x with ⟨i, rfl⟩ | ⟨xs, rfl⟩ | hx
        · rcases rk_cases y with ⟨j, rfl⟩ | ⟨ys, rfl⟩ | hy
          · rcases rk_cases z with ⟨k, rfl⟩ | ⟨zs, rfl⟩ | hz
            · rw [cmpD_int, cmpD_int, cmpD_int]
              refine ⟨fun e => ?_, fun e e' => ?_, fun e e' => ?_⟩ <;> (repeat' split at e) <;> (try (repeat' split at e')) <;> (repeat' split) <;> first | rfl | omega | contradiction
            · cases h2
            · rw [hz] at h2; cases h2
          · cases h1
          · rw [hy] at h1; cases h1
        · rcases rk_cases y with ⟨j, rfl⟩ | ⟨ys, rfl⟩ | hy
          · cases h1
          · rcases rk_cases z with ⟨k, rfl⟩ | ⟨zs, rfl⟩ | hz
            · cases h2
            · exact triL xs ys zs
            · rw [hz] at h2; cases h2
          · rw [hy] at h1; cases h1
        · rw [cmpD_two hx (h1.symm.trans hx), cmpD_two (h1.symm.trans hx) (h2.symm.trans (h1.symm.trans hx)), cmpD_two hx (h2.symm.trans (h1.symm.trans hx))]
          exact ⟨fun _ => rfl, (by intro e; cases e), (by intro e; cases e)⟩
      · have h3 : rk x ≠ rk z := by rw [h1]; exact h2
        rw [cmpD_rk h2, cmpD_rk h3, h1]
        refine ⟨fun _ => rfl, fun e e' => ?_, fun e e' => ?_⟩
        · split at e' <;> first | (rw [if_pos (by assumption)]) | (exact absurd rfl e')
        · split at e' <;> first | (exact absurd rfl e') | (rw [if_neg (by assumption)])
    · rw [cmpD_rk h1]
      by_cases h2 : rk y = rk z
      · have h3 : rk x ≠ rk z := by rw [← h2]; exact h1
        rw [cmpD_rk h3, h2]
        refine ⟨fun e => ?_, fun e e' => e, fun e e' => e⟩
        split at e <;> cases e
      · rw [cmpD_rk h2]
        refine ⟨fun e => ?_, fun e e' => ?_, fun e e' => ?_⟩
        · split at e <;> cases e
        · have a : rk x < rk y := by split at e <;> first | assumption | cases e
          have b : rk y < rk z := by
            by_cases q : rk y < rk z
            · exact q
            · rw [if_neg q] at e'; exact absurd rfl e'
          rw [cmpD_rk (by omega), if_pos (by omega)]
        · have a : rk y < rk x := by
            by_cases q : rk x < rk y
            · rw [if_pos q] at e; cases e
            · omega
          have b : rk z < rk y := by
            by_cases q : rk y < rk z
            · rw [if_pos q] at e'; exact absurd rfl e'
            · omega
          rw [cmpD_rk (by omega), if_neg (by omega)]
theorem triL : ∀ xs ys zs : List PyData, Tri (cmpL xs ys) (cmpL ys zs) (cmpL xs zs)
  | [], [], [] => ⟨fun _ => rfl, (by intro e; cases e), (by intro e; cases e)⟩
  | [], [], _ :: _ => ⟨fun _ => rfl, (by intro e; cases e), (by intro e; cases e)⟩
  | [], _ :: _, [] => ⟨(by intro e; cases e), fun _ e => absurd rfl e, (by intro e; cases e)⟩
  | [], _ :: _, _ :: _ => ⟨(by intro e; cases e), fun _ _ => rfl, (by intro e; cases e)⟩
  | _ :: _, [], [] => ⟨(by intro e; cases e), (by intro e; cases e), fun _ _ => rfl⟩
  | _ :: _, [], _ :: _ => ⟨(by intro e; cases e), (by intro e; cases e), fun _ e => absurd rfl e⟩
  | _ :: _, _ :: _, [] => ⟨fun _ => rfl, fun _ e => absurd rfl e, fun _ _ => rfl⟩
  | x :: xs, y :: ys, z :: zs => (triD x y z).then (triL xs ys zs)
end
mutual
theorem cmpD_self : ∀ x : PyData, cmpD x x = .eq
  | .none => rfl
  | .bool _ => rfl
  | .int i => by rw [cmpD_int, if_neg (by omega), if_neg (by omega)]
  | .str _ => rfl
  | .list _ => rfl
  | .tuple xs => cmpL_self xs
  | .dict _ => rfl
theorem cmpL_self : ∀ xs : List PyData, cmpL xs xs = .eq
  | [] => rfl
  | x :: xs => by rw [cmpL_cons, cmpD_self x, cmpL_self xs]; rfl
end
def ltD (x y : PyData) : Bool := cmpD x y == .lt
theorem ltD_swo : SrtO.Swo ltD := by
  have lt_iff : ∀ x y, ltD x y = true ↔ cmpD x y = .lt := fun x y => by unfold ltD; cases cmpD x y <;> simp
  have nlt : ∀ x y, ltD x y = false ↔ cmpD x y ≠ .lt := fun x y => by unfold ltD; cases cmpD x y <;> simp
  refine ⟨fun x y h => ?_, fun x y z h1 h2 => ?_⟩
  · rw [nlt]
    intro e
    have := (triD x y x).lt ((lt_iff x y).mp h) (by rw [e]; exact fun z => nomatch z)
    rw [cmpD_self] at this
    cases this
  · rw [nlt] at *
    cases e : cmpD z y with
    | lt => exact absurd e h2
    | eq => rw [(triD z y x).eq e]; exact h1
    | gt => rw [(triD z y x).gt e h1]; exact fun z => nomatch z
end VL

namespace VL
open PySem PySem.Spec PyProof.Rows L2
mutual
def cmpb : PyData → PyData → Bool
  | .int _, .int _ => true
  | .tuple xs, .tuple ys => cmpbL xs ys
  | _, _ => false
def cmpbL : List PyData → List PyData → Bool
  | [], _ => true
  | _ :: _, [] => true
  | x :: xs, y :: ys => cmpb x y && cmpbL xs ys
end
theorem cmpb_cases {x y : PyData} (h : cmpb x y = true) : (∃ i j, x = .int i ∧ y = .int j) ∨ ∃ xs ys, x = .tuple xs ∧ y = .tuple ys ∧ cmpbL xs ys = true := by
  cases x <;> cases y <;> first | (exfalso; simp [cmpb] at h; done) | exact .inl ⟨_, _, rfl, rfl⟩ | exact .inr ⟨_, _, rfl, rfl, h⟩
mutual
theorem cmp_eqv : ∀ x y : PyData, cmpb x y = true → PyData.eqv x y = (cmpD x y == .eq)
  | x, y, h => by
    rcases cmpb_cases h with ⟨i, j, rfl, rfl⟩ | ⟨xs, ys, rfl, rfl, h⟩
    · rw [cmpD_int]
      show (i == j) = _
      by_cases h1 : i < j
      · rw [if_pos h1]
        have : i ≠ j := by omega
        simp [this]
      · rw [if_neg h1]
        by_cases h2 : j < i
        · rw [if_pos h2]
          have : i ≠ j := by omega
          simp [this]
        · rw [if_neg h2]
          have : i = j := by omega
          simp [this]
    · exact cmp_eqvL xs ys h
theorem cmp_eqvL : ∀ xs ys : List PyData, cmpbL xs ys = true → PyData.eqvAll xs ys = (cmpL xs ys == .eq)
  | [], [], _ => rfl
  | [], _ :: _, _ => rfl
  | _ :: _, [], _ => rfl
  | x :: xs, y :: ys, h => by
    have z : cmpb x y = true ∧ cmpbL xs ys = true := by simpa [cmpbL] using h
    show (PyData.eqv x y && PyData.eqvAll xs ys) = _
    rw [cmp_eqv x y z.1, cmp_eqvL xs ys z.2, cmpL_cons]
    cases cmpD x y <;> cases cmpL xs ys <;> rfl
end
mutual
theorem cmp_same : ∀ x y : PyData, cmpb x y = true → cmpD x y = .eq → x = y
  | x, y, h, e => by
    rcases cmpb_cases h with ⟨i, j, rfl, rfl⟩ | ⟨xs, ys, rfl, rfl, h⟩
    · rw [cmpD_int] at e
      split at e
      · cases e
      · split at e
        · cases e
        · rw [show i = j by omega]
    · rw [cmp_sameL xs ys h e]
theorem cmp_sameL : ∀ xs ys : List PyData, cmpbL xs ys = true → cmpL xs ys = .eq → xs = ys
  | [], [], _, _ => rfl
  | [], _ :: _, _, e => by cases e
  | _ :: _, [], _, e => by cases e
  | x :: xs, y :: ys, h, e => by
    have z : cmpb x y = true ∧ cmpbL xs ys = true := by simpa [cmpbL] using h
    rw [cmpL_cons] at e
    have e1 : cmpD x y = .eq := by cases q : cmpD x y <;> rw [q] at e <;> first | rfl | cases e
    rw [e1] at e
    rw [cmp_same x y z.1 e1, cmp_sameL xs ys z.2 e]
end
/-! ### sorting -/
def insD (x : PyData) : List PyData → List PyData
  | [] => [x]
  | y :: ys => if ltD y x = true then y :: insD x ys else x :: y :: ys
def sortD : List PyData → List PyData
  | [] => []
  | x :: xs => insD x (sortD xs)
theorem insD_perm (x : PyData) : ∀ ys : List PyData, (insD x ys).Perm (x :: ys)
  | [] => List.Perm.refl _
  | y :: ys => by
    unfold insD
    split
    · exact ((insD_perm x ys).cons y).trans (List.Perm.swap _ _ _)
    · exact List.Perm.refl _
theorem sortD_perm : ∀ xs : List PyData, (sortD xs).Perm xs
  | [] => List.Perm.refl _
  | x :: xs => (insD_perm x _).trans ((sortD_perm xs).cons x)
abbrev Rising (l : List PyData) : Prop := l.Pairwise fun x y => ltD y x = false
theorem insD_rising {x : PyData} : ∀ {ys : List PyData}, Rising ys → Rising (insD x ys)
  | [], _ => List.pairwise_singleton _ _
  | y :: ys, h => by
    obtain ⟨h1, h2⟩ := List.pairwise_cons.mp h
    unfold insD
    split
    · rename_i q
      refine List.pairwise_cons.mpr ⟨fun z hz => ?_, insD_rising h2⟩
      rcases List.mem_cons.mp ((insD_perm x ys).mem_iff.mp hz) with rfl | hz
      · exact ltD_swo.asym _ _ q
      · exact h1 z hz
    · rename_i q
      have q' : ltD y x = false := by cases e : ltD y x <;> first | rfl | exact absurd e q
      refine List.pairwise_cons.mpr ⟨fun z hz => ?_, h⟩
      rcases List.mem_cons.mp hz with rfl | hz
      · exact q'
      · exact ltD_swo.tr _ _ _ q' (h1 z hz)
theorem sortD_rising : ∀ xs : List PyData, Rising (sortD xs)
  | [] => List.Pairwise.nil
  | x :: xs => insD_rising (sortD_rising xs)
/-- a rising list of the same things is the same list -/
theorem rising_uniq : ∀ {l m : List PyData}, (∀ x ∈ l, ∀ y ∈ l, cmpb x y = true) → Rising l → Rising m → l.Perm m → l = m
  | [], m, _, _, _, p => by rw [List.nil_perm.mp p]
  | x :: l, m, hc, hl, hm, p => by
    cases m with
    | nil => exact absurd p.length_eq (by simp)
    | cons y m =>
      obtain ⟨l1, l2⟩ := List.pairwise_cons.mp hl
      obtain ⟨m1, m2⟩ := List.pairwise_cons.mp hm
      have hxy : x = y := by
        have a : y ∈ x :: l := p.mem_iff.mpr List.mem_cons_self
        have b : x ∈ y :: m := p.mem_iff.mp List.mem_cons_self
        rcases List.mem_cons.mp a with rfl | a
        · rfl
        rcases List.mem_cons.mp b with rfl | b
        · rfl
        have c1 := l1 y a
        have c2 := m1 x b
        refine cmp_same x y (hc x List.mem_cons_self y (List.mem_cons_of_mem _ a)) ?_
        have n1 : cmpD y x ≠ .lt := fun e => by unfold ltD at c1; rw [e] at c1; cases c1
        have n2 : cmpD x y ≠ .lt := fun e => by unfold ltD at c2; rw [e] at c2; cases c2
        cases e : cmpD x y with
        | eq => rfl
        | lt => exact absurd e n2
        | gt =>
          have := (triD x y x).gt e n1
          rw [cmpD_self] at this
          cases this
      subst hxy
      rw [rising_uniq (fun a ha b hb => hc a (List.mem_cons_of_mem _ ha) b (List.mem_cons_of_mem _ hb)) l2 m2 (List.Perm.cons_inv p)]
end VL

namespace VL
open PySem PySem.Spec PyProof.Rows L2
open PySem.W (alike alikeAll dataLt dataLe rowLt AllAlike Sortable EachIs keyToks keyToksAll)
mutual
theorem alike_cmpb : ∀ x y : PyData, cmpb x y = true → alike x y = true
  | x, y, h => by
    rcases cmpb_cases h with ⟨i, j, rfl, rfl⟩ | ⟨xs, ys, rfl, rfl, h⟩
    · rfl
    · exact alike_cmpbL xs ys h
theorem alike_cmpbL : ∀ xs ys : List PyData, cmpbL xs ys = true → alikeAll xs ys = true
  | [], _, _ => by simp [alikeAll]
  | _ :: _, [], _ => rfl
  | x :: xs, y :: ys, h => by
    have z : cmpb x y = true ∧ cmpbL xs ys = true := by simpa [cmpbL] using h
    show (alike x y && alikeAll xs ys) = true
    rw [alike_cmpb x y z.1, alike_cmpbL xs ys z.2]; rfl
end
theorem dataLt_int (i j : Int) : dataLt (.int i) (.int j) = decide (i < j) := by
  have h := congrFun (congrFun (PySem.W.dataLe_int (fun b : Int => b)) j) i
  rw [PySem.W.dataLe_eq] at h
  simp only [cond] at h
  have h2 : (!dataLt (.int i) (.int j)) = decide (j ≤ i) := h
  by_cases q : i < j
  · rw [decide_eq_false (by omega)] at h2
    rw [decide_eq_true q]
    simpa using h2
  · rw [decide_eq_true (by omega)] at h2
    rw [decide_eq_false q]
    simpa using h2
mutual
theorem dataLt_eq : ∀ x y : PyData, cmpb x y = true → dataLt x y = ltD x y
  | x, y, h => by
    rcases cmpb_cases h with ⟨i, j, rfl, rfl⟩ | ⟨xs, ys, rfl, rfl, h⟩
    · rw [dataLt_int]
      unfold ltD
      rw [cmpD_int]
      by_cases h1 : i < j
      · rw [if_pos h1]; simp [h1]
      · rw [if_neg h1]
        split <;> simp [h1]
    · exact rowLt_eq xs ys h
theorem rowLt_eq : ∀ xs ys : List PyData, cmpbL xs ys = true → rowLt xs ys = (cmpL xs ys == .lt)
  | [], [], _ => by decide
  | [], y :: ys, _ => by
    show PyProof.Rows.lexLt PyProof.Rows.itemOrd (Sum.inl 0 :: []) (Sum.inl 1 :: _) = true
    rw [PySem.W.lex_atom (by decide)]
    decide
  | x :: xs, [], _ => by
    show PyProof.Rows.lexLt PyProof.Rows.itemOrd (Sum.inl 1 :: _) (Sum.inl 0 :: []) = false
    rw [PySem.W.lex_atom (by decide)]
    decide
  | x :: xs, y :: ys, h => by
    have z : cmpb x y = true ∧ cmpbL xs ys = true := by simpa [cmpbL] using h
    show PyProof.Rows.lexLt PyProof.Rows.itemOrd (keyToksAll (x :: xs)) (keyToksAll (y :: ys)) = _
    rw [PySem.W.dataLt_cons (alike_cmpb x y z.1), cmpL_cons, cmp_eqv x y z.1, dataLt_eq x y z.1]
    have ih := rowLt_eq xs ys z.2
    unfold rowLt at ih
    unfold ltD
    cases e : cmpD x y with
    | eq => rw [if_pos (by rfl)]; exact ih
    | lt => rw [if_neg (by decide)]; rfl
    | gt => rw [if_neg (by decide)]; rfl
end
def isTupC : PyData → Bool
  | .tuple (_ :: _) => true
  | _ => false
def isIntD : PyData → Bool
  | .int _ => true
  | _ => false
def sortOk (ds : List PyData) : Bool := ds.all (fun d => ds.all (cmpb d)) && (ds.all isTupC || ds.all isIntD) && SeqAt.shaped (.list ds) && decide (ds.length ≤ 1000000)
def gSorted : List PyData → Option RV
  | [.list ds] => if sortOk ds = true then some (.tmp (sortD ds)) else none
  | _ => none
theorem sort_merge {ds : List PyData} (h : ∀ x ∈ ds, ∀ y ∈ ds, cmpb x y = true) : ds.mergeSort (dataLe false fun d => d) = sortD ds := by
  have T := PySem.W.sortLe_total (PyProof.Rows.listOrd PyProof.Rows.itemOrd) false (fun d : PyData => keyToks d)
  have p := List.mergeSort_perm ds (dataLe false fun d => d)
  refine rising_uniq (fun x hx y hy => h x (p.mem_iff.mp hx) y (p.mem_iff.mp hy)) ?_ (sortD_rising ds) (p.trans (sortD_perm ds).symm)
  have s := List.pairwise_mergeSort (le := dataLe false fun d : PyData => d) (fun a b c h1 h2 => T.trans a b c h1 h2) (fun a b => by simp only [Bool.or_eq_true]; exact T.total a b) ds
  refine List.Pairwise.imp_of_mem (fun {x y} hx hy hxy => ?_) s
  rw [PySem.W.dataLe_eq] at hxy
  simp only [cond] at hxy
  rw [dataLt_eq y x (h y (p.mem_iff.mp hy) x (p.mem_iff.mp hx))] at hxy
  simpa using hxy
theorem each_zip {xs : List V} {us : List Value} (h : Vals xs us) : ∀ {ds : List PyData}, xs.length = ds.length → EachIs (fun (v : Value) (b : PyData × V) => RelV b.2 v) us (ds.zip xs) := by
  induction h with
  | nil =>
    intro ds hl
    cases ds with
    | nil => exact .nil
    | cons a b => cases hl
  | cons r t ih =>
    intro ds hl
    cases ds with
    | nil => cases hl
    | cons a b => exact .cons r (ih (by simpa using hl))
theorem each_zipR {h : Heap} {us : List Value} : ∀ {ds : List PyData} {as : List Addr} {xs : List V}, ReadsAll h us ds as → xs.length = ds.length → EachIs (fun (v : Value) (b : PyData × V) => ∃ as, Reads h v b.1 as) us (ds.zip xs) := by
  induction us with
  | nil =>
    intro ds as xs r hl
    cases r
    exact .nil
  | cons u us ih =>
    intro ds as xs r hl
    cases r with
    | cons r1 r2 =>
      cases xs with
      | nil => cases hl
      | cons x xs => exact .cons ⟨_, r1⟩ (ih r2 (by simpa using hl))
theorem each_vals {out : List Value} {bs : List (PyData × V)} (h : EachIs (fun (v : Value) (b : PyData × V) => RelV b.2 v) out bs) : Vals (bs.map (·.2)) out := by
  induction h with
  | nil => exact .nil
  | cons r t ih => exact .cons r ih
theorem zip_fst : ∀ {ds : List PyData} {xs : List V}, xs.length = ds.length → (ds.zip xs).map (·.1) = ds
  | [], [], _ => rfl
  | [], _ :: _, h => by cases h
  | _ :: _, [], h => by cases h
  | d :: ds, x :: xs, h => by
    show d :: (ds.zip xs).map (·.1) = _
    rw [zip_fst (by simpa using h)]
theorem zip_dt {K : PySem.W.Frag} {F : Hp} : ∀ {ds : List PyData} {xs : List V}, DtAll K F xs ds → ∀ b ∈ ds.zip xs, Dt K F b.2 b.1
  | _, _, .nil, b, h => by cases h
  | _ :: _, _, .cons h t, b, hb => by
    rcases List.mem_cons.mp hb with rfl | hb
    · exact h
    · exact zip_dt t b hb
theorem dt_zip {K : PySem.W.Frag} {F : Hp} : ∀ {bs : List (PyData × V)}, (∀ b ∈ bs, Dt K F b.2 b.1) → DtAll K F (bs.map (·.2)) (bs.map (·.1))
  | [], _ => .nil
  | b :: bs, h => .cons (h b List.mem_cons_self) (dt_zip fun c hc => h c (List.mem_cons_of_mem _ hc))
theorem depth_mem : ∀ {ds : List PyData} {d : PyData}, d ∈ ds → d.depth ≤ PyData.depthAll ds
  | e :: ds, d, h => by
    show d.depth ≤ max e.depth (PyData.depthAll ds)
    rcases List.mem_cons.mp h with rfl | h
    · exact Nat.le_max_left _ _
    · exact Nat.le_trans (depth_mem h) (Nat.le_max_right _ _)
theorem c_sorted {X : Cx} {C : Ct X.K} (hu : X.A.units + 65 < cLine) : CallR X (.builtin "sorted") (rCall C gSorted) := by
  intro pins s σ H xs us Q I r ⟨σ', O0, F0, H0, O, F, st, ds, rv, vs, tr, bo, hg, rd⟩
  unfold gSorted at hg
  split at hg
  · rename_i ds
    split at hg
    · rename_i ho
      cases hg
      unfold sortOk at ho
      simp only [Bool.and_eq_true, Bool.or_eq_true, decide_eq_true_eq] at ho
      obtain ⟨⟨⟨h1, h2⟩, h3⟩, h4⟩ := ho
      have hc : ∀ x ∈ ds, ∀ y ∈ ds, cmpb x y = true := fun x hx y hy => List.all_eq_true.mp (List.all_eq_true.mp h1 x hx) y hy
      obtain ⟨x, rfl, b⟩ := boAll1 bo
      obtain ⟨p, zs, rfl, e1, d1⟩ := b.list vs.fh
      obtain ⟨its, rvz, hl, hz⟩ := I.list (.of e1)
      obtain ⟨u, rfl, ru⟩ := vals1 r
      obtain rfl : u = Value.ref p := ru
      have hlen : zs.length = ds.length := d1.len
      have hlay : PyData.canLayAll0 ds = true := SeqAt.canLay_of_shaped h3
      have hdep : PyData.depthAll ds + 1 ≤ 64 := SeqAt.depth_of_shaped h3
      obtain ⟨as, ra⟩ := Dp.readsAll I ds zs its ((d1.mono vs.fh).dp hlay) rvz
      have hal : AllAlike ((ds.zip zs).map (·.1)) := by
        rw [zip_fst hlen]
        exact fun d hd d' hd' => alike_cmpb _ _ (hc d hd d' hd')
      have hso : Sortable ((ds.zip zs).map (·.1)) := by
        rw [zip_fst hlen]
        rcases h2 with h2 | h2
        · refine .inl fun d hd => ?_
          have q := List.all_eq_true.mp h2 d hd
          cases d with
          | tuple ys =>
            cases ys with
            | nil => cases q
            | cons a b => exact ⟨a, b, rfl⟩
          | _ => cases q
        · refine .inr fun d hd => ?_
          have q := List.all_eq_true.mp h2 d hd
          cases d with
          | int i => exact ⟨(fun z => by cases z), (fun _ z => by cases z)⟩
          | _ => cases q
      refine PySem.W.sorted_data (R := fun (v : Value) (b : PyData × V) => RelV b.2 v) (enc := fun b : PyData × V => b.1) (bs := ds.zip zs) hl.isList (each_zip rvz hlen) (each_zipR ra hlen) hal hso (by simp [hlen]; exact Nat.le_trans h4 (by decide)) (fun b hb => ?_) (fun out ho he => ?_)
      · have hm : b.1 ∈ ds := by rw [← zip_fst hlen]; exact List.mem_map.mpr ⟨b, hb, rfl⟩
        have := depth_mem hm
        omega
      · have pm := List.mergeSort_perm (ds.zip zs) (dataLe false fun b : PyData × V => b.1)
        have es : ((ds.zip zs).mergeSort (dataLe false fun b : PyData × V => b.1)).map (·.1) = sortD ds := by
          rw [List.map_mergeSort (r := dataLe false fun b : PyData × V => b.1) (s := dataLe false fun d : PyData => d) (f := fun b : PyData × V => b.1) (l := ds.zip zs) (fun a _ b _ => rfl), zip_fst hlen, sort_merge hc]
        have hv := each_vals he
        have hd := dt_zip (bs := (ds.zip zs).mergeSort (dataLe false fun b : PyData × V => b.1)) fun b hb => zip_dt d1 b (pm.mem_iff.mp hb)
        rw [es] at hd
        obtain ⟨n, hn⟩ := sortedAll_at s.heap its (List.toArray out)
        have hfr : H (s.heap.objs.size + 1) = none := I.hok.fresh (Nat.le_succ _)
        refine ⟨.ref (s.heap.objs.size + 1), upd H (s.heap.objs.size + 1) (.lst (((ds.zip zs).mergeSort (dataLe false fun b : PyData × V => b.1)).map (·.2))), I.laid (t' := s.toks) (fun b o e => sortedAll_old e) (Nat.le_succ _) ⟨?_, out, n, hv, hn⟩, rfl, rd.tmpNew tr vs hfr hd⟩
        rw [List.length_map, List.length_mergeSort]
        simp [hlen]
        exact Nat.le_trans h4 (by decide)
    · cases hg
  · cases hg
end VL

namespace VL
open PySem PySem.Spec PyProof.Rows L2
/-! ### dicts of a slot's own, keys ints and texts -/
def keyOf : PyData → Option Key
  | .int i => some (.inl i)
  | .str x => some (.inr x)
  | _ => none
theorem keyOf_v {K : PySem.W.Frag} {F H : Hp} {v : V} {d : PyData} {k : Key} (b : Bo K F H v d) (e : keyOf d = some k) : v = kV k := by
  cases d with
  | int i => cases e; exact b.int
  | str x => cases e; exact b.str
  | _ => cases e
theorem keyD_dt {K : PySem.W.Frag} {F : Hp} (k : Key) : Dt K F (kV k) (keyD k) := by
  cases k with
  | inl i => exact .int i
  | inr x => exact .str x
section
variable {κ : Type} [DecidableEq κ]
def valD (kvs : List (κ × PyData)) (k : κ) : Option PyData := (kvs.find? fun kv => decide (kv.1 = k)).map (·.2)
def putKD (kvs : List (κ × PyData)) (k : κ) (d : PyData) : List (κ × PyData) :=
  if (kvs.any fun kv => decide (kv.1 = k)) = true then kvs.map (fun kv => if kv.1 = k then (kv.1, d) else kv) else kvs ++ [(k, d)]
theorem kv_len {K : PySem.W.Frag} {F : Hp} {ws : List (κ × V)} {kvs : List (κ × PyData)} (h : KvOk K F ws kvs) : ws.length = kvs.length := Paired.length h
theorem kv_val {K : PySem.W.Frag} {F : Hp} {ws : List (κ × V)} {kvs : List (κ × PyData)} {k : κ} (h : KvOk K F ws kvs) : (∃ v d, valV ws k = some v ∧ valD kvs k = some d ∧ Dt K F v d) ∨ (valV ws k = none ∧ valD kvs k = none) := by
  induction h with
  | nil => exact .inr ⟨rfl, rfl⟩
  | @cons p q ps qs r t ih =>
    by_cases e : p.1 = k
    · refine .inl ⟨p.2, q.2, valV_pos e, ?_, r.2⟩
      have e' : q.1 = k := r.1 ▸ e
      simp [valD, List.find?_cons, e']
    · have e' : ¬ q.1 = k := r.1 ▸ e
      have h2 : valD (q :: qs) k = valD qs k := by simp [valD, List.find?_cons, e']
      rw [valV_neg e, h2]
      exact ih
theorem kv_any {K : PySem.W.Frag} {F : Hp} {ws : List (κ × V)} {kvs : List (κ × PyData)} {k : κ} (h : KvOk K F ws kvs) : (ws.any fun kv => decide (kv.1 = k)) = kvs.any fun kv => decide (kv.1 = k) := by
  induction h with
  | nil => rfl
  | cons r t ih => simp only [List.any_cons, ih, r.1]
theorem kv_put {K : PySem.W.Frag} {F : Hp} {ws : List (κ × V)} {kvs : List (κ × PyData)} {k : κ} {v : V} {d : PyData} (h : KvOk K F ws kvs) (hd : Dt K F v d) : KvOk K F (putK ws k v) (putKD kvs k d) := by
  unfold putK putKD
  rw [kv_any h]
  split
  · rename_i q
    clear q
    induction h with
    | nil => exact .nil
    | @cons p q ps qs r t ih =>
      refine .cons ?_ ih
      by_cases e : p.1 = k
      · have e' : q.1 = k := r.1 ▸ e
        simp only [e, e', if_true]
        exact ⟨trivial, hd⟩
      · have e' : ¬ q.1 = k := r.1 ▸ e
        simp only [e, e', if_false]
        exact r
  · rename_i q
    clear q
    induction h with
    | nil => exact .cons ⟨rfl, hd⟩ .nil
    | cons r t ih => exact .cons r ih
theorem kv_vals {K : PySem.W.Frag} {F : Hp} {ws : List (κ × V)} {kvs : List (κ × PyData)} (h : KvOk K F ws kvs) : DtAll K F (ws.map (·.2)) (kvs.map (·.2)) := by
  induction h with
  | nil => exact .nil
  | cons r t ih => exact .cons r.2 ih
end
def dictAt (s : Sx) (k : Nat) : Option (List (Key × PyData)) :=
  match s.g[k]? with
  | some (some (.dk kvs)) => some kvs
  | _ => none
def setDk (s : Sx) (k : Nat) (kvs : List (Key × PyData)) : Sx := { s with g := s.g.set k (some (.dk kvs)) }
def asKey (r : RV) (s : Sx) : Option Key := (r.res s).bind keyOf
def dNewK : DE := fun s => .ok (.tk []) s
def dNewT : DE := fun s => .ok (.tt []) s
def sPutK (j : Nat) (fk : DE) (fv : DD) : DSt := fun s => (fv s).toS fun d s1 => match dictAt s1 j with
  | none => .bad
  | some _ => (fk s1).toS fun r s2 => match dictAt s2 j, asKey r s2 with
    | some kvs, some k => if kvs.length < 1000000 then .nx (setDk s2 j (putKD kvs k d)) else .bad
    | _, _ => .bad
def dGetK (j : Nat) (fk : DE) : DE := fun s => match dictAt s j with
  | none => .bad
  | some _ => (fk s).bind fun r s1 => match dictAt s1 j, asKey r s1 with
    | some kvs, some k => (match valD kvs k with | some d => .ok (.dat d) s1 | none => .bad)
    | _, _ => .bad
def dInK (neg : Bool) (j : Nat) (fk : DE) : DE := fun s => (fk s).bind fun r s1 => match dictAt s1 j, asKey r s1 with
  | some kvs, some k => .ok (bl_ (neg != (valD kvs k).isSome)) s1
  | _, _ => .bad
section
variable {X : Cx} {C : Ct X.K} {pos pos' : Pos} {e i value : Expr} {fk : DE} {fv : DD}
theorem ve_dnewK : VE X C (.Dict [] [] pos) dNewK := ⟨peI pe_dnewK fun σ H Q ⟨O, F, s, v, h⟩ p hp => RdE.dkNew h Tr.refl v hp⟩
theorem ve_dnewT : VE X C (.Dict [] [] pos) dNewT := ⟨peI pe_dnewT fun σ H Q ⟨O, F, s, v, h⟩ p hp => RdE.dtNew h Tr.refl v hp⟩
theorem dict_ty {O : Ow} {F H : Hp} {s : Sx} {σ : L2.St} {k : Nat} {kvs : List (Key × PyData)} (v : VS C O F s σ H) (e : dictAt s k = some kvs) : ∃ p ws, σ[k]? = some (some (.ref p)) ∧ O p = some (k + 2) ∧ H p = some (.dK ws) ∧ KvOk X.K F ws kvs := by
  unfold dictAt at e
  split at e
  · rename_i es q
    cases e
    obtain ⟨z, e1, p, xs, rfl, a2, a3, a4⟩ := v.pl k _ q
    exact ⟨p, xs, e1, a2, a3, a4⟩
  · cases e
theorem asKey_ok {O : Ow} {F H : Hp} {s : Sx} {σ : L2.St} {r : RV} {z : V} {k : Key} (v : VS C O F s σ H) (hz : RVok C O F H σ r z) (e : asKey r s = some k) : z = kV k := by
  unfold asKey at e
  cases q : r.res s with
  | none => rw [q] at e; cases e
  | some d => rw [q] at e; exact keyOf_v (hz.bo v q) e
theorem vs_dputK {j : Nat} {o : Expr} (hu : X.A.units + 1 < cLine) (ho : PE X o (tVar j)) (hi : VE X C i fk) (hv : VD X C value fv) (hs : swapsWith value (some (.Subscript o i pos')) pos.line X.env = pure false := by rfl) :
    VSt X C (.Assign [.Subscript o i pos'] value pos) (sPutK j fk fv) := by
  refine ⟨psI (ps_dput hu ho hi.run hv.run hs) fun D σ H ⟨O, F, s, v, h⟩ => ⟨O, F, s, v, RdS.bind h Tr.refl fun d s1 O1 F1 H1 v1 t1 q1 y hy => ?_⟩⟩
  cases e0 : dictAt s1 j with
  | none => rw [e0] at q1; exact q1.elim
  | some ds0 =>
    rw [e0] at q1
    obtain ⟨p, xs, hp, _⟩ := dict_ty v1 e0
    refine ⟨.ref p, hp, O1, F1, s1, v1, RdS.bind q1 t1 fun r s2 O2 F2 H2 v2 t2 q2 z hz _ => ?_⟩
    cases e2 : dictAt s2 j with
    | none => rw [e2] at q2; exact q2.elim
    | some kvs =>
      cases e3 : asKey r s2 with
      | none => rw [e2, e3] at q2; exact q2.elim
      | some k =>
        rw [e2, e3] at q2
        simp only at q2
        split at q2
        case isFalse => exact q2.elim
        rename_i hl
        obtain ⟨p', ws, hq, hO, hH, hk⟩ := dict_ty v2 e2
        rw [hp] at hq
        cases hq
        have hzk := asKey_ok v2 hz e3
        subst hzk
        refine ⟨p, _, rfl, DPut.k (k := k) hH (by rw [kv_len hk]; exact Nat.lt_of_lt_of_le hl (by decide)), ?_⟩
        obtain ⟨v3, t3⟩ := v2.wown (t1.trans t2) (b := .dk (putKD kvs k d)) (o := .dK (putK ws k y)) hp hO ⟨p, _, rfl, hO, upd_same, kv_put hk (hy.mono t2.ff)⟩
        exact q2 σ _ _ _ v3 t3
theorem ve_dgetK {j : Nat} {o : Expr} (hu : X.A.units + 1 < cLine) (ho : PE X o (tVar j)) (hi : VE X C i fk) (hs : NoSl i := by exact fun _ _ => rfl) : VE X C (.Subscript o i pos) (dGetK j fk) := by
  refine ⟨peI (pe_dget hu ho hi.run hs) fun σ H Q ⟨O, F, s, v, h⟩ => ?_⟩
  unfold dGetK at h
  cases e0 : dictAt s j with
  | none => rw [e0] at h; exact h.elim
  | some ds0 =>
    rw [e0] at h
    obtain ⟨p, xs, hp, _⟩ := dict_ty v e0
    refine ⟨.ref p, hp, O, F, s, v, Rd0.bind h Tr.refl fun r s1 O1 F1 H1 v1 t1 q1 z hz _ => ?_⟩
    cases e2 : dictAt s1 j with
    | none => rw [e2] at q1; exact q1.elim
    | some kvs =>
      cases e3 : asKey r s1 with
      | none => rw [e2, e3] at q1; exact q1.elim
      | some k =>
        rw [e2, e3] at q1
        simp only at q1
        obtain ⟨p', ws, hq, hO, hH, hk⟩ := dict_ty v1 e2
        rw [hp] at hq
        cases hq
        have hzk := asKey_ok v1 hz e3
        subst hzk
        rcases kv_val (k := k) hk with ⟨y, d, a1, a2, a3⟩ | ⟨a1, a2⟩
        · rw [a2] at q1
          refine ⟨p, y, rfl, ?_, q1 O1 F1 H1 v1 t1 y a3 trivial⟩
          have := DGet.k (k := k) hH
          rw [a1] at this
          exact this
        · rw [a2] at q1; exact q1.elim
theorem din_of {neg : Bool} {j : Nat} {σ : L2.St} {H : Hp} {Q : VK} (h : tE C (dInK neg j fk) σ H Q) : tE C fk σ H fun y H1 => tVar j σ H1 fun x H2 => ∃ a o, x = .ref a ∧ DGet H2 a y o ∧ Q (.bl (neg != o.isSome)) H2 := by
  obtain ⟨O, F, s, v, h⟩ := h
  refine ⟨O, F, s, v, Rd0.bind h Tr.refl fun r s1 O1 F1 H1 v1 t1 q1 z hz _ => ?_⟩
  cases e2 : dictAt s1 j with
  | none => rw [e2] at q1; exact q1.elim
  | some kvs =>
    cases e3 : asKey r s1 with
    | none => rw [e2, e3] at q1; exact q1.elim
    | some k =>
      rw [e2, e3] at q1
      simp only at q1
      obtain ⟨p, ws, hp, hO, hH, hk⟩ := dict_ty v1 e2
      have hzk := asKey_ok v1 hz e3
      subst hzk
      refine ⟨.ref p, hp, p, valV ws k, rfl, DGet.k (k := k) hH, ?_⟩
      rcases kv_val (k := k) hk with ⟨y, d, a1, a2, a3⟩ | ⟨a1, a2⟩
      · rw [a2] at q1; rw [a1]; exact q1 O1 F1 H1 v1 t1 _ (.bl _) trivial
      · rw [a2] at q1; rw [a1]; exact q1 O1 F1 H1 v1 t1 _ (.bl _) trivial
theorem pc_dinK {j : Nat} {o : Expr} (hu : X.A.units + 1 < cLine) (ho : PE X o (tVar j)) (hi : VE X C i fk) : PC X .In i o (tE C (dInK false j fk)) :=
  ⟨fun pins s σ H Q I h => (pc_din hu hi.run ho).run pins s σ H Q I (by
    have q := din_of h
    simp only [Bool.false_bne] at q
    exact q)⟩
theorem pc_dnotinK {j : Nat} {o : Expr} (hu : X.A.units + 1 < cLine) (ho : PE X o (tVar j)) (hi : VE X C i fk) : PC X .NotIn i o (tE C (dInK true j fk)) :=
  ⟨fun pins s σ H Q I h => (pc_dnotin hu hi.run ho).run pins s σ H Q I (by
    have q := din_of h
    simp only [Bool.true_bne] at q
    exact q)⟩
theorem ve_pc {op : CmpOp} {a b : Expr} {f : DE} (h : PC X op a b (tE C f)) (h1 : behindInMarks op b = false := by first | exact nobehind _ (by decide) (by decide) | rfl) : VE X C (.Compare a [op] [b] pos) f := ⟨pe_cmp h h1⟩
theorem vt_pc {op : CmpOp} {a b : Expr} {f : DE} (h : PC X op a b (tE C f)) (h1 : behindInMarks op b = false := by first | exact nobehind _ (by decide) (by decide) | rfl) : VT X C (.Compare a [op] [b] pos) (dTest f) := ⟨ptI (pt_cmp h h1) fun _ _ _ q => tB_of q⟩
end
end VL

namespace VL
open PySem PySem.Spec PyProof.Rows L2
/-! ### list(d.values()), list(d.items()) -/
def rValsL : V → Hp → VK → Prop := fun x H Q => ∃ (d : Addr) (kvs : List (Key × V)), x = .ref d ∧ H d = some (.dK kvs) ∧ ∀ p, H p = none → Q (.ref p) (upd H p (.lst (kvs.map (·.2))))
def tListVals (te : TE) : TE := fun σ H Q => te σ H fun x H1 => rValsL x H1 Q
theorem kv_acc {kvs : List (Key × V)} {vs : List (Key × Value)} (kv : KV kvs vs) : Vals (kvs.map (·.2)) (vs.map (·.2)) := by
  induction kv with
  | nil => exact .nil
  | cons r t ih => exact .cons r.2 ih
section
variable {X : Cx} {e : Expr} {te : TE} {p apos cpos pos : Pos}
theorem pe_listVals (hc : X.calm = true) (he : PE X e te) (hg : Gl X "list") (hm : X.mg "list" = none) (hv : bootBuiltins "list" = some (.type "list")) (hbase : attributeBase e "values" X.env (eval e X.env) = eval e X.env := by rfl) (hline : (apos.endLine == cpos.line) = true := by rfl)
    (hs : starEach [.Call (.Attribute e "values" apos) [] [] cpos] X.env = (false, eval (.Call (.Attribute e "values" apos) [] [] cpos) X.env) :: starEach [] X.env := by rfl) :
    PE X (.Call (.Name "list" p) [.Call (.Attribute e "values" apos) [] [] cpos] [] pos) (tListVals te) := by
  refine ⟨fun pins s σ H Q I hq => ?_⟩
  refine wpAny_Call_Name_kw (ld_blt I hg hm hv ?_)
  refine PyProof.Rows.callWith_type1 ?_ hs rfl
  rw [hs]
  show wpAny _ _ (spliced ((false, eval (.Call (.Attribute e "values" apos) [] [] cpos) X.env) :: backTo pos (starEach [] X.env))) _ _ s
  refine Calls.spliced_cons ?_
  refine wpAny_Call_method (T := "dict") (id := "dict.values") hbase rfl hline F.plainAttrs_dict F.slot_dict_values F.type_dict_values (thn (he.run pins s σ H _ I hq) fun u s1 ⟨x, H1, I1, rx, d, kvs, ex, hd, q⟩ => ?_)
  subst ex
  obtain rfl : u = Value.ref d := rx
  obtain ⟨hz, hs0, vs, kv, hdo⟩ := I1.hok d _ hd
  obtain ⟨ep, hat⟩ := hdo.dictAt
  have lk : kvs.length = vs.length := Paired.length kv
  have I2 : Inv X pins σ H1 { s1 with heap := s1.heap.push { cls := .type "dict_values", data := .fields #[.ref d] } } := I1.kept (t' := s1.toks) fun b ob q => Heap.get?_push_of_some _ q
  refine ⟨hdo.typeIs, hdo.mapOf.noDict, ?_⟩
  show wpAny _ _ (callWith cpos (.builtin "dict.values") [.ref d] [] []) _ X.xe s1
  refine method_meetsIn F.slot_dict_values F.entry_dict_values rfl (PySem.evalArgs_none ⟨rfl, hdo.typeIs, F.args_dict_values_1 _, _, meets_dict_values (mixKind X.prog X.w) d hs0, ⟨vs, hdo⟩, ?_⟩)
  refine Calls.spliced_nil ?_
  refine PySem.W.kdl_call (PySem.W.kdl_values (knd := mixKind X.prog X.w) (kvs := vs) (ep := ep)) (I1.ok.hd hc) ⟨⟨_, Heap.get?_push_size _ rfl, rfl, rfl⟩, hat.push _⟩ (by omega) fun h' tk acc c hk hS hacc => ?_
  have ea : acc.toList = vs.map (·.2) := by
    apply List.ext_getElem?
    intro j
    by_cases hj : j < vs.length
    · obtain ⟨v, hv⟩ : ∃ v, acc[j]? = some v := ⟨acc[j]'(by rw [hacc.1]; exact hj), Array.getElem?_eq_getElem (by rw [hacc.1]; exact hj)⟩
      obtain ⟨k, hk2⟩ := hacc.2 j v hv
      rw [Array.getElem?_toList, hv, List.getElem?_map, hk2]
      rfl
    · rw [List.getElem?_eq_none (by rw [Array.length_toList, hacc.1]; omega), List.getElem?_eq_none (by rw [List.length_map]; omega)]
  refine ⟨.ref _, _, I2.laid (o := .lst (kvs.map (·.2))) (t' := tk) hk (Nat.le_refl _) ⟨by rw [List.length_map]; exact hz, acc.toList, c, by rw [ea]; exact kv_acc kv, ?_⟩, rfl, q _ (I2.hok.fresh (Nat.le_refl _))⟩
  rw [Array.toArray_toList]
  exact hS
end
def dValsK (j : Nat) : DE := fun s => match dictAt s j with
  | some kvs => .ok (.tmp (kvs.map (·.2))) s
  | none => .bad
def dItemsK (j : Nat) : DE := fun s => match dictAt s j with
  | some kvs => .ok (.tmp (kvs.map fun kv => .tuple [keyD kv.1, kv.2])) s
  | none => .bad
section
variable {X : Cx} {C : Ct X.K} {e : Expr} {p apos cpos pos : Pos}
theorem ve_listVals {j : Nat} (hc : X.calm = true) (he : PE X e (tVar j)) (hm : X.mg "list" = none) (hv : bootBuiltins "list" = some (.type "list")) (hg : Gl X "list" := by rfl) (hbase : attributeBase e "values" X.env (eval e X.env) = eval e X.env := by rfl) (hline : (apos.endLine == cpos.line) = true := by rfl)
    (hs : starEach [.Call (.Attribute e "values" apos) [] [] cpos] X.env = (false, eval (.Call (.Attribute e "values" apos) [] [] cpos) X.env) :: starEach [] X.env := by rfl) :
    VE X C (.Call (.Name "list" p) [.Call (.Attribute e "values" apos) [] [] cpos] [] pos) (dValsK j) := by
  refine ⟨peI (pe_listVals hc he hg hm hv hbase hline hs) fun σ H Q ⟨O, F, s, v, h⟩ => ?_⟩
  unfold dValsK at h
  cases e0 : dictAt s j with
  | none => rw [e0] at h; exact h.elim
  | some kvs =>
    rw [e0] at h
    obtain ⟨a, ws, hp, hO, hH, hk⟩ := dict_ty v e0
    exact ⟨.ref a, hp, a, ws, rfl, hH, fun q hq => RdE.tmpNew h Tr.refl v hq (kv_vals hk)⟩
theorem items_dt {K : PySem.W.Frag} {F F' H' : Hp} {ws : List (Key × V)} {kvs : List (Key × PyData)} (hF : Same F F') (h : KvOk K F ws kvs) : ∀ {ts : List Addr}, Paired (fun (t : Addr) (q : Key × V) => H' t = some (.tup [kV q.1, q.2])) ts ws → (∀ t ∈ ts, F' t = H' t) →
    DtAll K F' (ts.map V.ref) (kvs.map fun kv => .tuple [keyD kv.1, kv.2]) := by
  induction h with
  | nil =>
    intro ts h1 _
    cases h1
    exact .nil
  | @cons w kv ws kvs r t ih =>
    intro ts h1 h2
    cases h1 with
    | @cons a _ as _ e1 e2 =>
      refine .cons (.tup (xs := [kV w.1, w.2]) ?_ (.cons ?_ (.cons (r.2.mono hF) .nil))) (ih e2 fun t ht => h2 t (List.mem_cons_of_mem _ ht))
      · rw [h2 a List.mem_cons_self]; exact e1
      · rw [r.1]; exact keyD_dt _
theorem ve_listItems {j : Nat} (hc : X.calm = true) (he : PE X e (tVar j)) (hm : X.mg "list" = none) (hv : bootBuiltins "list" = some (.type "list")) (hg : Gl X "list" := by rfl) (hbase : attributeBase e "items" X.env (eval e X.env) = eval e X.env := by rfl) (hline : (apos.endLine == cpos.line) = true := by rfl)
    (hs : starEach [.Call (.Attribute e "items" apos) [] [] cpos] X.env = (false, eval (.Call (.Attribute e "items" apos) [] [] cpos) X.env) :: starEach [] X.env := by rfl) :
    VE X C (.Call (.Name "list" p) [.Call (.Attribute e "items" apos) [] [] cpos] [] pos) (dItemsK j) := by
  refine ⟨peI (LiI.pe_listItems hc he hg hm hv hbase hline hs) fun σ H Q ⟨O, F, s, v, h⟩ => ?_⟩
  unfold dItemsK at h
  cases e0 : dictAt s j with
  | none => rw [e0] at h; exact h.elim
  | some kvs =>
    rw [e0] at h
    obtain ⟨a, ws, hp, hO, hH, hk⟩ := dict_ty v e0
    refine ⟨.ref a, hp, a, ws, rfl, hH, fun H' q ts k1 k2 k3 k4 k5 k6 => ?_⟩
    obtain ⟨v2, t2⟩ := v.growT k1
    have hts : ∀ {ts : List Addr} {ws : List (Key × V)}, Paired (fun (t : Addr) (q : Key × V) => H' t = some (.tup [kV q.1, q.2])) ts ws → ∀ t ∈ ts, ∃ xs, H' t = some (.tup xs) := fun h => by
      induction h with
      | nil => intro t ht; cases ht
      | cons r _ ih =>
        intro t ht
        rcases List.mem_cons.mp ht with rfl | ht
        · exact ⟨_, r⟩
        · exact ih t ht
    refine h _ _ _ v2 t2 (.ref q) ⟨q, ts.map V.ref, rfl, k5, ?_, v.hh.free k2, v.ofree k2, ?_⟩ (fun b e => by cases e; exact .inl k2)
    · unfold fz
      rw [k2, k5]
    · exact items_dt (fz_same v.fh) hk k6 fun t ht => by
        obtain ⟨xs, e⟩ := hts k6 t ht
        rw [fz_new (k3 t ht) e, e]
end
end VL

namespace VL
open PySem PySem.Spec PyProof.Rows L2 PySem.W
/-! ### min of data -/
def leastD (d : PyData) (ds : List PyData) : PyData := ds.foldl (fun m e => if ltD e m = true then e else m) d
def minOk (ds : List PyData) : Bool := ds.all (fun d => ds.all (cmpb d)) && SeqAt.shaped (.list ds)
def gMinA : List PyData → Option RV
  | [.list (d :: ds)] => if minOk (d :: ds) = true then some (.dat (leastD d ds)) else none
  | _ => none
theorem least_min {d : PyData} {ds : List PyData} (h : ∀ x ∈ d :: ds, ∀ y ∈ d :: ds, cmpb x y = true) : minD d ds = leastD d ds := by
  unfold minD leastD
  induction ds generalizing d with
  | nil => rfl
  | cons e r ih =>
    have e1 : PySem.W.dataLt e d = ltD e d := dataLt_eq e d (h e (by simp) d (by simp))
    rw [List.foldl_cons, List.foldl_cons, e1]
    refine ih fun x hx y hy => ?_
    have mem : ∀ z, z ∈ (if ltD e d = true then e else d) :: r → z ∈ d :: e :: r := fun z hz => by
      rcases List.mem_cons.mp hz with rfl | hz
      · split <;> simp
      · simp [hz]
    exact h x (mem x hx) y (mem y hy)
theorem vals_at {xs : List V} {us : List Value} (h : Vals xs us) : ∀ {i : Nat} {u : Value}, us[i]? = some u → ∃ x, xs[i]? = some x ∧ RelV x u := by
  induction h with
  | nil => intro i u e; cases e
  | cons r t ih =>
    intro i u e
    cases i with
    | zero => cases e; exact ⟨_, rfl, r⟩
    | succ i => exact ih (by simpa using e)
theorem c_minA {X : Cx} {C : Ct X.K} (hc : X.calm = true) (hu : X.A.units + 65 < cLine) : CallR X (.builtin "min") (rCall C gMinA) := by
  intro pins s σ H xs us Q I r ⟨σ', O0, F0, H0, O, F, st, ds, rv, vs, tr, bo, hg, rd⟩
  unfold gMinA at hg
  split at hg
  · rename_i d ds
    split at hg
    · rename_i ho
      cases hg
      unfold minOk at ho
      simp only [Bool.and_eq_true] at ho
      obtain ⟨h1, h3⟩ := ho
      have hcm : ∀ x ∈ d :: ds, ∀ y ∈ d :: ds, cmpb x y = true := fun x hx y hy => List.all_eq_true.mp (List.all_eq_true.mp h1 x hx) y hy
      obtain ⟨x, rfl, b⟩ := boAll1 bo
      obtain ⟨p, zs, rfl, e1, d1⟩ := b.list vs.fh
      obtain ⟨its, rvz, hl, hz⟩ := I.list (.of e1)
      obtain ⟨u, rfl, ru⟩ := vals1 r
      obtain rfl : u = Value.ref p := ru
      have hlay : PyData.canLayAll0 (d :: ds) = true := SeqAt.canLay_of_shaped h3
      have hdep : PyData.depthAll (d :: ds) + 1 ≤ 64 := SeqAt.depth_of_shaped h3
      obtain ⟨as, ra⟩ := Dp.readsAll I (d :: ds) zs its ((d1.mono vs.fh).dp hlay) rvz
      refine min_list_data (I.ok.hd hc) hl.isList (x := d) (xs := ds) (as := as) (by simpa using ra) ⟨fun x hx y hy => alike_cmpb x y (hcm x hx y hy), fun x hx e => ?_⟩ (by omega) (fun i v h' tk bs hv hr hk => ?_)
      · subst e
        have := hcm _ hx _ hx
        cases this
      · have hv' : its[i]? = some v := by simpa using hv
        obtain ⟨z, hz1, hz2⟩ := vals_at rvz hv'
        obtain ⟨e, he1, he2⟩ := d1.getV hz1
        obtain ⟨bs2, hr2, hi, _, _⟩ := readsAll_at ra i v hv'
        have ee : (d :: ds).getD i .none = e := by rw [List.getD_eq_getElem?_getD, he1]; rfl
        rw [ee] at hr2
        have e3 : minD d ds = e := (Reads.unique hr _ _ (PyProof.Rows.Reads.keeps hk hr2)).1
        rw [← least_min hcm, e3] at rd
        exact ⟨z, H, I.kept (t' := tk) fun b o q => hk b o q, hz2, rd.dat tr vs he2⟩
    · cases hg
  · cases hg
end VL

namespace VL
open PySem PySem.Spec PyProof.Rows L2
/-! ### keys that are tuples -/
def keysOf : List PyData → Option (List Key)
  | [] => some []
  | d :: r => (keyOf d).bind fun k => (keysOf r).map fun ks => k :: ks
def keyT : PyData → Option (List Key)
  | .tuple ds => keysOf ds
  | _ => none
theorem keysOf_keyD : ∀ k : List Key, keysOf (k.map keyD) = some k
  | [] => rfl
  | k :: r => by
    have h : keyOf (keyD k) = some k := by cases k <;> rfl
    simp [keysOf, h, keysOf_keyD r]
theorem keyT_keyD (k : List Key) : keyT (.tuple (k.map keyD)) = some k := keysOf_keyD k
theorem keysOf_v {K : PySem.W.Frag} {F : Hp} : ∀ {ds : List PyData} {vs : List V} {k : List Key}, DtAll K F vs ds → keysOf ds = some k → vs = k.map kV
  | _, _, _, .nil, e => by cases e; rfl
  | d :: ds, v :: vs, k, .cons h t, e => by
    unfold keysOf at e
    cases q : keyOf d with
    | none => rw [q] at e; cases e
    | some k0 =>
      rw [q] at e
      cases q2 : keysOf ds with
      | none => rw [q2] at e; cases e
      | some ks =>
        rw [q2] at e
        cases e
        rw [keysOf_v t q2, keyOf_v (H := F) (.inl h) q]
        rfl
theorem keysOf_d : ∀ {ds : List PyData} {k : List Key}, keysOf ds = some k → ds = k.map keyD
  | [], k, e => by cases e; rfl
  | d :: ds, k, e => by
    unfold keysOf at e
    cases q : keyOf d with
    | none => rw [q] at e; cases e
    | some k0 =>
      rw [q] at e
      cases q2 : keysOf ds with
      | none => rw [q2] at e; cases e
      | some ks =>
        rw [q2] at e
        cases e
        rw [keysOf_d q2]
        have : d = keyD k0 := by
          cases d <;> cases q <;> rfl
        rw [this]
        rfl
theorem keyT_v {K : PySem.W.Frag} {F H : Hp} {v : V} {d : PyData} {k : List Key} (b : Bo K F H v d) (e : keyT d = some k) : ∃ a, v = .ref a ∧ F a = some (.tup (k.map kV)) := by
  cases d with
  | tuple ds =>
    cases b.tupF with
    | tup h1 h2 => exact ⟨_, rfl, by rw [← keysOf_v h2 e]; exact h1⟩
  | _ => cases e
def dictTAt (s : Sx) (k : Nat) : Option (List (List Key × PyData)) :=
  match s.g[k]? with
  | some (some (.dt kvs)) => some kvs
  | _ => none
def setDt (s : Sx) (k : Nat) (kvs : List (List Key × PyData)) : Sx := { s with g := s.g.set k (some (.dt kvs)) }
def asKeyT (r : RV) (s : Sx) : Option (List Key) := (r.res s).bind keyT
def sPutT (j : Nat) (fk : DE) (fv : DD) : DSt := fun s => (fv s).toS fun d s1 => match dictTAt s1 j with
  | none => .bad
  | some _ => (fk s1).toS fun r s2 => match dictTAt s2 j, asKeyT r s2 with
    | some kvs, some k => if kvs.length < 1000000 then .nx (setDt s2 j (putKD kvs k d)) else .bad
    | _, _ => .bad
def dGetT (j : Nat) (fk : DE) : DE := fun s => match dictTAt s j with
  | none => .bad
  | some _ => (fk s).bind fun r s1 => match dictTAt s1 j, asKeyT r s1 with
    | some kvs, some k => (match valD kvs k with | some d => .ok (.dat d) s1 | none => .bad)
    | _, _ => .bad
/-- what a frozen dict holds -/
def valE : List (PyData × PyData) → List Key → Option PyData
  | [], _ => none
  | (q, d) :: r, k => if keyT q = some k then some d else valE r k
def gDGet : PyData → PyData → Option RV := fun d e => match d with
  | .dict es => (keyT e).bind fun k => (valE es k).map RV.dat
  | _ => none
theorem valE_kv {K : PySem.W.Frag} {F : Hp} {k : List Key} {d : PyData} : ∀ {ws : List (List Key × V)} {es : List (PyData × PyData)}, DtKv K F ws es → valE es k = some d → ∃ v, valV ws k = some v ∧ Dt K F v d
  | _, _, .nil, e => by cases e
  | (k0, v) :: ws, _ :: es, .cons h t, e => by
    unfold valE at e
    rw [keyT_keyD] at e
    by_cases q : k0 = k
    · subst q
      rw [if_pos rfl] at e
      cases e
      exact ⟨v, valV_pos rfl, h⟩
    · rw [if_neg (fun z => q (by injection z))] at e
      obtain ⟨x, h1, h2⟩ := valE_kv t e
      exact ⟨x, by rw [valV_neg q]; exact h1, h2⟩
section
variable {X : Cx} {C : Ct X.K} {pos pos' : Pos} {e i o value : Expr} {fk fo fi : DE} {fv : DD}
theorem ve_dgetF (hu : X.A.units + 1 < cLine) (ho : VE X C o fo) (hi : VE X C i fi) (hs : NoSl i := by exact fun _ _ => rfl) : VE X C (.Subscript o i pos) (dOp gDGet fo fi) := by
  refine ⟨peI (pe_dget hu ho.run hi.run hs) fun σ H Q ⟨O, F, s, v, h⟩ => ⟨O, F, s, v, Rd0.bind h Tr.refl fun ra s1 O1 F1 H1 v1 t1 h1 x hx _ => ⟨O1, F1, s1, v1, Rd0.bind h1 t1 fun rb s2 O2 F2 H2 v2 t2 h2 y hy _ => ?_⟩⟩⟩
  obtain ⟨σ', O0, F0, H0, O3, F3, st, d, e, r, vs, tr, b1, b2, hg, rd⟩ := fin2_ok h2 (t1.trans t2) v2 (hx.tr t2) hy
  unfold gDGet at hg
  split at hg
  · rename_i es
    cases q : keyT e with
    | none => rw [q] at hg; cases hg
    | some k =>
      rw [q] at hg
      cases q2 : valE es k with
      | none => simp [q2] at hg
      | some z =>
        simp [q2] at hg
        subst hg
        obtain ⟨a, rfl, ha⟩ := keyT_v b2 q
        have hd : Dt X.K F3 x (.dict es) := by
          rcases b1 with b1 | ⟨p, vs', ds, _, h0, _⟩
          · exact b1
          · cases h0
        cases hd with
        | dctT h1 h2 =>
          obtain ⟨y, g1, g2⟩ := valE_kv h2 q2
          refine ⟨_, y, rfl, ?_, rd.dat tr vs g2⟩
          have := DGet.t (k := k) (vs.fh _ _ h1) (vs.fh _ _ ha)
          rw [g1] at this
          exact this
        | dct0 _ => cases q2
        | scr _ => simp [valE, keyT] at q2
  · cases hg
theorem dictT_ty {O : Ow} {F H : Hp} {s : Sx} {σ : L2.St} {k : Nat} {kvs : List (List Key × PyData)} (v : VS C O F s σ H) (e : dictTAt s k = some kvs) : ∃ p ws, σ[k]? = some (some (.ref p)) ∧ O p = some (k + 2) ∧ H p = some (.dT ws) ∧ KvOk X.K F ws kvs := by
  unfold dictTAt at e
  split at e
  · rename_i es q
    cases e
    obtain ⟨z, e1, p, xs, rfl, a2, a3, a4⟩ := v.pl k _ q
    exact ⟨p, xs, e1, a2, a3, a4⟩
  · cases e
theorem asKeyT_ok {O : Ow} {F H : Hp} {s : Sx} {σ : L2.St} {r : RV} {z : V} {k : List Key} (v : VS C O F s σ H) (hz : RVok C O F H σ r z) (e : asKeyT r s = some k) : ∃ a, z = .ref a ∧ H a = some (.tup (k.map kV)) := by
  unfold asKeyT at e
  cases q : r.res s with
  | none => rw [q] at e; cases e
  | some d =>
    rw [q] at e
    obtain ⟨a, h1, h2⟩ := keyT_v (hz.bo v q) e
    exact ⟨a, h1, v.fh _ _ h2⟩
theorem vs_dputT {j : Nat} {o : Expr} (hu : X.A.units + 1 < cLine) (ho : PE X o (tVar j)) (hi : VE X C i fk) (hv : VD X C value fv) (hs : swapsWith value (some (.Subscript o i pos')) pos.line X.env = pure false := by rfl) :
    VSt X C (.Assign [.Subscript o i pos'] value pos) (sPutT j fk fv) := by
  refine ⟨psI (ps_dput hu ho hi.run hv.run hs) fun D σ H ⟨O, F, s, v, h⟩ => ⟨O, F, s, v, RdS.bind h Tr.refl fun d s1 O1 F1 H1 v1 t1 q1 y hy => ?_⟩⟩
  cases e0 : dictTAt s1 j with
  | none => rw [e0] at q1; exact q1.elim
  | some ds0 =>
    rw [e0] at q1
    obtain ⟨p, xs, hp, _⟩ := dictT_ty v1 e0
    refine ⟨.ref p, hp, O1, F1, s1, v1, RdS.bind q1 t1 fun r s2 O2 F2 H2 v2 t2 q2 z hz _ => ?_⟩
    cases e2 : dictTAt s2 j with
    | none => rw [e2] at q2; exact q2.elim
    | some kvs =>
      cases e3 : asKeyT r s2 with
      | none => rw [e2, e3] at q2; exact q2.elim
      | some k =>
        rw [e2, e3] at q2
        simp only at q2
        split at q2
        case isFalse => exact q2.elim
        rename_i hl
        obtain ⟨p', ws, hq, hO, hH, hk⟩ := dictT_ty v2 e2
        rw [hp] at hq
        cases hq
        obtain ⟨b, rfl, hb⟩ := asKeyT_ok v2 hz e3
        refine ⟨p, _, rfl, DPut.t (k := k) hH hb (by rw [kv_len hk]; exact Nat.lt_of_lt_of_le hl (by decide)), ?_⟩
        obtain ⟨v3, t3⟩ := v2.wown (t1.trans t2) (b := .dt (putKD kvs k d)) (o := .dT (putK ws k y)) hp hO ⟨p, _, rfl, hO, upd_same, kv_put hk (hy.mono t2.ff)⟩
        exact q2 σ _ _ _ v3 t3
theorem ve_dgetT {j : Nat} {o : Expr} (hu : X.A.units + 1 < cLine) (ho : PE X o (tVar j)) (hi : VE X C i fk) (hs : NoSl i := by exact fun _ _ => rfl) : VE X C (.Subscript o i pos) (dGetT j fk) := by
  refine ⟨peI (pe_dget hu ho hi.run hs) fun σ H Q ⟨O, F, s, v, h⟩ => ?_⟩
  unfold dGetT at h
  cases e0 : dictTAt s j with
  | none => rw [e0] at h; exact h.elim
  | some ds0 =>
    rw [e0] at h
    obtain ⟨p, xs, hp, _⟩ := dictT_ty v e0
    refine ⟨.ref p, hp, O, F, s, v, Rd0.bind h Tr.refl fun r s1 O1 F1 H1 v1 t1 q1 z hz _ => ?_⟩
    cases e2 : dictTAt s1 j with
    | none => rw [e2] at q1; exact q1.elim
    | some kvs =>
      cases e3 : asKeyT r s1 with
      | none => rw [e2, e3] at q1; exact q1.elim
      | some k =>
        rw [e2, e3] at q1
        simp only at q1
        obtain ⟨p', ws, hq, hO, hH, hk⟩ := dictT_ty v1 e2
        rw [hp] at hq
        cases hq
        obtain ⟨b, rfl, hb⟩ := asKeyT_ok v1 hz e3
        rcases kv_val (k := k) hk with ⟨y, d, a1, a2, a3⟩ | ⟨a1, a2⟩
        · rw [a2] at q1
          refine ⟨p, y, rfl, ?_, q1 O1 F1 H1 v1 t1 y a3 trivial⟩
          have := DGet.t (k := k) hH hb
          rw [a1] at this
          exact this
        · rw [a2] at q1; exact q1.elim
end
end VL

namespace VL
open PySem PySem.Spec PyProof.Rows L2
theorem u3 {A : Around} {k : Nat} (r : Room k A) : A.units + 3 < cLine := by
  have := u65 r
  omega
/-! ### dict(pairs), the keys tuples, each once -/
def pairsOf : List PyData → Option (List (List Key × PyData))
  | [] => some []
  | .tuple [q, d] :: r => (keyT q).bind fun k => (pairsOf r).map fun kvs => (k, d) :: kvs
  | _ => none
def gDict : List PyData → Option RV
  | [.list ps] => (match pairsOf ps with
    | some kvs => if (kvs.map (·.1)).Nodup ∧ kvs.length ≤ 1000000 then some (.dat (.dict (encT kvs))) else none
    | none => none)
  | _ => none
theorem storedAllH_new {κ : Type} [DecidableEq κ] : ∀ (ps acc : List (κ × Addr × Value)), ((acc ++ ps).map (·.1)).Nodup → PySem.storedAllH acc ps = acc ++ ps
  | [], acc, _ => by simp [PySem.storedAllH]
  | p :: ps, acc, h => by
    obtain ⟨k, a, v⟩ := p
    have hk : PySem.atKey acc k = none := by
      unfold PySem.atKey
      rw [Option.map_eq_none_iff, List.find?_eq_none]
      intro x hx
      have := (List.nodup_append.mp (by simpa using h)).2.2
      simp only [decide_eq_true_eq]
      intro e
      exact this x.1 (List.mem_map.mpr ⟨x, hx, rfl⟩) k (by simp) e
    have e1 : PySem.storedAllH acc ((k, a, v) :: ps) = PySem.storedAllH (PySem.storedH acc k a v) ps := rfl
    rw [e1, PySem.storedH_new hk, storedAllH_new ps (acc ++ [(k, a, v)]) (by simpa using h)]
    simp
/-- what the pairs are in the heap -/
structure PrsAt (P : Program) (w : World) (K : PySem.W.Frag) (F H : Hp) (h : Heap) (kvs : List (List Key × PyData)) (zs : List V) (us : List Value) : Prop where
  all : ∃ (ws : List (List Key × V)) (xs : List (List Key × Addr × Value)) (ts : List Addr), us = ts.map Value.ref ∧ KT H ws xs ∧ KvOk K F ws kvs ∧ ts.length = xs.length ∧
    ∀ (j : Nat) (k : List Key) (b : Addr) (v : Value), xs[j]? = some (k, b, v) → ∃ t, ts[j]? = some t ∧ PySem.PairAt h t (.ref b) v
theorem prs_at {X : Cx} {pins : List (Addr × Obj)} {σ : L2.St} {F H : Hp} {s : Shared} (I : Inv X pins σ H s) (fh : Same F H) : ∀ {ps : List PyData} {zs : List V} {us : List Value} {kvs : List (List Key × PyData)}, DtAll X.K F zs ps → Vals zs us → pairsOf ps = some kvs → PrsAt X.prog X.w X.K F H s.heap kvs zs us
  | [], _, _, _, .nil, .nil, e => by
    cases e
    exact ⟨[], [], [], rfl, .nil, .nil, rfl, fun j k b v h => by simp at h⟩
  | p :: ps, z :: zs, u :: us, kvs, .cons h t, .cons r rs, e => by
    unfold pairsOf at e
    split at e
    case h_1 => rename_i q; cases q
    case h_3 => cases e
    rename_i q d r' q0
    cases q0
    cases e1 : keyT q with
    | none => rw [e1] at e; cases e
    | some k =>
      cases e2 : pairsOf ps with
      | none => rw [e1, e2] at e; cases e
      | some kvs' =>
        rw [e1, e2] at e
        cases e
        obtain ⟨ws, xs, ts, rfl, h1, h2, h3, h4⟩ := (prs_at I fh t rs e2).all
        cases h with
        | @tup a _ _ ha hd =>
          obtain rfl : u = Value.ref a := r
          cases hd with
          | @cons vk _ _ _ hq hd =>
            cases hd with
            | @cons vv _ _ _ hv hd =>
              cases hd
              obtain ⟨b, rfl, hb⟩ := keyT_v (H := H) (.inl hq) e1
              obtain ⟨_, its, rv, hT⟩ := (show ObjOk X.prog X.w H s.heap a (.tup [.ref b, vv]) from I.hok a _ (fh _ _ ha))
              cases rv with
              | cons rb rv =>
                cases rv with
                | @cons _ uv _ _ rv rn =>
                  cases rn
                  rename_i ub
                  obtain rfl : ub = Value.ref b := rb
                  refine ⟨(k, vv) :: ws, (k, b, uv) :: xs, a :: ts, rfl, .cons ⟨rfl, fh _ _ hb, rv⟩ h1, .cons ⟨rfl, hv⟩ h2, by simp [h3], fun j k' b' v' hj => ?_⟩
                  cases j with
                  | zero =>
                    simp at hj
                    obtain ⟨rfl, rfl, rfl⟩ := hj
                    exact ⟨a, rfl, .inl hT⟩
                  | succ j =>
                    obtain ⟨t, g1, g2⟩ := h4 j k' b' v' (by simpa using hj)
                    exact ⟨t, by simpa using g1, g2⟩
theorem c_dict {X : Cx} {C : Ct X.K} (hc : X.calm = true) (hu : X.A.units + 3 < cLine) : CallR X (.type "dict") (rCall C gDict) := by
  intro pins s σ H xs us Q I r ⟨σ', O0, F0, H0, O, F, st, ds, rv, vs, tr, bo, hg, rd⟩
  unfold gDict at hg
  split at hg
  case h_2 => cases hg
  rename_i ps
  split at hg
  case h_2 => cases hg
  rename_i kvs hk
  split at hg
  case isFalse => cases hg
  rename_i hnd
  cases hg
  obtain ⟨x, rfl, b⟩ := boAll1 bo
  obtain ⟨p, zs, rfl, e1, d1⟩ := b.list vs.fh
  obtain ⟨hzl, its, n, rvz, hobj⟩ := (show ObjOk X.prog X.w H s.heap p (.lst zs) from I.hok p _ e1)
  obtain ⟨u, rfl, ru⟩ := vals1 r
  obtain rfl : u = Value.ref p := ru
  obtain ⟨ws, qs, ts, rfl, h1, h2, h3, h4⟩ := (prs_at I vs.fh d1 rvz hk).all
  have hlen : qs.length = kvs.length := (Paired.length h1).symm.trans (Paired.length h2)
  have hkeys : qs.map (·.1) = kvs.map (·.1) := by
    have a : ws.map (·.1) = qs.map (·.1) := by
      clear h2 h3 h4 hlen hobj rvz
      induction h1 with
      | nil => rfl
      | cons r t ih => simp [r.1, ih]
    have b : ws.map (·.1) = kvs.map (·.1) := by
      clear a h1 h3 h4 hlen hobj rvz hk hnd rd
      induction h2 with
      | nil => rfl
      | cons r t ih => rw [List.map_cons, List.map_cons, r.1, ih]
    rw [← a, b]
  refine PySem.call_dict_pairsH (knd := tupleKind (mixKind X.prog X.w)) (ps := qs) (PySem.PairArg.list p (ts.map Value.ref).toArray (fun j => ts.getD j 0) (qs.map fun q => (Value.ref q.2.1, q.2.2))) (I.ok.hd hc) (show X.A.units + 2 < cLine by omega)
    ⟨⟨_, n, hobj, rfl, rfl, rfl⟩, by simp [h3], fun j k v hj => ?_⟩ ⟨by simp, fun i key v hi => ?_⟩ (fun h' hk' x hx => ?_) (by simp; rw [hlen]; exact Nat.le_trans hnd.2 (by decide)) (fun h' tk hd' hkeep => ?_)
  · rw [List.getElem?_map] at hj
    cases q : qs[j]? with
    | none => rw [q] at hj; cases hj
    | some y =>
      obtain ⟨k0, b0, v0⟩ := y
      rw [q] at hj
      cases hj
      obtain ⟨t, g1, g2⟩ := h4 j k0 b0 v0 q
      have : ts.getD j 0 = t := by rw [List.getD_eq_getElem?_getD, g1]; rfl
      show (ts.map Value.ref).toArray[j]? = some (Value.ref (ts.getD j 0)) ∧ PySem.PairAt s.heap (ts.getD j 0) (Value.ref b0) v0
      rw [this]
      exact ⟨by simp [g1], g2⟩
  · have hi : (qs.map fun q => (Value.ref q.2.1, q.2.2))[i]? = some (key, v) := hi
    rw [List.getElem?_map] at hi
    cases q : qs[i]? with
    | none => rw [q] at hi; cases hi
    | some y =>
      obtain ⟨k0, b0, v0⟩ := y
      rw [q] at hi
      cases hi
      exact ⟨k0, b0, rfl, rfl⟩
  · obtain ⟨w, hw, e2⟩ : ∃ w, w ∈ ws ∧ w.1 = x.1 ∧ H x.2.1 = some (.tup (w.1.map kV)) := by
      clear h2 h3 h4 hlen hkeys hobj rvz
      induction h1 with
      | nil => cases hx
      | @cons p' q' ps' qs' r t ih =>
        rcases List.mem_cons.mp hx with rfl | hx
        · exact ⟨_, List.mem_cons_self, r.1, r.2.1⟩
        · obtain ⟨w, a, b⟩ := ih hx
          exact ⟨w, List.mem_cons_of_mem _ a, b⟩
    rw [e2.1] at e2
    have kk := key_of I.hok e2.2
    obtain ⟨o, items, m, g1, g2, g3, g4⟩ := kk
    exact ⟨o, items, m, hk' _ _ (Nat.ne_of_lt (Heap.lt_size g1)) (by simp) g1, g2, g3, g4⟩
  · rw [storedAllH_new qs [] (by simpa [hkeys] using hnd.1), List.nil_append] at hd'
    obtain ⟨o, es, ep, g1, g2, g3, g4, _, g5⟩ := hd'
    have hfr : H s.heap.objs.size = none := I.hok.fresh (Nat.le_refl _)
    obtain ⟨v2, t2⟩ := vs.laid (.dT ws) hfr
    have hsys : (s.heap.objs.size == sysModules) = false := by
      have := I.big
      rw [beq_eq_false_iff_ne]
      exact Nat.ne_of_gt this
    refine ⟨.ref s.heap.objs.size, upd H s.heap.objs.size (.dT ws), I.laid (t' := tk) (fun b u e => hkeep b u (by simp) e) (Nat.le_refl _) ⟨?_, hsys, qs, ?_, o, es, ep, g1, g2, g3, g4, g5⟩, rfl, rd _ _ _ v2 (tr.trans t2) _ (.dctT upd_same (kvT (KvOk.mono t2.ff h2))) trivial⟩
    · rw [Paired.length h2]
      exact Nat.le_trans hnd.2 (by decide)
    · exact KT.keeps h1 fun b ys hb => by rw [upd_ne (ne_of_none hb hfr)]; exact hb
end VL

namespace VL
open PySem PySem.Spec PyProof.Rows L2

section
variable {X : Cx} {C : Ct X.K} {pos : Pos}
/-- xs[i], by values -/
theorem get_list : PGet X (rIxL X.K) := by
  intro pins s σ H x y v u Q I rx ry h
  obtain ⟨p, xs, i, z, rfl, rfl, hq, he, q⟩ := h
  cases rx
  obtain ⟨t, rfl⟩ := ry
  obtain ⟨its, r, pl, hz⟩ := I.list hq
  obtain ⟨j, h1, h2, h3, h4, h5⟩ := atI_get he
  obtain ⟨w, ew, rw'⟩ := r.get h2
  have hl := r.length
  have hn := line63
  have fin : EP X pins σ Q w s := ⟨z, H, I, rw', q⟩
  by_cases h0 : 0 ≤ i
  · have hj : i.toNat = j := by
      rw [seqIndex_of h0 h5] at h1
      exact Option.some.inj h1
    exact wpAny_getItem_list pl.isList h0 (by omega) (by rw [hj]; simpa using ew) fin
  · have hj : (i + (its.toArray.size : Int)).toNat = j := by
      rw [seqIndex_neg (by omega) h4] at h1
      rw [List.size_toArray, ← hl]
      exact Option.some.inj h1
    exact wpAny_getItem_list_neg pl.isList (by omega) (by rw [List.size_toArray] <;> omega) (by omega) (by rw [hj]; simpa using ew) fin
theorem vs_augI {k : Nat} {g : Int → Int → Int} {op : Operator} {tpos : Pos} {o i e : Expr} {fi fe : DE} (ho : PE X o (tVar k)) (hi : VE X C i fi) (he : VE X C e fe) (hp : PIp X op (ipI g))
    (ha : ∀ ov iv new, augStore i ov iv new = (do holding [new, ov, iv] (setItem ov iv new); release [new, ov, iv] []; pure .next) := by intros; rfl) : VSt X C (.AugAssign (.Subscript o i tpos) op e pos) (sAugI k g fi fe) := by
  refine ⟨psI (ps_augS ho hi.run get_list he.run hp set_list ha) fun D σ H ⟨O, F, s, v, h⟩ => ?_⟩
  unfold sAugI at h
  cases e0 : ownAt s k with
  | none => rw [e0] at h; exact h.elim
  | some ds0 =>
    rw [e0] at h
    obtain ⟨p, xs, hp0, _⟩ := own_ty v e0
    refine ⟨.ref p, hp0, O, F, s, v, RdS.bind h Tr.refl fun r s1 O1 F1 H1 v1 t1 q1 z hz _ => ?_⟩
    cases e1 : ownAt s1 k with
    | none => rw [e1] at q1; exact q1.elim
    | some ds1 =>
      cases e2 : asInt r s1 with
      | none => rw [e1, e2] at q1; exact q1.elim
      | some i =>
        rw [e1, e2] at q1
        simp only at q1
        cases e3 : ixN ds1.length i with
        | none => rw [e3] at q1; exact q1.elim
        | some j =>
          rw [e3] at q1
          simp only at q1
          split at q1
          · rename_i x ex
            obtain ⟨q, zs, hq, ho1, hl1, hz1⟩ := own_ty v1 e1
            rw [hp0] at hq
            cases hq
            obtain ⟨w, ew, hw⟩ := hz1.get ex
            cases hw
            refine ⟨p, zs, i, .int x, rfl, asInt_ok v1 hz e2, .of hl1, ?_, O1, F1, s1, v1, RdS.bind q1 t1 fun r2 s2 O2 F2 H2 v2 t2 q2 y hy _ => ?_⟩
            · unfold atI
              rw [hz1.len, e3]
              exact ew
            · cases e4 : asInt r2 s2 with
              | none => rw [e4] at q2; exact q2.elim
              | some y' =>
                cases e5 : ownAt s2 k with
                | none => rw [e4, e5] at q2; exact q2.elim
                | some ds2 =>
                  rw [e4, e5] at q2
                  simp only at q2
                  split at q2
                  · rename_i hlen
                    obtain ⟨zs2, z1, z2, z3⟩ := setI_ok (i := i) q2 (t1.trans t2) v2 hp0 e5 (by rw [hlen]; exact e3) (.int _)
                    exact ⟨x, y', rfl, asInt_ok v2 hy e4, p, zs2, i, j, rfl, asInt_ok v1 hz e2, z1, z2, z3⟩
                  · exact q2.elim
          · exact q1.elim
/-- x[i] = x[j] = e -/
def sSetI2 (k : Nat) (fi fj : DE) (fe : DD) : DSt := fun s => (fe s).toS fun d s1 => match ownAt s1 k with
  | none => .bad
  | some _ => (fi s1).toS fun r s2 => (match ownAt s2 k, asInt r s2 with
    | some ds, some i => (match ixN ds.length i with
      | some a => (fj (setOwn s2 k (ds.set a d))).toS fun r s3 => putAt k d r s3
      | none => .bad)
    | _, _ => .bad)
theorem vs_seti2 {k : Nat} {t1 t2 e : Expr} {fe : DD} {fi fj : DE} (he : VD X C e fe) (h1 : PG X t1 (L2.gSub (tVar k) (tE C fi) rSetL)) (h2 : PG X t2 (L2.gSub (tVar k) (tE C fj) rSetL))
    (ha : (assignEach [t1, t2] X.env).map (·.2) = [assign t1 X.env, assign t2 X.env] := by rfl) (hw : swappedStores [t1, t2] e X.env = pure none := by rfl) : VSt X C (.Assign [t1, t2] e pos) (sSetI2 k fi fj fe) := by
  refine ⟨psI (ps_asg2 he.run h1 h2 ha hw) fun D σ H ⟨O, F, s, v, h⟩ => ⟨O, F, s, v, RdS.bind h Tr.refl fun d s1 O1 F1 H1 v1 t1 q1 y hy => ?_⟩⟩
  cases e0 : ownAt s1 k with
  | none => rw [e0] at q1; exact q1.elim
  | some ds0 =>
    rw [e0] at q1
    obtain ⟨p, xs, hp, _⟩ := own_ty v1 e0
    refine ⟨.ref p, hp, O1, F1, s1, v1, RdS.bind q1 t1 fun r s2 O2 F2 H2 v2 t2 q2 z hz _ => ?_⟩
    cases e2 : ownAt s2 k with
    | none => rw [e2] at q2; exact q2.elim
    | some ds2 =>
      cases e3 : asInt r s2 with
      | none => rw [e2, e3] at q2; exact q2.elim
      | some i =>
        rw [e2, e3] at q2
        simp only at q2
        cases e4 : ixN ds2.length i with
        | none => rw [e4] at q2; exact q2.elim
        | some j =>
          rw [e4] at q2
          simp only at q2
          obtain ⟨q, zs, hq, ho, hl, hz2⟩ := own_ty v2 e2
          rw [hp] at hq
          cases hq
          have hy2 := hy.mono t2.ff
          obtain ⟨v3, t3⟩ := v2.wown (t1.trans t2) (b := .own (ds2.set j d)) (o := .lst (zs.set j y)) hp ho ⟨p, _, rfl, ho, upd_same, hz2.set hy2 j⟩
          refine ⟨p, zs, i, j, rfl, asInt_ok v2 hz e3, hl, by rw [hz2.len]; exact e4, .ref p, hp, O2, F2, _, v3, RdS.bind q2 t3 fun r s4 O4 F4 H4 v4 t4 q4 z4 hz4 _ => ?_⟩
          unfold putAt at q4
          cases e5 : ownAt s4 k with
          | none => rw [e5] at q4; exact q4.elim
          | some ds4 =>
            cases e6 : asInt r s4 with
            | none => rw [e5, e6] at q4; exact q4.elim
            | some i' =>
              rw [e5, e6] at q4
              simp only at q4
              cases e7 : ixN ds4.length i' with
              | none => rw [e7] at q4; exact q4.elim
              | some j' =>
                rw [e7] at q4
                obtain ⟨zs4, z1, z2, z3⟩ := setI_ok q4 (t3.trans t4) v4 hp e5 e7 (hy2.mono t4.ff)
                exact ⟨p, zs4, i', j', rfl, asInt_ok v4 hz4 e6, z1, z2, z3⟩
end
/-! ### list(d), d a dict with tuple keys -/
def gListD : List PyData → Option RV
  | [.dict ((.tuple k, d) :: es)] => some (.tmp ((PyData.tuple k, d) :: es |>.map (·.1)))
  | _ => none
theorem keyAll_dt {K : PySem.W.Frag} {F : Hp} : ∀ k : List Key, DtAll K F (k.map kV) (k.map keyD)
  | [] => .nil
  | _ :: r => .cons (keyD_dt _) (keyAll_dt r)
theorem keys_dt {K : PySem.W.Frag} {F H : Hp} (tp : Tp F H) : ∀ {ws : List (List Key × V)} {es : List (PyData × PyData)} {bs : List Addr}, DtKv K F ws es → IsKeys H ws bs → DtAll K F (bs.map V.ref) (es.map (·.1))
  | _, _, _, .nil, h => by cases h; exact .nil
  | _ :: _, _, _, .cons r t, h => by
    cases h with
    | cons e1 e2 => exact .cons (.tup (tp _ _ e1) (keyAll_dt _)) (keys_dt tp t e2)
theorem c_listT {X : Cx} {C : Ct X.K} (hc : X.calm = true) : CallR X (.type "list") (rCall C gListD) := by
  intro pins s σ H xs us Q I r ⟨σ', O0, F0, H0, O, F, st, ds, rv, vs, tr, bo, hg, rd⟩
  unfold gListD at hg
  split at hg
  case h_2 => cases hg
  rename_i k d es
  cases hg
  obtain ⟨x, rfl, b⟩ := boAll1 bo
  rcases b with b | ⟨_, _, _, _, z, _⟩
  · cases b with
    | dctT h1 h2 => exact call_list_dT hc pins s σ H _ us Q I r ⟨_, _, rfl, .inl (vs.fh _ _ h1), fun p bs hp hk => RdE.tmpNew rd tr vs hp (keys_dt vs.tp h2 hk)⟩
  · cases z
/-! ### f() -/
def dCallF0 (fn : PFn) : DE := fun s => match fn [] with
  | .ok d => .ok (.dat d) s
  | _ => .bad
section
variable {X : Cx} {C : Ct X.K} {k : Nat} {f : Addr} {fd : FuncData} {ps : List Str} {fn : PFn} {x : Str} {p pos : Pos}
theorem ve_callF0 (G : FnG X.prog X.w X.K X.mg X.base CX0 k f fd ps (spP X.K 0 fn)) (hr : Room k X.A) (hgd : X.A.guards = some []) (hm : X.mg x = some (.ref f)) (hk : PySem.W.keepIn X.K (.ref f) = true) (hb : Binds X.K fd ps [])
    (hg : Gl X x := by rfl) (hdb : (x == ("__debug__" : Str)) = false := by decide) : VE X C (.Call (.Name x p) [] [] pos) (dCallF0 fn) := by
  refine ⟨⟨fun pins s σ H Q I ⟨O, F, st, v, h⟩ => ?_⟩⟩
  refine wpAny_Call_Name_kw (ld_glob I hg hm ?_ hdb)
  refine PySem.W.callWith_K0 I.kIn hk (run_G (us := []) (vs := []) G hr hgd hb pass0 I .nil ⟨rfl, F, [], ⟨v.fh, v.tp⟩, .nil, ?_⟩)
  unfold dCallF0 at h
  cases e2 : fn [] with
  | ok d =>
    rw [e2] at h
    intro y F' H' a1 a2 a3 a4 a5 hy
    obtain ⟨v2, t2⟩ := v.grow a1 a2 a3 a4 a5
    exact h _ _ _ v2 t2 y hy trivial
  | exc c fs => rw [e2] at h; exact h.elim
  | bad => rw [e2] at h; exact h.elim
end
/-! ### try: .. except, where nothing is raised -/
section
variable {X : Cx} {C : Ct X.K} {pos : Pos} {body : List Stmt} {h₀ : ExceptHandler} {hs : List ExceptHandler} {f : DSt}
theorem vs_try0 (hb : VSs X C body f) (hn : ∀ e s, ¬ X.xe e s := by exact fun _ _ h => h) : VSt X C (.Try body (h₀ :: hs) [] [] pos) f :=
  ⟨psI (ps_try_never (u := tNext) hn hb.run pss_nil) fun D σ H q => q⟩
end
end VL

namespace G
open PySem PySem.Spec PyProof.Rows L2 VL
/-! plain mathematics of orders and nets -/
structure IsP (n : Nat) (o : List Nat) : Prop where
  len : o.length = n
  lt : ∀ x ∈ o, x < n
  nd : o.Nodup
theorem IsP.surj {n : Nat} {o : List Nat} (h : IsP n o) {p : Nat} (hp : p < n) : ∃ w, w < n ∧ o[w]? = some p := by
  have hm : p ∈ o := by
    by_cases q : p ∈ o
    · exact q
    · exfalso
      have hs : ∀ x, x ∈ o → x ∈ (List.range n).erase p := fun x hx => by
        refine (List.mem_erase_of_ne (fun e => q (by rw [← e]; exact hx))).mpr (List.mem_range.mpr (h.lt x hx))
      have hl := List.Nodup.length_le_of_subset h.nd hs
      rw [List.length_erase_of_mem (List.mem_range.mpr hp), List.length_range, h.len] at hl
      omega
  obtain ⟨w, hw⟩ := List.mem_iff_getElem?.mp hm
  refine ⟨w, ?_, hw⟩
  have := (List.getElem?_eq_some_iff.mp hw).1
  rw [h.len] at this
  exact this
theorem IsP.get {n : Nat} {o : List Nat} (h : IsP n o) {w : Nat} (hw : w < n) : ∃ p, o[w]? = some p ∧ p < n := by
  have hl : w < o.length := by rw [h.len]; exact hw
  exact ⟨o[w], List.getElem?_eq_getElem hl, h.lt _ (List.getElem_mem hl)⟩
theorem IsP.inj {n : Nat} {o : List Nat} (h : IsP n o) {w v p : Nat} (h1 : o[w]? = some p) (h2 : o[v]? = some p) : w = v := by
  obtain ⟨l1, e1⟩ := List.getElem?_eq_some_iff.mp h1
  obtain ⟨l2, e2⟩ := List.getElem?_eq_some_iff.mp h2
  exact (List.getElem_inj h.nd).mp (e1.trans e2.symm)
/-- L turns o back -/
structure Turns (o L : List Nat) : Prop where
  len : L.length = o.length
  at_ : ∀ w p : Nat, o[w]? = some p → L[p]? = some w
theorem Turns.uniq {n : Nat} {o L M : List Nat} (h : IsP n o) (a : Turns o L) (b : Turns o M) : L = M := by
  apply List.ext_getElem?
  intro p
  by_cases hp : p < n
  · obtain ⟨w, _, hw⟩ := h.surj hp
    rw [a.at_ w p hw, b.at_ w p hw]
  · rw [List.getElem?_eq_none (by rw [a.len, h.len]; omega), List.getElem?_eq_none (by rw [b.len, h.len]; omega)]
theorem Turns.isP {n : Nat} {o L : List Nat} (h : IsP n o) (a : Turns o L) : IsP n L := by
  have hl : L.length = n := by rw [a.len, h.len]
  refine ⟨hl, fun x hx => ?_, ?_⟩
  · obtain ⟨p, hp⟩ := List.mem_iff_getElem?.mp hx
    have hpn : p < n := by rw [← hl]; exact (List.getElem?_eq_some_iff.mp hp).1
    obtain ⟨w, hw, e⟩ := h.surj hpn
    have := a.at_ w p e
    rw [hp] at this
    cases this
    exact hw
  · refine List.pairwise_iff_getElem.mpr fun i j hi hj hij e => ?_
    obtain ⟨w, hw, e1⟩ := h.surj (p := i) (by omega)
    obtain ⟨v, hv, e2⟩ := h.surj (p := j) (by omega)
    have a1 := a.at_ w i e1
    have a2 := a.at_ v j e2
    rw [List.getElem?_eq_getElem hi] at a1
    rw [List.getElem?_eq_getElem hj] at a2
    rw [e] at a1
    rw [a1] at a2
    cases a2
    rw [e1] at e2
    cases e2
    omega
theorem Turns.symm {n : Nat} {o L : List Nat} (h : IsP n o) (a : Turns o L) : Turns L o := by
  refine ⟨a.len.symm, fun p w hw => ?_⟩
  have hpn : p < n := by
    have := (List.getElem?_eq_some_iff.mp hw).1
    rw [a.len, h.len] at this
    exact this
  obtain ⟨v, _, e⟩ := h.surj hpn
  have := a.at_ v p e
  rw [hw] at this
  cases this
  exact e
def inv (o : List Nat) : List Nat := (List.range o.length).map fun p => o.idxOf p
theorem inv_turns {n : Nat} {o : List Nat} (h : IsP n o) : Turns o (inv o) := by
  refine ⟨by simp [inv], fun w p hw => ?_⟩
  have hm : p ∈ o := List.mem_of_getElem? hw
  have hp : p < o.length := by rw [h.len]; exact h.lt p hm
  unfold inv
  rw [List.getElem?_map, List.getElem?_range hp]
  have hi : o.idxOf p < o.length := List.idxOf_lt_length_of_mem hm
  have e : o[o.idxOf p]? = some p := by rw [List.getElem?_eq_getElem hi, List.getElem_idxOf]
  show some (o.idxOf p) = some w
  rw [← h.inj hw e]
theorem inv_isP {n : Nat} {o : List Nat} (h : IsP n o) : IsP n (inv o) := (inv_turns h).isP h
theorem inv_inv {n : Nat} {o : List Nat} (h : IsP n o) : inv (inv o) = o := Turns.uniq (inv_isP h) (inv_turns (inv_isP h)) ((inv_turns h).symm h)
def turnB (os : List (List Nat)) : List (List Nat) := os.reverse.map inv
theorem turnB_turnB {n : Nat} {os : List (List Nat)} (h : ∀ o ∈ os, IsP n o) : turnB (turnB os) = os := by
  unfold turnB
  rw [← List.map_reverse, List.reverse_reverse, List.map_map]
  conv => rhs; rw [← List.map_id os]
  exact List.map_congr_left fun o ho => inv_inv (h o ho)
theorem turnB_ok {n : Nat} {os : List (List Nat)} (h : ∀ o ∈ os, IsP n o) : ∀ o ∈ turnB os, IsP n o := fun o ho => by
  obtain ⟨q, hq, rfl⟩ := List.mem_map.mp ho
  exact inv_isP (h q (List.mem_reverse.mp hq))
theorem turnB_at {n : Nat} {os : List (List Nat)} (h : ∀ o ∈ os, IsP n o) (k : Nat) (hk : k < os.length) : Turns (os.getD k []) ((turnB os).getD (os.length - 1 - k) []) := by
  unfold turnB
  rw [List.getD_eq_getElem?_getD, List.getD_eq_getElem?_getD, List.getElem?_map, List.getElem?_reverse (by omega), show os.length - 1 - (os.length - 1 - k) = k by omega, List.getElem?_eq_getElem hk]
  exact inv_turns (h _ (List.getElem_mem hk))
/-! switches -/
def sw (row : List Nat) (w : Nat) : Nat := 2 * (w / 2) + (w + row.getD (w / 2) 0) % 2
theorem sw_half (row : List Nat) (w : Nat) : sw row w / 2 = w / 2 := by unfold sw; omega
theorem sw_sw (row : List Nat) (w : Nat) : sw row (sw row w) = w := by
  have h := sw_half row w
  rw [show sw row (sw row w) = 2 * (sw row w / 2) + (sw row w + row.getD (sw row w / 2) 0) % 2 from rfl, h]
  unfold sw
  omega
theorem sw_lt {row : List Nat} {w n : Nat} (h : w < 2 * n) : sw row w < 2 * n := by
  unfold sw
  omega
def nx (os : List (List Nat)) (k out : Nat) : Nat := if k < os.length then (os.getD k []).getD out 0 else out
def cur (os ss : List (List Nat)) : Nat → Nat → Nat
  | 0, w => w
  | k + 1, w => nx os k (sw (ss.getD k []) (cur os ss k w))
def out (os ss : List (List Nat)) (k w : Nat) : Nat := sw (ss.getD k []) (cur os ss k w)
theorem nx_lt {os : List (List Nat)} {n k w : Nat} (h : ∀ o ∈ os, IsP n o) (hw : w < n) : nx os k w < n := by
  unfold nx
  split
  · rename_i hk
    have hm : os.getD k [] ∈ os := by
      rw [List.getD_eq_getElem?_getD, List.getElem?_eq_getElem hk]
      exact List.getElem_mem hk
    obtain ⟨p, e, hp⟩ := (h _ hm).get hw
    rw [List.getD_eq_getElem?_getD, e]
    exact hp
  · exact hw
theorem cur_lt {os ss : List (List Nat)} {n : Nat} (h : ∀ o ∈ os, IsP (2 * n) o) : ∀ (k : Nat) {w : Nat}, w < 2 * n → cur os ss k w < 2 * n
  | 0, _, hw => hw
  | k + 1, _, hw => nx_lt h (sw_lt (cur_lt h k hw))
theorem out_lt {os ss : List (List Nat)} {n : Nat} (h : ∀ o ∈ os, IsP (2 * n) o) (k : Nat) {w : Nat} (hw : w < 2 * n) : out os ss k w < 2 * n := sw_lt (cur_lt h k hw)
/-- the way back -/
theorem back_out {os bs ss : List (List Nat)} {n : Nat} (h : ∀ o ∈ os, IsP (2 * n) o) (hl : bs.length = os.length) (hs : ss.length = os.length + 1) (hb : ∀ k, k < os.length → Turns (os.getD k []) (bs.getD (os.length - 1 - k) [])) {w : Nat} (hw : w < 2 * n) :
    ∀ k, k ≤ os.length → cur bs ss.reverse k (out os ss os.length w) = out os ss (os.length - k) w ∧ out bs ss.reverse k (out os ss os.length w) = cur os ss (os.length - k) w := by
  have sg : ∀ k, k ≤ os.length → ss.reverse.getD k [] = ss.getD (os.length - k) [] := fun k hk => by
    rw [List.getD_eq_getElem?_getD, List.getD_eq_getElem?_getD, List.getElem?_reverse (by omega), hs]
    congr 2
  have key : ∀ k, k ≤ os.length → cur bs ss.reverse k (out os ss os.length w) = out os ss (os.length - k) w → out bs ss.reverse k (out os ss os.length w) = cur os ss (os.length - k) w := fun k hk e => by
    unfold out at e ⊢
    rw [e, sg k hk, sw_sw]
  intro k
  induction k with
  | zero => intro hk; exact ⟨rfl, key 0 hk rfl⟩
  | succ k ih =>
    intro hk
    obtain ⟨i1, i2⟩ := ih (by omega)
    have c : cur bs ss.reverse (k + 1) (out os ss os.length w) = out os ss (os.length - (k + 1)) w := by
      show nx bs k (out bs ss.reverse k (out os ss os.length w)) = _
      rw [i2]
      have e1 : os.length - k = (os.length - (k + 1)) + 1 := by omega
      rw [e1]
      show nx bs k (nx os (os.length - (k + 1)) (out os ss (os.length - (k + 1)) w)) = _
      have ol := out_lt (ss := ss) h (os.length - (k + 1)) hw
      generalize out os ss (os.length - (k + 1)) w = q at ol
      unfold nx
      rw [if_pos (by omega), if_pos (by omega)]
      have ht := hb (os.length - (k + 1)) (by omega)
      rw [show os.length - 1 - (os.length - (k + 1)) = k by omega] at ht
      have hm : os.getD (os.length - (k + 1)) [] ∈ os := by
        rw [List.getD_eq_getElem?_getD, List.getElem?_eq_getElem (by omega)]
        exact List.getElem_mem _
      obtain ⟨p, e2, hp⟩ := (h _ hm).get ol
      have e3 := ht.at_ q p e2
      rw [show (os.getD (os.length - (k + 1)) []).getD q 0 = p by rw [List.getD_eq_getElem?_getD, e2]; rfl, List.getD_eq_getElem?_getD, e3]
      rfl
    exact ⟨c, key (k + 1) hk c⟩
def dN (n : Nat) : PyData := .int n
def dO (o : List Nat) : PyData := .tuple (o.map dN)
def dOs (os : List (List Nat)) : PyData := .tuple (os.map dO)
def dNet (b : Nat) (os : List (List Nat)) : PyData := .tuple [.int b, dOs os]
theorem intsD_map (ns : List Int) : intsD (ns.map PyData.int) = some ns := by
  induction ns with
  | nil => rfl
  | cons x r ih => simp [intsD, ih]
theorem boolsD_map (bs : List Bool) : boolsD (bs.map PyData.bool) = some bs := by
  induction bs with
  | nil => rfl
  | cons x r ih => simp [boolsD, ih]
theorem distinct_self : ∀ {ns : List Int}, ns.Nodup → distinct ns = ns
  | [], _ => rfl
  | x :: r, h => by
    obtain ⟨h1, h2⟩ := List.nodup_cons.mp h
    unfold distinct
    rw [if_neg h1, distinct_self h2]
theorem nodup_cast {o : List Nat} (h : o.Nodup) : (o.map fun x : Nat => (x : Int)).Nodup := by
  induction o with
  | nil => simp
  | cons x r ih =>
    obtain ⟨h1, h2⟩ := List.nodup_cons.mp h
    rw [List.map_cons]
    refine List.nodup_cons.mpr ⟨fun z => ?_, ih h2⟩
    obtain ⟨y, hy, e⟩ := List.mem_map.mp z
    have : y = x := by omega
    subst this
    exact h1 hy
theorem dN_map (o : List Nat) : o.map dN = (o.map fun x : Nat => (x : Int)).map PyData.int := by simp [dN, Function.comp_def]
structure VNet (b : Nat) (os : List (List Nat)) : Prop where
  b1 : 1 ≤ b
  b4 : b ≤ 4
  rows : os.length ≤ 6
  ok : ∀ o ∈ os, IsP (2 ^ b) o
theorem enumD_memO {k : Int} {ds : List PyData} {d : PyData} (h : d ∈ enumD k ds) : ∃ i x, d = .tuple [.int i, x] ∧ x ∈ ds := by
  induction ds generalizing k with
  | nil => cases h
  | cons n r ih =>
    rcases List.mem_cons.mp h with rfl | h
    · exact ⟨k, n, rfl, List.mem_cons_self⟩
    · obtain ⟨i, x, e, hk⟩ := ih h
      exact ⟨i, x, e, List.mem_cons_of_mem _ hk⟩
theorem enum_at {ds : List PyData} {j : Nat} {d : PyData} (h : (enumD 0 ds)[j]? = some d) : ∃ x, ds[j]? = some x ∧ d = .tuple [.int j, x] := by
  obtain ⟨x, e1, e2⟩ := enumD_get ds 0 j d h
  exact ⟨x, e1, by rw [e2, Int.zero_add]⟩
theorem map_at {α : Type} {f : α → PyData} {l : List α} {j : Nat} {d : PyData} (h : (l.map f)[j]? = some d) : ∃ x, l[j]? = some x ∧ d = f x := by
  rw [List.getElem?_map] at h
  cases e : l[j]? with
  | none => rw [e] at h; cases h
  | some x => rw [e] at h; cases h; exact ⟨x, rfl, rfl⟩
theorem ixN_nat {n p : Nat} (h : p < n) : ixN n (p : Int) = some p := by
  rw [ixN_nn (by omega) (by omega)]
  rfl
/-- stores that turn an order back -/
theorem turn_loop {body : DSt} {i1 : Nat} (n : Nat) (o : List Nat) (ho : IsP n o) (S : List PyData → Option VB → Option VB → Sx) (tgt : Tg)
    (hb : ∀ (ds : List PyData) (w p : Nat) (u v : Option VB), ds.length = n → p < n → ∃ s1, tgt (.tuple [.int w, dN p]) (S ds u v) = some s1 ∧ ∃ u' v', body s1 = .nx (S (ds.set p (dN w)) u' v'))
    (L0 : List Nat) (h0 : L0.length = n) (u v : Option VB) : ∃ L u' v', forD tgt body (enumD 0 (o.map dN)) (S (L0.map dN) u v) = .nx (S (L.map dN) u' v') ∧ Turns o L := by
  obtain ⟨s', e, L, u', v', rfl, hl, hT⟩ := forD_at (tgt := tgt) (body := body) (fun k s => ∃ L u v, s = S (L.map dN) u v ∧ L.length = n ∧ ∀ w p : Nat, w < k → o[w]? = some p → L[p]? = some w) (enumD 0 (o.map dN)) 0 (S (L0.map dN) u v)
    ⟨L0, u, v, rfl, h0, fun w p hw => absurd hw (by omega)⟩ (fun j d hd s hs => by
      obtain ⟨L, u, v, rfl, hl, hT⟩ := hs
      obtain ⟨x, hx, rfl⟩ := enum_at hd
      obtain ⟨p, hp, rfl⟩ := map_at hx
      have hpn : p < n := ho.lt p (List.mem_of_getElem? hp)
      obtain ⟨s1, a1, u', v', a2⟩ := hb (L.map dN) j p u v (by simpa using hl) hpn
      refine ⟨s1, _, a1, a2, L.set p j, u', v', by rw [List.map_set], by simpa using hl, fun w q hw hq => ?_⟩
      by_cases e : w = j
      · subst e
        rw [hp] at hq
        cases hq
        rw [List.getElem?_set_self (by omega)]
      · have hne : p ≠ q := fun z => by
          subst z
          exact e (ho.inj hq hp)
        rw [List.getElem?_set_ne hne]
        exact hT w q (by omega) hq)
  refine ⟨L, u', v', e, by rw [hl, ho.len], fun w p hw => hT w p ?_ hw⟩
  have := (List.getElem?_eq_some_iff.mp hw).1
  rw [enumD_len, List.length_map]
  omega
theorem pow_le {b : Nat} (h : b ≤ 4) : 2 ^ b ≤ 1000 := by
  have : 2 ^ b ≤ 2 ^ 4 := Nat.pow_le_pow_right (by decide) h
  omega
theorem VNet.turn {b : Nat} {os : List (List Nat)} (h : VNet b os) : VNet b (turnB os) := ⟨h.b1, h.b4, by simp [turnB]; exact h.rows, turnB_ok h.ok⟩
theorem gMulT_tup1 (x : PyData) {n : Nat} (h : n ≤ 1000) : gMulT (.tuple [x]) (.int n) = some (.dat (.tuple (List.replicate n x))) := by
  show (if (n : Int) ≤ 1000 ∧ -1000 ≤ (n : Int) ∧ [x].length ≤ 1000 then some (RV.dat (.tuple (List.replicate (n : Int).toNat [x]).flatten)) else none) = _
  rw [if_pos ⟨by omega, by omega, by simp⟩]
  simp
theorem gMulT_lst1 (x : PyData) {n : Nat} (h : n ≤ 1000) : gMulT (.list [x]) (.int n) = some (.tmp (List.replicate n x)) := by
  show (if (n : Int) ≤ 1000 ∧ -1000 ≤ (n : Int) ∧ [x].length ≤ 1000 then some (RV.tmp (List.replicate (n : Int).toNat [x]).flatten) else none) = _
  rw [if_pos ⟨by omega, by omega, by simp⟩]
  simp
theorem half_cast (b : Nat) : ((2 : Int) ^ b / 2) = ((2 ^ b / 2 : Nat) : Int) := by
  rw [Int.natCast_ediv, Int.natCast_pow]; rfl
theorem div_half {b : Nat} {s : Sx} {f : DE} (h : f s = .ok (.dat (.int (2 ^ b))) s) : dOp gDiv f (dC (.int 2)) s = .ok (.dat (.int ((2 ^ b / 2 : Nat) : Int))) s := by
  have e : gDiv (.int (2 ^ b)) (.int 2) = some (int_ ((2 ^ b / 2 : Nat) : Int)) := by
    show some (int_ ((2 : Int) ^ b / 2)) = _
    rw [half_cast]
  unfold dOp
  rw [h]
  show fin2 gDiv (.dat (.int (2 ^ b))) (.dat (.int 2)) s = _
  simp only [fin2, RV.res, e]
  rfl
structure VSets (b r : Nat) (ss : List (List Nat)) : Prop where
  len : ss.length = r
  ok : ∀ s ∈ ss, s.length = 2 ^ b / 2 ∧ ∀ x ∈ s, x ≤ 1
theorem rng_range (n : Nat) : rngD 0 1 n = (List.range n).map dN := by
  apply List.ext_getElem?
  intro i
  by_cases hi : i < n
  · rw [List.getElem?_map, List.getElem?_range hi]
    have hl : i < (rngD 0 1 n).length := by rw [rngD_len]; exact hi
    have e := List.getElem?_eq_getElem hl
    obtain ⟨a, _⟩ := rngD_get 1 n 0 i _ e
    rw [e, a]
    simp [dN]
  · rw [List.getElem?_eq_none (by rw [rngD_len]; omega), List.getElem?_eq_none (by simp; omega)]
theorem atI_dN {l : List Nat} {j : Nat} {i : Int} (e : i = (j : Int)) (h : j < l.length) : atI (l.map dN) i = some (.int (l.getD j 0 : Nat)) := by
  subst e
  unfold atI
  rw [ixN_nat (by simpa using h)]
  show (l.map dN)[j]? = _
  rw [List.getElem?_map, List.getD_eq_getElem?_getD, List.getElem?_eq_getElem h]
  rfl
theorem atI_dO {l : List (List Nat)} {j : Nat} {i : Int} (e : i = (j : Int)) (h : j < l.length) : atI (l.map dO) i = some (dO (l.getD j [])) := by
  subst e
  unfold atI
  rw [ixN_nat (by simpa using h)]
  show (l.map dO)[j]? = _
  rw [List.getElem?_map, List.getD_eq_getElem?_getD, List.getElem?_eq_getElem h]
  rfl
def natF (f : Nat → Nat) : PyData → PyData := fun d => match d with
  | .int i => .int (f i.toNat : Nat)
  | d => d
theorem natF_map (f : Nat → Nat) (l : List Nat) : (l.map dN).map (natF f) = (l.map f).map dN := by
  rw [List.map_map, List.map_map]
  refine List.map_congr_left fun x _ => ?_
  simp [natF, dN]
def ledS (b : Nat) (os ss : List (List Nat)) (ws : List Nat) (fs : List PyData) (u v : Option VB) : Sx := ⟨[some (.dat (dNet b os)), some (.dat (dOs ss)), some (.own (ws.map dN)), some (.own fs), u, v, none], m0⟩
theorem led_c1 {b j : Nat} {os ss : List (List Nat)} {ws row : List Nat} {fs : List PyData} (hw : ∀ w ∈ ws, w / 2 < row.length) (hl : ws.length ≤ 1000) :
    sSet 2 (dLc [6] (iSeq (dFrz (dVar 2))) (gN 6) tdYes (dFrz (dOp gAdd (dOp VL.gSub (dVar 6) (dOp gMod (dVar 6) (dC (.int 2)))) (dOp gMod (dOp gAdd (dOp gMod (dVar 6) (dC (.int 2))) (dOp gIx (dVar 5) (dOp gDiv (dVar 6) (dC (.int 2))))) (dC (.int 2)))))) (ledS b os ss ws fs (some (.dat (.int j))) (some (.dat (dO row))))
      = .nx (ledS b os ss (ws.map (sw row)) fs (some (.dat (.int j))) (some (.dat (dO row)))) := by
  let w0 : Sx := ⟨[some (.dat (dNet b os)), some (.dat (dOs ss)), some (.dat (.list (ws.map dN))), some (.own fs), some (.dat (.int j)), some (.dat (dO row)), none], m0⟩
  have e := dLc_map (vs := [6]) (it := iSeq (dFrz (dVar 2))) (tgt := gN 6) (test := tdYes) (elt := dFrz (dOp gAdd (dOp VL.gSub (dVar 6) (dOp gMod (dVar 6) (dC (.int 2)))) (dOp gMod (dOp gAdd (dOp gMod (dVar 6) (dC (.int 2))) (dOp gIx (dVar 5) (dOp gDiv (dVar 6) (dC (.int 2))))) (dC (.int 2)))))
    (s := ledS b os ss ws fs (some (.dat (.int j))) (some (.dat (dO row)))) (s1 := w0) (ds := ws.map dN) (natF (sw row)) w0 (by simp [ledS, iSeq, asSeq, starD, w0]) rfl rfl (by simp; omega) (fun d hd => by
      obtain ⟨w, hw', rfl⟩ := List.mem_map.mp hd
      have a1 : atI (row.map dN) ((w : Int) / 2) = some (.int (row.getD (w / 2) 0 : Nat)) := atI_dN (by omega) (hw w hw')
      refine ⟨_, _, ⟨[some (.dat (dNet b os)), some (.dat (dOs ss)), some (.dat (.list (ws.map dN))), some (.own fs), some (.dat (.int j)), some (.dat (dO row)), some (.dat (dN w))], m0⟩, rfl, rfl, ?_, rfl⟩
      have a2 : (w : Int) - w % 2 + (w % 2 + (row.getD (w / 2) 0 : Nat)) % 2 = (sw row w : Nat) := by
        unfold sw
        omega
      simp only [dN, natF, Int.toNat_natCast]
      rw [← a2]
      simp [w0, dN, dO, a1])
  rw [natF_map] at e
  rw [sSet, e]
  rfl
theorem led_c2 {b j : Nat} {os ss : List (List Nat)} {ws row : List Nat} {fs : List PyData} (hj : j < os.length) (hw : ∀ w ∈ ws, w < (os.getD j []).length) (hl : ws.length ≤ 1000) :
    sSet 2 (dLc [6] (iSeq (dFrz (dVar 2))) (gN 6) tdYes (dFrz (dOp gIx (dOp gIx (dOp gIx (dVar 0) (dC (.int 1))) (dVar 4)) (dVar 6)))) (ledS b os ss ws fs (some (.dat (.int j))) (some (.dat (dO row))))
      = .nx (ledS b os ss (ws.map fun w => (os.getD j []).getD w 0) fs (some (.dat (.int j))) (some (.dat (dO row)))) := by
  let w0 : Sx := ⟨[some (.dat (dNet b os)), some (.dat (dOs ss)), some (.dat (.list (ws.map dN))), some (.own fs), some (.dat (.int j)), some (.dat (dO row)), none], m0⟩
  have e := dLc_map (vs := [6]) (it := iSeq (dFrz (dVar 2))) (tgt := gN 6) (test := tdYes) (elt := dFrz (dOp gIx (dOp gIx (dOp gIx (dVar 0) (dC (.int 1))) (dVar 4)) (dVar 6)))
    (s := ledS b os ss ws fs (some (.dat (.int j))) (some (.dat (dO row)))) (s1 := w0) (ds := ws.map dN) (natF fun w => (os.getD j []).getD w 0) w0 (by simp [ledS, iSeq, asSeq, starD, w0]) rfl rfl (by simp; omega) (fun d hd => by
      obtain ⟨w, hw', rfl⟩ := List.mem_map.mp hd
      have a1 : atI ((os.getD j []).map dN) (w : Int) = some (.int ((os.getD j []).getD w 0 : Nat)) := atI_dN rfl (hw w hw')
      have a2 : atI (os.map dO) (j : Int) = some (dO (os.getD j [])) := atI_dO rfl hj
      refine ⟨_, _, ⟨[some (.dat (dNet b os)), some (.dat (dOs ss)), some (.dat (.list (ws.map dN))), some (.own fs), some (.dat (.int j)), some (.dat (dO row)), some (.dat (dN w))], m0⟩, rfl, rfl, ?_, rfl⟩
      have a3 : natF (fun w => (os.getD j []).getD w 0) (dN w) = .int ((os.getD j []).getD w 0 : Nat) := by simp [natF, dN]
      rw [a3]
      generalize (os.getD j []) = o at a1 a2 ⊢
      simp [w0, dN, dNet, dOs, a2]
      simp [dO, a1])
  rw [natF_map] at e
  rw [sSet, e]
  rfl
def outs (b : Nat) (os ss : List (List Nat)) (k : Nat) : List Nat := (List.range (2 ^ b)).map fun w => out os ss k w
def curs (b : Nat) (os ss : List (List Nat)) (k : Nat) : List Nat := (List.range (2 ^ b)).map fun w => cur os ss k w
theorem two_half {b : Nat} (h : 1 ≤ b) : 2 * (2 ^ b / 2) = 2 ^ b := by
  obtain ⟨c, rfl⟩ : ∃ c, b = c + 1 := ⟨b - 1, by omega⟩
  rw [Nat.pow_succ]
  omega
theorem okRg_nat {n : Nat} (hn : n ≤ 1000) : okRg 0 (n : Int) = true := by
  have h1 : okI 0 = true := by decide
  have h2 : okI (n : Int) = true := by
    unfold okI
    rw [decide_eq_true (show -big ≤ (n : Int) by unfold big; omega), decide_eq_true (show (n : Int) < big by unfold big; omega)]
    rfl
  unfold okRg
  rw [h1, h2, decide_eq_true (show (n : Int) - 0 ≤ 1000000 by omega)]
  rfl
theorem fRg_ok {mk : List PyData → RV} {a b : Int} {s : Sx} (h : okRg a b = true) : fRg mk (some a) (some b) s = .ok (mk (rngD a 1 (b - a).toNat)) s := by
  unfold fRg
  exact if_pos h
theorem bind_ok {α β : Type} (a : α) (s : Sx) (f : α → Sx → Out β) : (Out.ok a s).bind f = f a s := rfl
theorem listRg_0 {n : Nat} {f : DE} {s : Sx} (ok : okRg 0 (n : Int) = true) (h : f s = .ok (.dat (.int (n : Int))) s) : dListRg1 f s = .ok (.tmp (rngD 0 1 ((n : Int) - 0).toNat)) s := by
  have ha : asInt (.dat (.int (n : Int))) s = some (n : Int) := rfl
  unfold dListRg1
  rw [h]
  refine (bind_ok _ _ _).trans ?_
  refine (congrArg (fun z => fRg .tmp (some 0) z s) ha).trans ?_
  exact fRg_ok ok
theorem listRg_ok {n : Nat} {f : DE} {s : Sx} (hn : n ≤ 1000) (h : f s = .ok (.dat (.int (n : Int))) s) : dListRg1 f s = .ok (.tmp ((List.range n).map dN)) s := by
  rw [listRg_0 (okRg_nat hn) h, show ((n : Int) - 0).toNat = n by omega, rng_range]
def plainB : Nat → List (List Nat)
  | 2 => [[0, 2, 1, 3]]
  | 3 => [[0, 4, 1, 5, 2, 6, 3, 7], [0, 2, 1, 3, 4, 6, 5, 7]]
  | 4 => [[0, 8, 1, 9, 2, 10, 3, 11, 4, 12, 5, 13, 6, 14, 7, 15], [0, 4, 1, 5, 2, 6, 3, 7, 8, 12, 9, 13, 10, 14, 11, 15], [0, 2, 1, 3, 4, 6, 5, 7, 8, 10, 9, 11, 12, 14, 13, 15]]
  | _ => []
theorem isP_dec (n : Nat) (o : List Nat) (h : o.length = n ∧ (∀ x ∈ o, x < n) ∧ o.Nodup) : IsP n o := ⟨h.1, h.2.1, h.2.2⟩
theorem plainV {b : Nat} (h1 : 1 ≤ b) (h4 : b ≤ 4) : VNet b (plainB b) := by
  match b, h1, h4 with
  | 1, _, _ => exact ⟨by decide, by decide, by decide, fun o ho => by cases ho⟩
  | 2, _, _ => exact ⟨by decide, by decide, by decide, fun o ho => isP_dec _ _ (by revert o; decide)⟩
  | 3, _, _ => exact ⟨by decide, by decide, by decide, fun o ho => isP_dec _ _ (by revert o; decide)⟩
  | 4, _, _ => exact ⟨by decide, by decide, by decide, fun o ho => isP_dec _ _ (by revert o; decide)⟩
theorem plain_rows {b : Nat} (h1 : 1 ≤ b) (h4 : b ≤ 4) : (plainB b).length = b - 1 := by
  match b, h1, h4 with
  | 1, _, _ => rfl
  | 2, _, _ => rfl
  | 3, _, _ => rfl
  | 4, _, _ => rfl
theorem nats_sz {l : List Nat} {n : Nat} (h : ∀ x ∈ l, x < 100) (hn : l.length ≤ n) : Sz 1 (n * 4 + 3) (.list (l.map dN)) := Sz.lst (k := 0) (t := 2) (fun d hd => by
  obtain ⟨x, hx, rfl⟩ := List.mem_map.mp hd
  exact sz_nat (h x hx)) (by simpa using hn)
theorem map_erase {α β : Type} (f : α → β) : ∀ (l : List α) (r : Nat), (l.map f).eraseIdx r = (l.eraseIdx r).map f
  | [], _ => rfl
  | _ :: _, 0 => rfl
  | a :: t, r + 1 => by simp [map_erase f t r]
theorem erase_perm : ∀ (l : List Nat) (r : Nat) (h : r < l.length), (l[r] :: l.eraseIdx r).Perm l
  | _ :: _, 0, _ => List.Perm.refl _
  | a :: t, r + 1, h => by
    have := erase_perm t r (by simpa using h)
    simp only [List.getElem_cons_succ, List.eraseIdx_cons_succ]
    exact (List.Perm.swap _ _ _).trans (this.cons a)
theorem okI_nat {n : Nat} (h : n ≤ 1000) : okI (n : Int) = true := by
  unfold okI big
  rw [decide_eq_true (show (-4611686018427387904 : Int) ≤ n by omega), decide_eq_true (show (n : Int) < 4611686018427387904 by omega)]
  rfl
theorem iRng_ok {fi : DE} {s s1 : Sx} {n : Nat} (hi : fi s = .ok (.dat (.int (n : Nat))) s1) (hn : n ≤ 1000) : VL.iRng1 fi s = .ok ((List.range n).map dN) s1 := by
  unfold VL.iRng1
  rw [hi]
  have e : rng1 (asInt (.dat (.int (n : Int))) s1) = some ((List.range n).map dN) := by
    have e1 : asInt (.dat (.int (n : Int))) s1 = some (n : Int) := rfl
    rw [e1, ← rng_range]
    unfold rng1
    rw [Option.bind_some, if_pos (okI_nat hn), Int.toNat_natCast]
  rw [bind_ok, e]
  rfl
theorem set_same {l : List (Option VB)} {v : Nat} {x : Option VB} (h : l[v]? = some x) : l.set v x = l := by
  apply List.ext_getElem?
  intro i
  by_cases e : v = i
  · subst e
    rw [List.getElem?_set_self (List.getElem?_eq_some_iff.mp h).1, h]
  · rw [List.getElem?_set_ne e]
theorem wipe1 {g : List (Option VB)} {m : DS} {v : Nat} (h : g[v]? = some none) : wipeX [v] ⟨g, m⟩ = ⟨g, m⟩ := by
  show (⟨g.set v none, m⟩ : Sx) = _
  rw [set_same h]
theorem back1 {g : List (Option VB)} {m m' : DS} {v : Nat} (h : g[v]? = some none) : backX [v] ⟨g, m⟩ ⟨g, m'⟩ = ⟨g, m'⟩ := by
  show (⟨g.set v (g[v]?.getD none), m'⟩ : Sx) = _
  rw [h]
  show (⟨g.set v none, m'⟩ : Sx) = _
  rw [set_same h]
theorem wipe1s {g : List (Option VB)} {m : DS} {v : Nat} {x : Option VB} (h : g[v]? = some none) : wipeX [v] ⟨g.set v x, m⟩ = ⟨g, m⟩ := by
  show (⟨(g.set v x).set v none, m⟩ : Sx) = _
  rw [List.set_set, set_same h]
theorem drawL {B k v L : Nat} {g : List (Option VB)} {m : DS} (hd : g[k]? = some (some .drw)) (hv : k ≠ v) {x : Option VB} (hg : Good (B + 1) m) (h0 : 0 < L) (h1 : L < 1000) :
    ∃ (r : Nat) (m' : DS), dFrz (dCallM drawFn k (ddCons (dFrz (dC (.int (L : Nat)))) ddNil)) ⟨g.set v x, m⟩ = .ok (.int r) ⟨g.set v x, m'⟩ ∧ r < L ∧ Good B m' := by
  obtain ⟨r, m', e, hr, hg'⟩ := draw_good (L := (L : Int)) hg (by omega) (by omega)
  refine ⟨r, m', ?_, by omega, hg'⟩
  have e' : drawFn m [.int (L : Int)] = .ok (.int r) m' := e
  have hi : (g.set v x)[k]? = some (some .drw) := by rw [List.getElem?_set_ne hv.symm]; exact hd
  simp [hi, e']
theorem draws_lc {B k v n L : Nat} {fi : DE} {g : List (Option VB)} {m : DS} (hd : g[k]? = some (some .drw)) (hv : g[v]? = some none) (hi : fi ⟨g, m⟩ = .ok (.dat (.int (n : Nat))) ⟨g, m⟩) (hn : n ≤ 1000) (hg : Good (B + n) m) (h0 : 0 < L) (h1 : L < 1000) {Q : RV → Sx → Prop}
    (hq : ∀ (xs : List Nat) (m' : DS), xs.length = n → (∀ x ∈ xs, x < L) → Good B m' → Q (.tmp (xs.map dN)) ⟨g, m'⟩) : We (dLc [v] (iRng1 fi) (gN v) tdYes (dFrz (dCallM drawFn k (ddCons (dFrz (dC (.int (L : Nat)))) ddNil))) ⟨g, m⟩) Q := by
  have hkv : k ≠ v := fun e => by subst e; rw [hd] at hv; cases hv
  have eo : noOwn [v] ⟨g, m⟩ = true := by simp [noOwn, hv]
  refine we_lc1 (s1 := ⟨g, m⟩) (ds := (List.range n).map dN) (fun j acc s => ∃ xs m', acc = xs.map dN ∧ s = ⟨g, m'⟩ ∧ xs.length = j ∧ (∀ x ∈ xs, x < L) ∧ Good (B + (n - j)) m') ?_ eo (by simp; omega)
    ⟨[], m, rfl, wipe1 hv, rfl, fun x h => (by cases h), by rw [Nat.sub_zero]; exact hg⟩ ?_ ?_
  · exact iRng_ok hi hn
  · rintro j d acc s hj ⟨xs, m', rfl, rfl, hl, hx, hg'⟩
    have hjn : j < n := by have := (List.getElem?_eq_some_iff.mp hj).1; simpa using this
    refine ⟨_, rfl, ?_⟩
    obtain ⟨r, m2, e, hr, hg2⟩ := drawL (B := B + (n - (j + 1))) (v := v) (x := some (.dat d)) hd hkv (m := m') (by rw [show B + (n - (j + 1)) + 1 = B + (n - j) by omega]; exact hg') h0 h1
    refine we_ok e ⟨xs ++ [r], m2, by simp [dN], wipe1s hv, by simp [hl], fun x hx' => ?_, hg2⟩
    rcases List.mem_append.mp hx' with h | h
    · exact hx x h
    · rw [List.mem_singleton.mp h]; exact hr
  · rintro es s ⟨xs, m', rfl, rfl, hl, hx, hg'⟩
    rw [List.length_map, List.length_range] at hl hg'
    rw [back1 hv]
    exact hq xs m' hl hx (by simpa using hg')
/-! ### renaming switches -/
def A_ (S T : List Nat) (w : Nat) : Nat := 2 * S.getD (w / 2) 0 + (w + T.getD (w / 2) 0) % 2
theorem A_inj {k : Nat} {S T : List Nat} (h : IsP k S) {w v : Nat} (hw : w < 2 * k) (hv : v < 2 * k) (e : A_ S T w = A_ S T v) : w = v := by
  obtain ⟨p, e1, _⟩ := h.get (w := w / 2) (by omega)
  obtain ⟨q, e2, _⟩ := h.get (w := v / 2) (by omega)
  unfold A_ at e
  rw [List.getD_eq_getElem?_getD, e1, List.getD_eq_getElem?_getD (l := S), e2] at e
  simp only [Option.getD_some] at e
  have hpq : p = q := by omega
  subst hpq
  have := h.inj e1 e2
  rw [this] at e
  omega
theorem A_lt {k : Nat} {S T : List Nat} (h : IsP k S) {w : Nat} (hw : w < 2 * k) : A_ S T w < 2 * k := by
  obtain ⟨p, e1, hp⟩ := h.get (w := w / 2) (by omega)
  unfold A_
  rw [List.getD_eq_getElem?_getD, e1]
  simp only [Option.getD_some]
  omega
theorem A_surj {k : Nat} {S T : List Nat} (h : IsP k S) {i : Nat} (hi : i < 2 * k) : ∃ w, w < 2 * k ∧ A_ S T w = i := by
  obtain ⟨p, hp, e⟩ := h.surj (p := i / 2) (by omega)
  refine ⟨2 * p + (i + T.getD p 0) % 2, by omega, ?_⟩
  unfold A_
  rw [show (2 * p + (i + T.getD p 0) % 2) / 2 = p by omega, List.getD_eq_getElem?_getD (l := S), e]
  simp only [Option.getD_some]
  omega
theorem fresh_isP {k : Nat} {S T S' T' o F : List Nat} (h : IsP k S) (h' : IsP k S') (ho : IsP (2 * k) o) (hl : F.length = 2 * k) (hF : ∀ w, w < 2 * k → F[A_ S T w]? = some (A_ S' T' (o.getD w 0))) : IsP (2 * k) F := by
  have og : ∀ w, w < 2 * k → o.getD w 0 < 2 * k := fun w hw => by
    obtain ⟨p, e, hp⟩ := ho.get hw
    rw [List.getD_eq_getElem?_getD, e]
    exact hp
  refine ⟨hl, fun x hx => ?_, ?_⟩
  · obtain ⟨i, hi⟩ := List.mem_iff_getElem?.mp hx
    have hil : i < 2 * k := by rw [← hl]; exact (List.getElem?_eq_some_iff.mp hi).1
    obtain ⟨w, hw, rfl⟩ := A_surj (T := T) h hil
    rw [hF w hw] at hi
    cases hi
    exact A_lt h' (og w hw)
  · refine List.pairwise_iff_getElem.mpr fun i j hi hj hij e => ?_
    obtain ⟨w, hw, e1⟩ := A_surj (T := T) h (i := i) (by omega)
    obtain ⟨v, hv, e2⟩ := A_surj (T := T) h (i := j) (by omega)
    have a1 := hF w hw
    have a2 := hF v hv
    rw [e1, List.getElem?_eq_getElem hi] at a1
    rw [e2, List.getElem?_eq_getElem hj, ← e, a1] at a2
    have a3 := A_inj h' (og w hw) (og v hv) (Option.some.inj a2)
    obtain ⟨p, q1, _⟩ := ho.get hw
    obtain ⟨q, q2, _⟩ := ho.get hv
    rw [List.getD_eq_getElem?_getD, q1, List.getD_eq_getElem?_getD (l := o), q2] at a3
    simp only [Option.getD_some] at a3
    subst a3
    have := ho.inj q1 q2
    subst this
    omega
theorem perm_isP {n : Nat} {p : List Nat} (h : p.Perm (List.range n)) : IsP n p :=
  ⟨by rw [h.length_eq, List.length_range], fun x hx => List.mem_range.mp (h.subset hx), h.nodup_iff.mpr List.nodup_range⟩
def dL (l : List Nat) : PyData := .list (l.map dN)
theorem atI_dL {l : List (List Nat)} {j : Nat} {i : Int} (e : i = (j : Int)) (h : j < l.length) : atI (l.map dL) i = some (dL (l.getD j [])) := by
  subst e
  unfold atI
  rw [ixN_nat (by simpa using h)]
  show (l.map dL)[j]? = _
  rw [List.getElem?_map, List.getD_eq_getElem?_getD, List.getElem?_eq_getElem h]
  rfl
theorem drawQ {B : Nat} {m : DS} {L : Int} (h : Good (B + 1) m) (h0 : 0 < L) (h1 : L < 1073741824) : ∃ (r : Nat) (m' : DS), drawFn m [.int L] = .ok (.int r) m' ∧ (r : Int) < L ∧ Good B m' := draw_good h h0 h1
@[simp] theorem e_iRng1 (f : DE) (s : Sx) : VL.iRng1 f s = (f s).bind fun r s1 => liftO (rng1 (asInt r s1)) s1 := (rfl)
@[simp] theorem e_swap (k : Nat) (fi fj : DE) (fe : DD) (s : Sx) : sSwap k fi fj fe s = (fe s).toS fun d s1 => match d with
  | .tuple [a, b] => (stI k a fi s1).then fun s3 => (stI k b fj s3).then fun s4 => .nx s4
  | _ => .bad := (rfl)
@[simp] theorem e_stI (k : Nat) (d : PyData) (fi : DE) (s : Sx) : stI k d fi s = (match ownAt s k with
  | none => .bad
  | some _ => (fi s).toS fun r s2 => VL.putAt k d r s2) := (rfl)
@[simp] theorem e_sl (fa : DE) (fl fh : Sx → Out (Option Int)) (s : Sx) : dSl fa fl fh s = (fa s).bind fun r s1 => (fl s1).bind fun lo s2 => (fh s2).bind fun hi s3 =>
  match r.res s3 with
  | some d => (match gSl d lo hi with | some r => .ok r s3 | none => .bad)
  | none => .bad := (rfl)
@[simp] theorem e_no (s : Sx) : dNo s = .ok none s := (rfl)
@[simp] theorem e_part (f : DE) (s : Sx) : dPart f s = (f s).bind asI := (rfl)
@[simp] theorem e_asI (r : RV) (s : Sx) : asI r s = (match r.res s with
  | some (.int i) => .ok (some i) s
  | _ => .bad) := (rfl)
@[simp] theorem e_gSl_tup (ds : List PyData) (lo hi : Option Int) : gSl (.tuple ds) lo hi = some (.dat (.tuple (VL.cutD ds lo hi))) := (rfl)
@[simp] theorem e_gSl_list (ds : List PyData) (lo hi : Option Int) : gSl (.list ds) lo hi = some (.tmp (VL.cutD ds lo hi)) := (rfl)
theorem cut_to (ds : List PyData) (r : Nat) : VL.cutD ds none (some (r : Int)) = ds.take r := by
  unfold VL.cutD
  rw [HT.sIx_none, HT.sIx_nat]
  simp
theorem cut_from (ds : List PyData) (r : Nat) : VL.cutD ds (some (r : Int)) none = ds.drop r := by
  unfold VL.cutD
  rw [HT.sIx_none, HT.sIx_nat, List.take_of_length_le (by simp)]
  by_cases h : r ≤ ds.length
  · rw [Nat.min_eq_left h]
  · rw [Nat.min_eq_right (by omega), List.drop_of_length_le (Nat.le_refl _), List.drop_of_length_le (by omega)]
theorem swap_isP {n i j : Nat} {o : List Nat} (h : IsP n o) (hi : i < n) (hj : j < n) : IsP n ((o.set i (o.getD j 0)).set j (o.getD i 0)) := by
  have hl := h.len
  have gi : o.getD i 0 = o[i]'(by omega) := by rw [List.getD_eq_getElem?_getD, List.getElem?_eq_getElem (by omega)]; rfl
  have gj : o.getD j 0 = o[j]'(by omega) := by rw [List.getD_eq_getElem?_getD, List.getElem?_eq_getElem (by omega)]; rfl
  have inj : ∀ a b (ha : a < o.length) (hb : b < o.length), o[a] = o[b] → a = b := fun a b ha hb e => (List.getElem_inj h.nd).mp e
  refine ⟨by simp [hl], fun x hx => ?_, ?_⟩
  · rcases List.mem_or_eq_of_mem_set hx with hx | rfl
    · rcases List.mem_or_eq_of_mem_set hx with hx | rfl
      · exact h.lt x hx
      · rw [gj]; exact h.lt _ (List.getElem_mem _)
    · rw [gi]; exact h.lt _ (List.getElem_mem _)
  · refine List.pairwise_iff_getElem.mpr fun a b ha hb hab e => ?_
    simp only [List.length_set] at ha hb
    simp only [List.getElem_set, gi, gj] at e
    split at e <;> split at e <;> (try split at e) <;> (try split at e) <;> first
      | (have := inj _ _ _ _ e; omega)
      | omega
theorem sz_dO {o : List Nat} (h : ∀ x ∈ o, x < 100) (hl : o.length ≤ 16) : Sz 1 67 (dO o) := Sz.tup (k := 0) (t := 2) (n := 16) (fun d hd => by
  obtain ⟨x, hx, rfl⟩ := List.mem_map.mp hd
  exact sz_nat (h x hx)) (by simpa using hl)
theorem sz_dOs {os : List (List Nat)} (h : ∀ o ∈ os, (∀ x ∈ o, x < 100) ∧ o.length ≤ 16) (hl : os.length ≤ 7) : Sz 2 486 (dOs os) := Sz.tup (k := 1) (t := 67) (n := 7) (fun d hd => by
  obtain ⟨x, hx, rfl⟩ := List.mem_map.mp hd
  exact sz_dO (h x hx).1 (h x hx).2) (by simpa using hl)
theorem pow16 {b : Nat} (h : b ≤ 4) : 2 ^ b ≤ 16 := by
  have : 2 ^ b ≤ 2 ^ 4 := Nat.pow_le_pow_right (by decide) h
  exact this
theorem sz_net {b : Nat} {os : List (List Nat)} (h : VNet b os) : Sz 3 979 (dNet b os) := Sz.tup (k := 2) (t := 486) (n := 2) (fun d hd => by
  have hb := h.b4
  have h16 := pow16 hb
  rcases List.mem_cons.mp hd with rfl | hd
  · exact (sz_nat (by omega)).le (by decide) (by decide)
  · rw [List.mem_singleton.mp hd]
    exact sz_dOs (fun o ho => ⟨fun x hx => by have := (h.ok o ho).lt x hx; omega, by rw [(h.ok o ho).len]; omega⟩) (by have := h.rows; omega)) (by simp)
theorem sz_sets {b r : Nat} {ss : List (List Nat)} (hb : b ≤ 4) (hr : r ≤ 7) (h : VSets b r ss) : Sz 2 486 (dOs ss) := sz_dOs (fun o ho => ⟨fun x hx => by have := (h.ok o ho).2 x hx; omega, by rw [(h.ok o ho).1]; have := pow16 hb; omega⟩) (by rw [h.len]; omega)
theorem sz_l2 {k t : Nat} {a b : PyData} (h : Sz k t a) (h' : Sz k t b) : Sz (k + 1) (2 * (t + 2) + 3) (.list [a, b]) := Sz.lst (fun d hd => by
  rcases List.mem_cons.mp hd with rfl | hd
  · exact h
  · rw [List.mem_singleton.mp hd]; exact h') (by simp)
end G

namespace G
open PySem PySem.Spec PyProof.Rows L2 VL
/-! ### comprehensions, read -/
theorem lcA_mapE {α : Type} {vs : List Nat} {tgt : Tg} {elt : DD} {en f : α → PyData} {w : Sx} : ∀ (l : List α) (acc : List PyData), acc.length + l.length ≤ 1000000 →
    (∀ x ∈ l, ∃ s1 s3, tgt (en x) w = some s1 ∧ elt s1 = .ok (f x) s3 ∧ wipeX vs s3 = w) → lcA vs tgt tdYes elt acc (l.map en) w = .ok (acc ++ l.map f) w
  | [], acc, _, _ => by simp [lcA]
  | x :: r, acc, hl, h => by
    obtain ⟨s1, s3, e1, e2, e3⟩ := h x List.mem_cons_self
    have ih := lcA_mapE (vs := vs) (tgt := tgt) (elt := elt) (en := en) (f := f) (w := w) r (acc ++ [f x]) (by simp at hl ⊢; omega) fun y m => h y (List.mem_cons_of_mem _ m)
    rw [List.map_cons]
    unfold lcA
    rw [e1]
    simp only [tdYes, Out.nox, Out.bind, if_true, e2]
    rw [if_pos (by simp at hl; omega), e3]
    rw [ih]
    simp
theorem lc2A_mapE {α β : Type} {vs vs1 : List Nat} {tgt tgt1 : Tg} {it1 : DDs} {elt : DD} {en : α → PyData} {inn : α → List β} {en1 : α → β → PyData} {f : α → β → PyData} {w : Sx} : ∀ (l : List α) (acc : List PyData), acc.length + (l.flatMap inn).length ≤ 1000000 →
    (∀ x ∈ l, ∃ s2 s3 w1, tgt (en x) w = some s2 ∧ it1 s2 = .ok ((inn x).map (en1 x)) s3 ∧ wipeX vs1 s3 = w1 ∧ (∀ y ∈ inn x, ∃ s4 s5, tgt1 (en1 x y) w1 = some s4 ∧ elt s4 = .ok (f x y) s5 ∧ wipeX vs1 s5 = w1) ∧ wipeX vs w1 = w) →
    lc2A vs vs1 tgt tdYes it1 tgt1 tdYes elt acc (l.map en) w = .ok (acc ++ l.flatMap fun x => (inn x).map (f x)) w
  | [], acc, _, _ => by simp [lc2A]
  | x :: r, acc, hl, h => by
    obtain ⟨s2, s3, w1, e1, e2, e3, e4, e5⟩ := h x List.mem_cons_self
    rw [List.flatMap_cons, List.length_append] at hl
    have ih := lc2A_mapE (vs := vs) (vs1 := vs1) (tgt := tgt) (tgt1 := tgt1) (it1 := it1) (elt := elt) (en := en) (inn := inn) (en1 := en1) (f := f) (w := w) r (acc ++ (inn x).map (f x)) (by simp at hl ⊢; omega) fun y m => h y (List.mem_cons_of_mem _ m)
    have i1 := lcA_mapE (vs := vs1) (tgt := tgt1) (elt := elt) (en := en1 x) (f := f x) (w := w1) (inn x) acc (by omega) e4
    rw [List.map_cons]
    unfold lc2A
    rw [e1]
    simp only [tdYes, Out.nox, Out.bind, if_true, e2, e3]
    rw [i1]
    simp only [e5]
    rw [ih]
    simp
theorem lc2_map {α β : Type} {s s1 : Sx} {vs vs1 : List Nat} {it it1 : DDs} {tgt tgt1 : Tg} {elt : DD} {l : List α} {en : α → PyData} {inn : α → List β} {en1 : α → β → PyData} (f : α → β → PyData) (w : Sx) (hi : it s = .ok (l.map en) s1) (hw : wipeX vs s1 = w) (hk : backX vs s1 w = s1) (ho : noOwn vs s1 = true) (hl : (l.flatMap inn).length ≤ 1000000)
    (h : ∀ x ∈ l, ∃ s2 s3 w1, tgt (en x) w = some s2 ∧ it1 s2 = .ok ((inn x).map (en1 x)) s3 ∧ wipeX vs1 s3 = w1 ∧ (∀ y ∈ inn x, ∃ s4 s5, tgt1 (en1 x y) w1 = some s4 ∧ elt s4 = .ok (f x y) s5 ∧ wipeX vs1 s5 = w1) ∧ wipeX vs w1 = w) :
    dLc2 vs vs1 it tgt tdYes it1 tgt1 tdYes elt s = .ok (.tmp (l.flatMap fun x => (inn x).map (f x))) s1 := by
  unfold dLc2
  rw [hi]
  simp only [Out.bind, ho, if_true, hw]
  rw [lc2A_mapE l [] (by simpa using hl) h]
  simp [hk]
/-- with a test -/
theorem lcA_filE {α : Type} {vs : List Nat} {tgt : Tg} {test : DT} {elt : DD} {en f : α → PyData} {p : α → Bool} {w : Sx} : ∀ (l : List α) (acc : List PyData), acc.length + l.length ≤ 1000000 →
    (∀ x ∈ l, ∃ s1 s2 s3, tgt (en x) w = some s1 ∧ test s1 = .ok (p x) s2 ∧ wipeX vs s2 = w ∧ (p x = true → elt s2 = .ok (f x) s3 ∧ wipeX vs s3 = w)) → lcA vs tgt test elt acc (l.map en) w = .ok (acc ++ (l.filter p).map f) w
  | [], acc, _, _ => by simp [lcA]
  | x :: r, acc, hl, h => by
    obtain ⟨s1, s2, s3, e1, e2, e3, e4⟩ := h x List.mem_cons_self
    rw [List.map_cons]
    unfold lcA
    rw [e1]
    simp only [e2, Out.nox, Out.bind]
    cases q : p x with
    | true =>
      obtain ⟨e5, e6⟩ := e4 q
      have ih := lcA_filE (vs := vs) (tgt := tgt) (test := test) (elt := elt) (en := en) (f := f) (p := p) (w := w) r (acc ++ [f x]) (by simp at hl ⊢; omega) fun d' m => h d' (List.mem_cons_of_mem _ m)
      simp only [e5, Out.nox, Out.bind, if_true]
      rw [if_pos (by simp at hl; omega), e6, ih]
      simp [List.filter_cons, q]
    | false =>
      have ih := lcA_filE (vs := vs) (tgt := tgt) (test := test) (elt := elt) (en := en) (f := f) (p := p) (w := w) r acc (by simp at hl ⊢; omega) fun d' m => h d' (List.mem_cons_of_mem _ m)
      simp only [Bool.false_eq_true, if_false]
      rw [e3, ih]
      simp [List.filter_cons, q]
theorem lc_fil {α : Type} {s s1 : Sx} {vs : List Nat} {it : DDs} {tgt : Tg} {test : DT} {elt : DD} {l : List α} {en : α → PyData} (f : α → PyData) (p : α → Bool) (w : Sx) (hi : it s = .ok (l.map en) s1) (hw : wipeX vs s1 = w) (hk : backX vs s1 w = s1) (ho : noOwn vs s1 = true) (hl : l.length ≤ 1000000)
    (h : ∀ x ∈ l, ∃ s1 s2 s3, tgt (en x) w = some s1 ∧ test s1 = .ok (p x) s2 ∧ wipeX vs s2 = w ∧ (p x = true → elt s2 = .ok (f x) s3 ∧ wipeX vs s3 = w)) : dLc vs it tgt test elt s = .ok (.tmp ((l.filter p).map f)) s1 := by
  unfold dLc
  rw [hi]
  simp only [Out.bind, ho, if_true, hw]
  rw [lcA_filE l [] (by simpa using hl) h]
  simp [hk]
/-! ### ways -/
def fstW (b : Nat) : Nat := b - b % 2
def nextW (os : List (List Nat)) (k w : Nat) : List Nat := [fstW ((os.getD k []).getD w 0), fstW ((os.getD k []).getD w 0) + 1]
def lastW (way : List Nat) : Nat := way.getLastD 0
def allW (os : List (List Nat)) (b : Nat) : Nat → List (List Nat)
  | 0 => [[fstW b], [fstW b + 1]]
  | k + 1 => (allW os b k).flatMap fun way => (nextW os k (lastW way)).map fun w => way ++ [w]
/-- a way from an in -/
structure IsW (os : List (List Nat)) (n b k : Nat) (way : List Nat) : Prop where
  len : way.length = k + 1
  lt : ∀ x ∈ way, x < n
  fst : way.getD 0 0 / 2 = b / 2
  nxt : ∀ r, r < k → way.getD (r + 1) 0 ∈ nextW os r (way.getD r 0)
theorem lastW_app (way : List Nat) (w : Nat) : lastW (way ++ [w]) = w := by simp [lastW]
theorem lastW_at {way : List Nat} {k : Nat} (h : way.length = k + 1) : lastW way = way.getD k 0 := by
  unfold lastW
  rw [List.getLastD_eq_getLast?, List.getLast?_eq_getElem?, h, List.getD_eq_getElem?_getD]
  rfl
theorem allW_len (os : List (List Nat)) (b : Nat) : ∀ k, (allW os b k).length = 2 ^ (k + 1)
  | 0 => rfl
  | k + 1 => by
    have ih := allW_len os b k
    unfold allW
    rw [List.length_flatMap]
    have : (fun way : List Nat => ((nextW os k (lastW way)).map fun w => way ++ [w]).length) = fun _ => 2 := by
      funext way
      simp [nextW]
    rw [this, List.map_const', List.sum_replicate_nat, ih]
    rw [Nat.pow_succ (n := 2) (m := k + 1)]
theorem allW_isW {os : List (List Nat)} {n b : Nat} (h : ∀ o ∈ os, IsP (2 * n) o) (hb : b < 2 * n) : ∀ k, k ≤ os.length → ∀ way ∈ allW os b k, IsW os (2 * n) b k way
  | 0, _, way, hm => by
    have hm : way = [fstW b] ∨ way = [fstW b + 1] := by simpa [allW] using hm
    rcases hm with rfl | rfl
    · exact ⟨rfl, fun x hx => by simp [fstW] at hx; omega, by simp [fstW]; omega, fun r hr => absurd hr (by omega)⟩
    · exact ⟨rfl, fun x hx => by simp [fstW] at hx; omega, by simp [fstW]; omega, fun r hr => absurd hr (by omega)⟩
  | k + 1, hk, way, hm => by
    unfold allW at hm
    obtain ⟨w0, hw0, hm⟩ := List.mem_flatMap.mp hm
    obtain ⟨w, hw, rfl⟩ := List.mem_map.mp hm
    have ih := allW_isW h hb k (by omega) w0 hw0
    have hl := ih.len
    have ho : os.getD k [] ∈ os := by
      rw [List.getD_eq_getElem?_getD, List.getElem?_eq_getElem (by omega)]
      exact List.getElem_mem _
    have hlast : lastW w0 < 2 * n := by
      rw [lastW_at hl, List.getD_eq_getElem?_getD, List.getElem?_eq_getElem (by omega)]
      exact ih.lt _ (List.getElem_mem _)
    obtain ⟨p, ep, hp⟩ := (h _ ho).get hlast
    have ep' : (os.getD k []).getD (lastW w0) 0 = p := by rw [List.getD_eq_getElem?_getD, ep]; rfl
    have hwn : w < 2 * n := by
      unfold nextW at hw
      rw [ep'] at hw
      simp [fstW] at hw
      omega
    have old : ∀ r, r ≤ k → (w0 ++ [w]).getD r 0 = w0.getD r 0 := fun r hr => by
      rw [List.getD_eq_getElem?_getD, List.getElem?_append_left (by omega), List.getD_eq_getElem?_getD]
    refine ⟨by simp [hl], fun x hx => ?_, by rw [old 0 (by omega)]; exact ih.fst, fun r hr => ?_⟩
    · rcases List.mem_append.mp hx with hx | hx
      · exact ih.lt x hx
      · rw [List.mem_singleton.mp hx]; exact hwn
    · by_cases hrk : r = k
      · subst hrk
        have e1 : (w0 ++ [w]).getD (r + 1) 0 = w := by
          rw [List.getD_eq_getElem?_getD, List.getElem?_append_right (by omega), hl]
          simp
        rw [e1, old r (by omega), ← lastW_at hl]
        exact hw
      · rw [old r (by omega), old (r + 1) (by omega)]
        exact ih.nxt r (by omega)
/-! ### sorting and choosing -/
theorem sort_filter {l : List PyData} {p : PyData → Bool} (h : ∀ x ∈ l, ∀ y ∈ l, cmpb x y = true) : (sortD l).filter p = sortD (l.filter p) := by
  have pm := sortD_perm l
  refine rising_uniq (fun x hx y hy => h x (pm.mem_iff.mp (List.mem_filter.mp hx).1) y (pm.mem_iff.mp (List.mem_filter.mp hy).1)) ((sortD_rising l).sublist List.filter_sublist) (sortD_rising _) ?_
  exact (pm.filter p).trans (sortD_perm _).symm
theorem cmpb_dO : ∀ xs ys : List Nat, cmpb (dO xs) (dO ys) = true := by
  intro xs
  show ∀ ys : List Nat, cmpbL (xs.map dN) (ys.map dN) = true
  induction xs with
  | nil => intro ys; simp [cmpbL]
  | cons x xs ih =>
    intro ys
    cases ys with
    | nil => rfl
    | cons y ys =>
      show (cmpb (dN x) (dN y) && cmpbL (xs.map dN) (ys.map dN)) = true
      rw [ih ys]
      rfl
end G

namespace G
open PySem PySem.Spec PyProof.Rows L2 VL
/-! ### the ends of ways; banyan nets -/
def ends (os : List (List Nat)) (i : Nat) : Nat → List Nat
  | 0 => [fstW i, fstW i + 1]
  | k + 1 => (ends os i k).flatMap (nextW os k)
theorem ends_all (os : List (List Nat)) (i : Nat) : ∀ k, (allW os i k).map lastW = ends os i k
  | 0 => rfl
  | k + 1 => by
    unfold allW ends
    rw [← ends_all os i k, List.map_flatMap, List.flatMap_map]
    congr 1
    funext way
    simp [lastW_app, Function.comp_def]
def Ban (b : Nat) (os : List (List Nat)) : Prop := ∀ i, i < 2 ^ b → ∀ e, e < 2 ^ b → (ends os i os.length).count e = 1
theorem perm_flatMap {α β : Type} {f g : α → List β} : ∀ {l : List α}, (∀ a ∈ l, (f a).Perm (g a)) → (l.flatMap f).Perm (l.flatMap g)
  | [], _ => .refl _
  | a :: l, h => by
    rw [List.flatMap_cons, List.flatMap_cons]
    exact (h a List.mem_cons_self).append (perm_flatMap fun x hx => h x (List.mem_cons_of_mem _ hx))
theorem perm_flatMapR {α β : Type} (f : α → List β) {l m : List α} (h : l.Perm m) : (l.flatMap f).Perm (m.flatMap f) := by
  induction h with
  | nil => exact .refl _
  | cons x _ ih => rw [List.flatMap_cons, List.flatMap_cons]; exact ih.append_left _
  | swap x y l =>
    rw [List.flatMap_cons, List.flatMap_cons, List.flatMap_cons, List.flatMap_cons, ← List.append_assoc, ← List.append_assoc]
    exact (List.perm_append_comm).append_right _
  | trans _ _ a b => exact a.trans b
theorem ends_lt {os : List (List Nat)} {n i : Nat} (h : ∀ o ∈ os, IsP (2 * n) o) (hi : i < 2 * n) : ∀ k, k ≤ os.length → ∀ w ∈ ends os i k, w < 2 * n
  | 0, _, w, hw => by
    have : w = fstW i ∨ w = fstW i + 1 := by simpa [ends] using hw
    unfold fstW at this
    omega
  | k + 1, hk, w, hw => by
    unfold ends at hw
    obtain ⟨v, hv, hw⟩ := List.mem_flatMap.mp hw
    have ih := ends_lt h hi k (by omega) v hv
    have ho : os.getD k [] ∈ os := by
      rw [List.getD_eq_getElem?_getD, List.getElem?_eq_getElem (by omega)]
      exact List.getElem_mem _
    obtain ⟨p, ep, hp⟩ := (h _ ho).get ih
    have ep' : (os.getD k []).getD v 0 = p := by rw [List.getD_eq_getElem?_getD, ep]; rfl
    unfold nextW at hw
    rw [ep'] at hw
    have : w = fstW p ∨ w = fstW p + 1 := by simpa using hw
    unfold fstW at this
    omega
/-- a net with its switches renamed, wires changed at switches -/
structure Ren (k : Nat) (sp os fs : List (List Nat)) : Prop where
  len : fs.length = os.length
  sl : sp.length = os.length + 1
  nm : ∀ p ∈ sp, IsP k p
  at_ : ∀ r, r < os.length → ∃ T T', ∀ w, w < 2 * k → (fs.getD r []).getD (A_ (sp.getD r []) T w) 0 = A_ (sp.getD (r + 1) []) T' ((os.getD r []).getD w 0)
theorem getD_mem {l : List (List Nat)} {i : Nat} (hi : i < l.length) : l.getD i [] ∈ l := by
  rw [List.getD_eq_getElem?_getD, List.getElem?_eq_getElem hi]
  exact List.getElem_mem hi
theorem A_half (S T : List Nat) (w : Nat) : A_ S T w / 2 = S.getD (w / 2) 0 := by unfold A_; omega
theorem A_two (S T : List Nat) (q : Nat) : [2 * S.getD q 0, 2 * S.getD q 0 + 1].Perm [A_ S T (2 * q), A_ S T (2 * q + 1)] := by
  unfold A_
  rw [show 2 * q / 2 = q by omega, show (2 * q + 1) / 2 = q by omega]
  generalize T.getD q 0 = t
  generalize S.getD q 0 = s
  by_cases ht : t % 2 = 0
  · rw [show (2 * q + t) % 2 = 0 by omega, show (2 * q + 1 + t) % 2 = 1 by omega]
    exact .refl _
  · rw [show (2 * q + t) % 2 = 1 by omega, show (2 * q + 1 + t) % 2 = 0 by omega]
    exact .swap _ _ _
theorem Ren.ends {k : Nat} {sp os fs : List (List Nat)} (R : Ren k sp os fs) (ho : ∀ o ∈ os, IsP (2 * k) o) {i i' : Nat} (hi : i < 2 * k) (he : i' / 2 = (sp.getD 0 []).getD (i / 2) 0) :
    ∀ r, r ≤ os.length → ∀ T, (r < os.length → ∃ T', ∀ w, w < 2 * k → (fs.getD r []).getD (A_ (sp.getD r []) T w) 0 = A_ (sp.getD (r + 1) []) T' ((os.getD r []).getD w 0)) → (G.ends fs i' r).Perm ((G.ends os i r).map (A_ (sp.getD r []) T))
  | 0, _, T, _ => by
    have h := A_two (sp.getD 0 []) T (i / 2)
    unfold G.ends
    rw [show fstW i' = 2 * (i' / 2) by unfold fstW; omega, he, show fstW i = 2 * (i / 2) by unfold fstW; omega]
    exact h
  | r + 1, hr, T, _ => by
    obtain ⟨T0, T', hT⟩ := R.at_ r (by omega)
    have ih := Ren.ends R ho hi he r (by omega) T0 (fun _ => ⟨T', hT⟩)
    have lt := ends_lt ho hi r (by omega)
    unfold G.ends
    refine (perm_flatMapR _ ih).trans ?_
    rw [List.flatMap_map, List.map_flatMap]
    refine perm_flatMap fun w hw => ?_
    have hw := lt w hw
    have e := hT w hw
    have hh := A_half (sp.getD (r + 1) []) T' ((os.getD r []).getD w 0)
    unfold nextW
    rw [e, show fstW (A_ (sp.getD (r + 1) []) T' ((os.getD r []).getD w 0)) = 2 * (A_ (sp.getD (r + 1) []) T' ((os.getD r []).getD w 0) / 2) by unfold fstW; omega, hh]
    rw [show fstW ((os.getD r []).getD w 0) = 2 * ((os.getD r []).getD w 0 / 2) by unfold fstW; omega]
    exact A_two _ T _
theorem count_map_on {f : Nat → Nat} {l : List Nat} {e : Nat} (h : ∀ x ∈ l, f x = f e → x = e) : (l.map f).count (f e) = l.count e := by
  induction l with
  | nil => rfl
  | cons a l ih =>
    rw [List.map_cons, List.count_cons, List.count_cons, ih fun x hx => h x (List.mem_cons_of_mem _ hx)]
    by_cases q : a = e
    · subst q; simp
    · have : f a ≠ f e := fun z => q (h a List.mem_cons_self z)
      simp [q, this]
theorem Ren.ban {b k : Nat} {sp os fs : List (List Nat)} (hk : 2 * k = 2 ^ b) (R : Ren k sp os fs) (ho : ∀ o ∈ os, IsP (2 * k) o) (hb : Ban b os) : Ban b fs := fun i' hi' e' he' => by
  have n0 := R.nm _ (getD_mem (i := 0) (by rw [R.sl]; omega))
  have nl := R.nm _ (getD_mem (i := os.length) (by rw [R.sl]; omega))
  obtain ⟨p, hp, e1⟩ := n0.surj (p := i' / 2) (by omega)
  obtain ⟨e, hee, rfl⟩ := A_surj (T := []) nl (i := e') (by omega)
  have hm := R.ends ho (i := 2 * p) (i' := i') (by omega) (by rw [show 2 * p / 2 = p by omega, List.getD_eq_getElem?_getD (l := sp.getD 0 []), e1]; rfl) os.length (Nat.le_refl _) [] (fun z => absurd z (Nat.lt_irrefl _))
  have lt := ends_lt (i := 2 * p) ho (by omega) os.length (Nat.le_refl _)
  rw [R.len, hm.count_eq, count_map_on (fun x hx z => A_inj nl (lt x hx) hee z)]
  exact hb _ (by omega) _ (by omega)
instance (b : Nat) (os : List (List Nat)) : Decidable (Ban b os) := by unfold Ban; infer_instance
theorem plain_ban {b : Nat} (h1 : 1 ≤ b) (h4 : b ≤ 4) : Ban b (plainB b) := by
  have : b = 1 ∨ b = 2 ∨ b = 3 ∨ b = 4 := by omega
  rcases this with rfl | rfl | rfl | rfl <;> decide +kernel
end G

namespace G
open PySem PySem.Spec PyProof.Rows L2 VL
theorem enum_range (l : List Nat) : enumD 0 (l.map dN) = (List.range l.length).map fun r => PyData.tuple [.int (r : Nat), dN (l.getD r 0)] := by
  apply List.ext_getElem?
  intro i
  by_cases h : i < l.length
  · have h1 : i < (enumD 0 (l.map dN)).length := by rw [enumD_len, List.length_map]; exact h
    obtain ⟨d, hd⟩ : ∃ d, (enumD 0 (l.map dN))[i]? = some d := ⟨_, List.getElem?_eq_getElem h1⟩
    obtain ⟨x, hx, rfl⟩ := enum_at hd
    obtain ⟨y, hy, rfl⟩ := map_at hx
    rw [hd, List.getElem?_map, List.getElem?_range h]
    simp [hy]
  · rw [List.getElem?_eq_none (by rw [enumD_len, List.length_map]; omega), List.getElem?_eq_none (by simp; omega)]
def apart (way : List Nat) (ws : List (List Nat)) : Bool := ws.all fun o => (List.range way.length).all fun r => !(way.getD r 0 == o.getD r 0)
theorem sz_dO' {o : List Nat} (h : ∀ x ∈ o, x < 100) (hl : o.length ≤ 16) : Sz 1 67 (dO o) := Sz.tup (k := 0) (t := 2) (n := 16) (fun d hd => by
  obtain ⟨x, hx, rfl⟩ := List.mem_map.mp hd
  exact sz_nat (h x hx)) (by simpa using hl)
theorem sortOk_dO {l : List (List Nat)} (h : ∀ w ∈ l, w ≠ [] ∧ (∀ x ∈ w, x < 100) ∧ w.length ≤ 16) (hl : l.length ≤ 1000) : sortOk (l.map dO) = true := by
  unfold sortOk
  have h1 : (l.map dO).all (fun d => (l.map dO).all (cmpb d)) = true := by
    refine List.all_eq_true.mpr fun d hd => List.all_eq_true.mpr fun e he => ?_
    obtain ⟨x, _, rfl⟩ := List.mem_map.mp hd
    obtain ⟨y, _, rfl⟩ := List.mem_map.mp he
    exact cmpb_dO x y
  have h2 : (l.map dO).all isTupC = true := by
    refine List.all_eq_true.mpr fun d hd => ?_
    obtain ⟨x, hx, rfl⟩ := List.mem_map.mp hd
    cases x with
    | nil => exact absurd rfl (h [] hx).1
    | cons a b => rfl
  have h3 : SeqAt.shaped (.list (l.map dO)) = true := (Sz.lst (k := 1) (t := 67) (n := 1000) (fun d hd => by
    obtain ⟨x, hx, rfl⟩ := List.mem_map.mp hd
    exact sz_dO' (h x hx).2.1 (h x hx).2.2) (by simpa using hl)).shaped (by decide)
  rw [h1, h2, h3, decide_eq_true (by rw [List.length_map]; omega)]
  rfl
theorem gIx_last {way : List Nat} {k : Nat} (h : way.length = k + 1) : gIx (dO way) (.int (-1)) = some (.dat (.int (lastW way : Nat))) := by
  show (atI (way.map dN) (-1)).map RV.dat = _
  unfold atI ixN
  rw [if_neg (by decide), if_pos (by rw [List.length_map]; omega)]
  rw [List.length_map, h, show (-1 + ((k + 1 : Nat) : Int)).toNat = k by omega]
  show ((way.map dN)[k]?).map RV.dat = _
  rw [List.getElem?_map, List.getElem?_eq_getElem (by omega), lastW_at h, List.getD_eq_getElem?_getD, List.getElem?_eq_getElem (by omega)]
  rfl
def waysTo (os : List (List Nat)) (b e : Nat) : List (List Nat) := (allW os b os.length).filter fun w => lastW w == e
def wS (b : Nat) (os : List (List Nat)) (i e : Nat) (x4 x5 : Option VB) : Sx := ⟨[some (.dat (dNet b os)), some (.dat (.int i)), some (.dat (.int e)), some (.dat (.int (fstW i : Nat))), x4, x5, none, none], m0⟩
theorem ways_lt {b i k : Nat} {os : List (List Nat)} (h : VNet b os) (hi : i < 2 ^ b) (hk : k ≤ os.length) : ∀ w ∈ allW os i k, IsW os (2 ^ b) i k w := by
  have hb := two_half h.b1
  have := allW_isW (os := os) (n := 2 ^ b / 2) (b := i) (by rw [hb]; exact h.ok) (by omega) k hk
  rw [hb] at this
  exact this
def iwS (b : Nat) (os : List (List Nat)) (i e : Nat) (way : List Nat) : Sx := ⟨[some (.dat (dNet b os)), some (.dat (.int i)), some (.dat (.int e)), some (.dat (dO way)), none, none], m0⟩
theorem gIx_dO {o : List Nat} {r : Nat} (h : r < o.length) : gIx (dO o) (.int (r : Int)) = some (.dat (.int (o.getD r 0 : Nat))) := by
  show (atI (o.map dN) _).map RV.dat = _
  rw [atI_dN rfl h]
  rfl
theorem fstW_mem {p w : Nat} (h : w ∈ [fstW p, fstW p + 1]) : w = fstW p ∨ w = fstW p + 1 := by simpa using h
theorem gIn_nats {x : Nat} {l : List Nat} (hl : ∀ y ∈ l, y < 100) (hn : l.length ≤ 1000) : gIn (.int (x : Int)) (.list (l.map dN)) = some (bl_ (l.contains x)) := by
  show (if SeqAt.shaped (.int (x : Int)) = true ∧ SeqAt.shaped (.list (l.map dN)) = true then some (bl_ ((l.map dN).any fun z => PyData.eqv z (.int (x : Int)))) else none) = _
  rw [if_pos ⟨rfl, (nats_sz hl hn).shaped (by decide)⟩]
  congr 2
  rw [List.any_map]
  induction l with
  | nil => rfl
  | cons a t ih =>
    rw [List.any_cons, List.contains_cons, ih (fun y hy => hl y (List.mem_cons_of_mem _ hy)) (by simp at hn; omega)]
    congr 1
    show ((a : Int) == (x : Int)) = (x == a)
    by_cases h : x = a
    · subst h
      rw [beq_self_eq_true, beq_self_eq_true]
    · have h1 : ¬ (a : Int) = x := by omega
      rw [beq_eq_false_iff_ne.mpr h, beq_eq_false_iff_ne.mpr h1]
abbrev Cl := Nat × List Nat
def dCl (c : Cl) : PyData := .tuple [.int (c.1 : Nat), dO c.2]
def dSt (st : List Cl) : PyData := .tuple (st.map dCl)
structure VState (b : Nat) (os : List (List Nat)) (st : List Cl) : Prop where
  lt : ∀ c ∈ st, c.1 < 2 ^ b
  way : ∀ c ∈ st, IsW os (2 ^ b) c.1 os.length c.2
  asc : st.Pairwise fun c d => c.1 < d.1
  ap : st.Pairwise fun c d => apart d.2 [c.2] = true
theorem apart_all {way : List Nat} {ws : List (List Nat)} (h : ∀ o ∈ ws, apart way [o] = true) : apart way ws = true := by
  unfold apart
  refine List.all_eq_true.mpr fun o ho => ?_
  have := h o ho
  unfold apart at this
  simpa using this
theorem apart_mem {way : List Nat} {ws : List (List Nat)} (h : apart way ws = true) {o : List Nat} (ho : o ∈ ws) : apart way [o] = true := by
  unfold apart at h ⊢
  have := List.all_eq_true.mp h o ho
  simpa using this
theorem VState.len {b : Nat} {os : List (List Nat)} {st : List Cl} (h : VState b os st) : st.length ≤ 2 ^ b := by
  have nd : (st.map (·.1)).Nodup := List.pairwise_map.mpr (h.asc.imp fun hlt => Nat.ne_of_lt hlt)
  have sub : ∀ x ∈ st.map (·.1), x ∈ List.range (2 ^ b) := fun x hx => by
    obtain ⟨c, hc, rfl⟩ := List.mem_map.mp hx
    exact List.mem_range.mpr (h.lt c hc)
  have := List.Nodup.length_le_of_subset nd sub
  simpa using this
theorem apart_same (way : List Nat) (x : Nat) (hl : 0 < way.length) : apart way [way] = false := by
  unfold apart
  simp
  exact ⟨0, hl⟩
def icS (b : Nat) (os : List (List Nat)) (c : Cl) (ah : List Cl) : Sx := ⟨[some (.dat (dNet b os)), some (.dat (dCl c)), some (.dat (.list (ah.map dCl))), none, none], m0⟩
theorem ways_lc {m : DS} {s : Sx} {v1 v2 : Nat} {it : DDs} {st : List Cl} {g : List (Option VB)} (h1 : g[v1]? = some none) (h2 : g[v2]? = some none) (hne : v1 ≠ v2) (hi : it s = .ok (st.map dCl) ⟨g, m⟩) (hl : st.length ≤ 1000) :
    dLc [v1, v2] it (gTup0 2 (gCons0 (VL.gN v1) (gCons0 (VL.gN v2) gNil0))) tdYes (dFrz (dVar v2)) s = .ok (.tmp (st.map fun c => dO c.2)) ⟨g, m⟩ := by
  have hw : wipeX [v1, v2] ⟨g, m⟩ = ⟨g, m⟩ := by
    show (⟨(g.set v2 none).set v1 none, m⟩ : Sx) = _
    rw [set_same h2, set_same h1]
  have hb : backX [v1, v2] ⟨g, m⟩ ⟨g, m⟩ = ⟨g, m⟩ := by
    show (⟨(g.set v2 (g[v2]?.getD none)).set v1 (g[v1]?.getD none), m⟩ : Sx) = _
    rw [h1, h2]
    show (⟨(g.set v2 none).set v1 none, m⟩ : Sx) = _
    rw [set_same h2, set_same h1]
  have l2 : v2 < g.length := (List.getElem?_eq_some_iff.mp h2).1
  refine lc_map (l := st) (en := dCl) (fun c => dO c.2) ⟨g, m⟩ hi hw hb (by simp [noOwn, h1, h2]) (by omega) (fun c _ => ?_)
  refine ⟨_, ⟨(g.set v1 (some (.dat (.int (c.1 : Nat))))).set v2 (some (.dat (dO c.2))), m⟩, rfl, ?_, ?_⟩
  · have : ((g.set v1 (some (.dat (.int (c.1 : Nat))))).set v2 (some (.dat (dO c.2))))[v2]? = some (some (.dat (dO c.2))) := List.getElem?_set_self (by simpa using l2)
    simp only [e_frzE, e_var, this, e_bind_ok, e_frz_dat]
  · show (⟨(((g.set v1 _).set v2 _).set v2 none).set v1 none, m⟩ : Sx) = _
    rw [List.set_set, List.set_comm _ _ (Ne.symm hne), List.set_set, set_same h1, set_same h2]
theorem ins_lc {m : DS} {s : Sx} {v1 v2 : Nat} {it : DDs} {st : List Cl} {g : List (Option VB)} (h1 : g[v1]? = some none) (h2 : g[v2]? = some none) (hne : v1 ≠ v2) (hi : it s = .ok (st.map dCl) ⟨g, m⟩) (hl : st.length ≤ 1000) :
    dLc [v1, v2] it (gTup0 2 (gCons0 (VL.gN v1) (gCons0 (VL.gN v2) gNil0))) tdYes (dFrz (dVar v1)) s = .ok (.tmp ((st.map (·.1)).map dN)) ⟨g, m⟩ := by
  have hw : wipeX [v1, v2] ⟨g, m⟩ = ⟨g, m⟩ := by
    show (⟨(g.set v2 none).set v1 none, m⟩ : Sx) = _
    rw [set_same h2, set_same h1]
  have hb : backX [v1, v2] ⟨g, m⟩ ⟨g, m⟩ = ⟨g, m⟩ := by
    show (⟨(g.set v2 (g[v2]?.getD none)).set v1 (g[v1]?.getD none), m⟩ : Sx) = _
    rw [h1, h2]
    show (⟨(g.set v2 none).set v1 none, m⟩ : Sx) = _
    rw [set_same h2, set_same h1]
  have l1 : v1 < g.length := (List.getElem?_eq_some_iff.mp h1).1
  rw [List.map_map]
  refine lc_map (l := st) (en := dCl) (fun c => dN c.1) ⟨g, m⟩ hi hw hb (by simp [noOwn, h1, h2]) (by omega) (fun c _ => ?_)
  refine ⟨_, ⟨(g.set v1 (some (.dat (.int (c.1 : Nat))))).set v2 (some (.dat (dO c.2))), m⟩, rfl, ?_, ?_⟩
  · have : ((g.set v1 (some (.dat (.int (c.1 : Nat))))).set v2 (some (.dat (dO c.2))))[v1]? = some (some (.dat (.int (c.1 : Nat)))) := by
      rw [List.getElem?_set_ne (Ne.symm hne)]
      exact List.getElem?_set_self l1
    simp only [e_frzE, e_var, this, e_bind_ok, e_frz_dat, dN]
  · show (⟨(((g.set v1 _).set v2 _).set v2 none).set v1 none, m⟩ : Sx) = _
    rw [List.set_set, List.set_comm _ _ (Ne.symm hne), List.set_set, set_same h1, set_same h2]
theorem dCl0 (c : Cl) : gIx (dCl c) (.int 0) = some (.dat (.int (c.1 : Nat))) := by simp [dCl]
theorem dCl1 (c : Cl) : gIx (dCl c) (.int 1) = some (.dat (dO c.2)) := by simp [dCl]
theorem sz_cl {c : Cl} (h : c.1 < 100) (hw : ∀ x ∈ c.2, x < 100) (hl : c.2.length ≤ 16) : Sz 2 141 (dCl c) := Sz.tup (k := 1) (t := 67) (n := 2) (fun d hd => by
  rcases List.mem_cons.mp hd with rfl | hd
  · exact (sz_nat h).le (by decide) (by decide)
  · rw [List.mem_singleton.mp hd]
    exact sz_dO' hw hl) (by simp)
theorem IsW.last {os : List (List Nat)} {n b k : Nat} {way : List Nat} (w : IsW os n b k way) : lastW way < n := by
  have hl := w.len
  rw [lastW_at hl, List.getD_eq_getElem?_getD, List.getElem?_eq_getElem (by omega)]
  exact w.lt _ (List.getElem_mem _)
theorem VState.take {b : Nat} {os : List (List Nat)} {st : List Cl} (h : VState b os st) (k : Nat) : VState b os (st.take k) :=
  ⟨fun c hc => h.lt c (List.mem_of_mem_take hc), fun c hc => h.way c (List.mem_of_mem_take hc), h.asc.sublist (List.take_sublist k st), h.ap.sublist (List.take_sublist k st)⟩
theorem pw_take {α : Type} {R : α → α → Prop} {l : List α} (h : l.Pairwise R) {k : Nat} {c : α} (hk : l[k]? = some c) : ∀ d ∈ l.take k, R d c := by
  intro d hd
  obtain ⟨i, hi⟩ := List.mem_iff_getElem?.mp hd
  obtain ⟨hk1, hk2⟩ := List.getElem?_eq_some_iff.mp hk
  obtain ⟨hi1, hi2⟩ := List.getElem?_eq_some_iff.mp hi
  rw [List.length_take] at hi1
  have := List.pairwise_iff_getElem.mp h i k (by omega) hk1 (by omega)
  rw [List.getElem_take] at hi2
  rw [hi2, hk2] at this
  exact this
def nfS (b : Nat) (os : List (List Nat)) (st : List Cl) (i e : Nat) : Sx := ⟨[some (.dat (dNet b os)), some (.dat (dSt st)), some (.dat (.int i)), some (.dat (.int e)), none, none], m0⟩
theorem outs_lc {m : DS} {b : Nat} {os : List (List Nat)} {s : Sx} {v1 v2 : Nat} {it : DDs} {st : List Cl} {g : List (Option VB)} (hs : VState b os st) (h1 : g[v1]? = some none) (h2 : g[v2]? = some none) (hne : v1 ≠ v2) (hi : it s = .ok (st.map dCl) ⟨g, m⟩) (hl : st.length ≤ 1000) :
    dLc [v1, v2] it (gTup0 2 (gCons0 (VL.gN v1) (gCons0 (VL.gN v2) gNil0))) tdYes (dFrz (dOp gIx (dVar v2) (dUn gNeg (dC (.int 1))))) s = .ok (.tmp ((st.map fun c => lastW c.2).map dN)) ⟨g, m⟩ := by
  have hw : wipeX [v1, v2] ⟨g, m⟩ = ⟨g, m⟩ := by
    show (⟨(g.set v2 none).set v1 none, m⟩ : Sx) = _
    rw [set_same h2, set_same h1]
  have hb : backX [v1, v2] ⟨g, m⟩ ⟨g, m⟩ = ⟨g, m⟩ := by
    show (⟨(g.set v2 (g[v2]?.getD none)).set v1 (g[v1]?.getD none), m⟩ : Sx) = _
    rw [h1, h2]
    show (⟨(g.set v2 none).set v1 none, m⟩ : Sx) = _
    rw [set_same h2, set_same h1]
  have l2 : v2 < g.length := (List.getElem?_eq_some_iff.mp h2).1
  rw [List.map_map]
  refine lc_map (l := st) (en := dCl) (fun c => dN (lastW c.2)) ⟨g, m⟩ hi hw hb (by simp [noOwn, h1, h2]) (by omega) (fun c hc => ?_)
  refine ⟨_, ⟨(g.set v1 (some (.dat (.int (c.1 : Nat))))).set v2 (some (.dat (dO c.2))), m⟩, rfl, ?_, ?_⟩
  · have : ((g.set v1 (some (.dat (.int (c.1 : Nat))))).set v2 (some (.dat (dO c.2))))[v2]? = some (some (.dat (dO c.2))) := List.getElem?_set_self (by simpa using l2)
    have gl := gIx_last (hs.way c hc).len
    simp only [e_frzE, e_op, e_var, e_un, e_c, e_fin1, e_gNeg, this, e_bind_ok, e_frz_dat, e_fin2, e_res_dat, gl, dN]
  · show (⟨(((g.set v1 _).set v2 _).set v2 none).set v1 none, m⟩ : Sx) = _
    rw [List.set_set, List.set_comm _ _ (Ne.symm hne), List.set_set, set_same h1, set_same h2]
/-! ### sorted lists of ways, lots -/
def insN (x : List Nat) : List (List Nat) → List (List Nat)
  | [] => [x]
  | y :: ys => if ltD (dO y) (dO x) = true then y :: insN x ys else x :: y :: ys
def sortN : List (List Nat) → List (List Nat)
  | [] => []
  | x :: xs => insN x (sortN xs)
theorem insN_map (x : List Nat) : ∀ ys : List (List Nat), (insN x ys).map dO = insD (dO x) (ys.map dO)
  | [] => rfl
  | y :: ys => by
    unfold insN
    rw [List.map_cons, insD]
    split
    · rw [List.map_cons, insN_map x ys]
    · rfl
theorem sortN_map : ∀ xs : List (List Nat), (sortN xs).map dO = sortD (xs.map dO)
  | [] => rfl
  | x :: xs => by
    show (insN x (sortN xs)).map dO = insD (dO x) (sortD (xs.map dO))
    rw [insN_map, sortN_map xs]
theorem insN_perm (x : List Nat) : ∀ ys : List (List Nat), (insN x ys).Perm (x :: ys)
  | [] => List.Perm.refl _
  | y :: ys => by
    unfold insN
    split
    · exact ((insN_perm x ys).cons y).trans (List.Perm.swap _ _ _)
    · exact List.Perm.refl _
theorem sortN_perm : ∀ xs : List (List Nat), (sortN xs).Perm xs
  | [] => List.Perm.refl _
  | x :: xs => (insN_perm x _).trans ((sortN_perm xs).cons x)
def dLot (l : List Nat) : PyData := .tuple [.int (l.length : Nat), dO l]
def ltLot (l m : List Nat) : Bool := ltD (dLot l) (dLot m)
def leastL (l : List Nat) (ls : List (List Nat)) : List Nat := ls.foldl (fun m e => if ltLot e m = true then e else m) l
theorem leastL_map (l : List Nat) (ls : List (List Nat)) : leastD (dLot l) (ls.map dLot) = dLot (leastL l ls) := by
  unfold leastD leastL
  induction ls generalizing l with
  | nil => rfl
  | cons e r ih =>
    rw [List.map_cons, List.foldl_cons, List.foldl_cons]
    have : (if ltD (dLot e) (dLot l) = true then dLot e else dLot l) = dLot (if ltLot e l = true then e else l) := by
      unfold ltLot
      split <;> rfl
    rw [this, ih]
def lotOf (st : List Cl) (way : List Nat) : List Nat := (st.filter fun c => !apart way [c.2]).map (·.1)
theorem cmpb_dLot (l m : List Nat) : cmpb (dLot l) (dLot m) = true := by
  show (cmpb (.int (l.length : Nat)) (.int (m.length : Nat)) && (cmpb (dO l) (dO m) && true)) = true
  rw [cmpb_dO]
  rfl
theorem sz_lot {l : List Nat} (h : ∀ x ∈ l, x < 100) (hl : l.length ≤ 16) : Sz 2 141 (dLot l) := Sz.tup (k := 1) (t := 67) (n := 2) (fun d hd => by
  rcases List.mem_cons.mp hd with rfl | hd
  · exact (sz_nat (by omega)).le (by decide) (by decide)
  · rw [List.mem_singleton.mp hd]
    exact sz_dO' h hl) (by simp)
def itS (b : Nat) (os : List (List Nat)) (st : List Cl) (i e : Nat) (lots : List (List Nat)) (x5 x6 : Option VB) : Sx := ⟨[some (.dat (dNet b os)), some (.dat (dSt st)), some (.dat (.int i)), some (.dat (.int e)), some (.own (lots.map dLot)), x5, x6, none, none], m0⟩
def theWay (st : List Cl) : List (List Nat) → PyData
  | [] => .none
  | w :: ws => dO (leastL (lotOf st w) (ws.map (lotOf st)))
theorem frz_callM {F : MFn} {k : Nat} {fa : DDs} {s s1 : Sx} {ds : List PyData} {d : PyData} {m' : DS} (hd : isDrw s k = true) (hf : fa s = .ok ds s1) (e : F s1.m ds = .ok d m') : dFrz (dCallM F k fa) s = .ok d { s1 with m := m' } := by
  unfold dFrz dCallM
  rw [if_pos hd, hf]
  simp only [Out.bind]
  rw [e]
  rfl
def orS (n : Nat) (fs : List Nat) (x3 x4 : Option VB) (m : DS) : Sx := ⟨[some .drw, some (.dat (.int n)), some (.own (fs.map dN)), x3, x4], m⟩
def qwS (b : Nat) (os : List (List Nat)) (i : Nat) (x3 x4 x5 x6 x7 : Option VB) : Sx := ⟨[some (.dat (dNet b os)), some (.dat (.int i)), some (.dat (.int (fstW i : Nat))), x3, x4, x5, x6, x7], m0⟩
def isL (x : Option VB) (l : List PyData) : Prop := x = some (.own l) ∨ x = some (.dat (.list l))
theorem zip_range : ∀ (as bs : List Nat), as.length = bs.length → zipD (as.map dN) (bs.map dN) = (List.range as.length).map fun r => PyData.tuple [dN (as.getD r 0), dN (bs.getD r 0)]
  | [], [], _ => rfl
  | [], _ :: _, h => by cases h
  | _ :: _, [], h => by cases h
  | a :: as, b :: bs, h => by
    show PyData.tuple [dN a, dN b] :: zipD (as.map dN) (bs.map dN) = _
    rw [zip_range as bs (by simpa using h), List.length_cons, List.range_succ_eq_map, List.map_cons, List.map_map]
    rfl
theorem ones_shaped {α : Type} (l : List α) : SeqAt.shaped (.list (l.map fun _ => PyData.int 1)) = true := by
  have := ints_shaped (l.map fun _ => (1 : Int))
  rw [List.map_map] at this
  exact this
def qaS (way : List Nat) (ws : List (List Nat)) (x2 : Option VB) : Sx := ⟨[some (.dat (dO way)), some (.dat (.list (ws.map dO))), x2, none, none], m0⟩
@[simp] theorem e_dNewK (s : Sx) : dNewK s = .ok (.tk []) s := (rfl)
@[simp] theorem e_putR_tk (i : Nat) (kvs : List (Key × PyData)) (s : Sx) : putR i (.tk kvs) s = .nx { s with g := s.g.set i (some (.dk kvs)) } := (rfl)
@[simp] theorem e_dictAt (s : Sx) (k : Nat) : dictAt s k = (match s.g[k]? with
  | some (some (.dk kvs)) => some kvs
  | _ => none) := (rfl)
@[simp] theorem e_setDk (s : Sx) (k : Nat) (kvs : List (Key × PyData)) : setDk s k kvs = { s with g := s.g.set k (some (.dk kvs)) } := (rfl)
@[simp] theorem e_asKey (r : RV) (s : Sx) : asKey r s = (r.res s).bind keyOf := (rfl)
@[simp] theorem e_keyOf (i : Int) : keyOf (.int i) = some (.inl i) := (rfl)
@[simp] theorem e_sPutK (j : Nat) (fk : DE) (fv : DD) (s : Sx) : sPutK j fk fv s = (fv s).toS fun d s1 => match dictAt s1 j with
  | none => .bad
  | some _ => (fk s1).toS fun r s2 => match dictAt s2 j, asKey r s2 with
    | some kvs, some k => if kvs.length < 1000000 then .nx (setDk s2 j (putKD kvs k d)) else .bad
    | _, _ => .bad := (rfl)
@[simp] theorem e_dGetK (j : Nat) (fk : DE) (s : Sx) : dGetK j fk s = (match dictAt s j with
  | none => .bad
  | some _ => (fk s).bind fun r s1 => match dictAt s1 j, asKey r s1 with
    | some kvs, some k => (match valD kvs k with | some d => .ok (.dat d) s1 | none => .bad)
    | _, _ => .bad) := (rfl)
@[simp] theorem e_dInK (neg : Bool) (j : Nat) (fk : DE) (s : Sx) : dInK neg j fk s = (fk s).bind fun r s1 => match dictAt s1 j, asKey r s1 with
  | some kvs, some k => .ok (bl_ (neg != (valD kvs k).isSome)) s1
  | _, _ => .bad := (rfl)
@[simp] theorem e_dValsK (j : Nat) (s : Sx) : dValsK j s = (match dictAt s j with
  | some kvs => .ok (.tmp (kvs.map (·.2))) s
  | none => .bad) := (rfl)
@[simp] theorem e_dItemsK (j : Nat) (s : Sx) : dItemsK j s = (match dictAt s j with
  | some kvs => .ok (.tmp (kvs.map fun kv => .tuple [keyD kv.1, kv.2])) s
  | none => .bad) := (rfl)
section
variable {κ : Type} [DecidableEq κ]
theorem valD_cons (kv : κ × PyData) (kvs : List (κ × PyData)) (k : κ) : valD (kv :: kvs) k = if kv.1 = k then some kv.2 else valD kvs k := by
  unfold valD
  rw [List.find?_cons]
  by_cases h : kv.1 = k <;> simp [h]
theorem valD_any (kvs : List (κ × PyData)) (k : κ) : (kvs.any fun kv => decide (kv.1 = k)) = (valD kvs k).isSome := by
  induction kvs with
  | nil => rfl
  | cons a t ih =>
    rw [List.any_cons, valD_cons, ih]
    by_cases h : a.1 = k <;> simp [h]
theorem valD_app (kvs : List (κ × PyData)) (k k' : κ) (d : PyData) : valD (kvs ++ [(k, d)]) k' = (valD kvs k').or (if k = k' then some d else none) := by
  induction kvs with
  | nil =>
    rw [List.nil_append, valD_cons]
    rfl
  | cons a t ih =>
    rw [List.cons_append, valD_cons, valD_cons, ih]
    by_cases h : a.1 = k' <;> simp [h]
theorem valD_map (kvs : List (κ × PyData)) (k k' : κ) (d : PyData) : valD (kvs.map fun kv => if kv.1 = k then (kv.1, d) else kv) k' = if k = k' ∧ (valD kvs k).isSome = true then some d else valD kvs k' := by
  induction kvs with
  | nil => simp [valD]
  | cons a t ih =>
    rw [List.map_cons, valD_cons, valD_cons, valD_cons, ih]
    by_cases h : a.1 = k
    · by_cases h' : k = k'
      · subst h'; simp [h]
      · have : ¬ a.1 = k' := by rw [h]; exact h'
        simp [h, h']
    · by_cases h' : k = k'
      · subst h'; simp [h]
      · simp [h, h']
theorem valD_put (kvs : List (κ × PyData)) (k k' : κ) (d : PyData) : valD (putKD kvs k d) k' = if k = k' then some d else valD kvs k' := by
  unfold putKD
  rw [valD_any]
  cases q : (valD kvs k).isSome with
  | true =>
    rw [if_pos rfl, valD_map, q]
    simp
  | false =>
    rw [if_neg (by simp), valD_app]
    by_cases h : k = k'
    · subst h
      have : valD kvs k = none := by cases e : valD kvs k <;> simp [e] at q ⊢
      simp [this]
    · simp [h]
theorem putKD_len (kvs : List (κ × PyData)) (k : κ) (d : PyData) : (putKD kvs k d).length ≤ kvs.length + 1 := by
  unfold putKD
  split
  · simp
  · simp
end
def bnS (b k : Nat) (sp : List (List Nat)) (fs : List (List Nat)) (x4 x7 x8 x9 x10 x11 x12 x13 x14 : Option VB) (m : DS) : Sx :=
  ⟨[some .drw, some (.dat (.int b)), some (.own (sp.map dO)), some (.own (fs.map dO)), x4, some (.dat (dNet b (plainB b))), some (.dat (.int k)), x7, x8, x9, x10, x11, x12, x13, x14, none], m⟩
def bn0 (b k : Nat) (x2 x3 : Option VB) (m : DS) : Sx :=
  ⟨[some .drw, some (.dat (.int b)), x2, x3, none, some (.dat (dNet b (plainB b))), some (.dat (.int k)), none, none, none, none, none, none, none, none, none], m⟩
section
variable {α : Type} (en : α → PyData)
def insB (x : α) : List α → List α
  | [] => [x]
  | y :: ys => if ltD (en y) (en x) = true then y :: insB x ys else x :: y :: ys
def sortB : List α → List α
  | [] => []
  | x :: xs => insB en x (sortB xs)
theorem insB_map (x : α) : ∀ ys : List α, (insB en x ys).map en = insD (en x) (ys.map en)
  | [] => rfl
  | y :: ys => by
    unfold insB
    rw [List.map_cons, insD]
    split
    · rw [List.map_cons, insB_map x ys]
    · rfl
theorem sortB_map : ∀ xs : List α, (sortB en xs).map en = sortD (xs.map en)
  | [] => rfl
  | x :: xs => by
    show (insB en x (sortB en xs)).map en = insD (en x) (sortD (xs.map en))
    rw [insB_map, sortB_map xs]
theorem insB_perm (x : α) : ∀ ys : List α, (insB en x ys).Perm (x :: ys)
  | [] => List.Perm.refl _
  | y :: ys => by
    unfold insB
    split
    · exact ((insB_perm x ys).cons y).trans (List.Perm.swap _ _ _)
    · exact List.Perm.refl _
theorem sortB_perm : ∀ xs : List α, (sortB en xs).Perm xs
  | [] => List.Perm.refl _
  | x :: xs => (insB_perm en x _).trans ((sortB_perm xs).cons x)
theorem sortB_rising (xs : List α) : (sortB en xs).Pairwise fun x y => ltD (en y) (en x) = false := by
  have := sortD_rising (xs.map en)
  rw [← sortB_map] at this
  exact List.pairwise_map.mp this
end
theorem apart_symm {a b : List Nat} (h : a.length = b.length) : apart a [b] = apart b [a] := by
  unfold apart
  simp only [List.all_cons, List.all_nil, Bool.and_true, h]
  congr 1
  funext r
  generalize a.getD r 0 = x
  generalize b.getD r 0 = y
  by_cases e : x = y
  · rw [e]
  · have e' : ¬ y = x := fun z => e z.symm
    rw [beq_eq_false_iff_ne.mpr e, beq_eq_false_iff_ne.mpr e']
theorem ltD_cl {c d : Cl} (h : ltD (dCl d) (dCl c) = false) (hne : c.1 ≠ d.1) : c.1 < d.1 := by
  unfold ltD at h
  have e : cmpD (dCl d) (dCl c) = (cmpD (.int (d.1 : Nat)) (.int (c.1 : Nat))).then ((cmpD (dO d.2) (dO c.2)).then .eq) := rfl
  rw [e, cmpD_int] at h
  by_cases q : (d.1 : Int) < c.1
  · rw [if_pos q] at h
    cases h
  · omega
theorem sortOk_cl {l : List Cl} (h : ∀ c ∈ l, c.1 < 100 ∧ (∀ x ∈ c.2, x < 100) ∧ c.2.length ≤ 16) (hl : l.length ≤ 1000) : sortOk (l.map dCl) = true := by
  unfold sortOk
  have h1 : (l.map dCl).all (fun d => (l.map dCl).all (cmpb d)) = true := by
    refine List.all_eq_true.mpr fun d hd => List.all_eq_true.mpr fun e he => ?_
    obtain ⟨x, _, rfl⟩ := List.mem_map.mp hd
    obtain ⟨y, _, rfl⟩ := List.mem_map.mp he
    show (cmpb (.int (x.1 : Nat)) (.int (y.1 : Nat)) && (cmpb (dO x.2) (dO y.2) && true)) = true
    rw [cmpb_dO]
    rfl
  have h2 : (l.map dCl).all isTupC = true := by
    refine List.all_eq_true.mpr fun d hd => ?_
    obtain ⟨x, hx, rfl⟩ := List.mem_map.mp hd
    rfl
  have h3 : SeqAt.shaped (.list (l.map dCl)) = true := (Sz.lst (k := 2) (t := 141) (n := 1000) (fun d hd => by
    obtain ⟨x, hx, rfl⟩ := List.mem_map.mp hd
    exact sz_cl (h x hx).1 (h x hx).2.1 (h x hx).2.2) (by simpa using hl)).shaped (by decide)
  rw [h1, h2, h3, decide_eq_true (by rw [List.length_map]; omega)]
  rfl
def kvC (cs : List Cl) : List (Key × PyData) := cs.map fun c => (.inl (c.1 : Nat), dO c.2)
theorem kvC_val (cs : List Cl) (i : Nat) : (valD (kvC cs) (.inl (i : Int))).isSome = (cs.map (·.1)).contains i := by
  induction cs with
  | nil => rfl
  | cons c t ih =>
    show (valD ((Sum.inl ((c.1 : Nat) : Int), dO c.2) :: kvC t) (.inl (i : Int))).isSome = _
    rw [valD_cons, List.map_cons, List.contains_cons, ← ih]
    by_cases h : c.1 = i
    · subst h
      simp
    · have h1 : ¬ (Sum.inl ((c.1 : Nat) : Int) : Key) = Sum.inl (i : Int) := fun z => h (by injection z with z; omega)
      have h2 : ¬ i = c.1 := fun z => h z.symm
      rw [if_neg h1]
      simp [h2]
theorem kvC_put (cs : List Cl) (c : Cl) (h : (cs.map (·.1)).contains c.1 = false) : putKD (kvC cs) (.inl ((c.1 : Nat) : Int)) (dO c.2) = kvC (cs ++ [c]) := by
  unfold putKD
  rw [valD_any, kvC_val, h, if_neg (by simp)]
  simp [kvC]
def stS (b : Nat) (os : List (List Nat)) (t : Nat) (cs : List Cl) (x4 x5 x6 : Option VB) (m : DS) : Sx := ⟨[some .drw, some (.dat (dNet b os)), some (.dat (.int t)), some (.dk (kvC cs)), x4, x5, x6], m⟩
structure PreSt (b : Nat) (os : List (List Nat)) (cs : List Cl) : Prop where
  lt : ∀ c ∈ cs, c.1 < 2 ^ b
  way : ∀ c ∈ cs, IsW os (2 ^ b) c.1 os.length c.2
  pw : cs.Pairwise fun c d => c.1 ≠ d.1 ∧ apart d.2 [c.2] = true
theorem PreSt.state {b : Nat} {os : List (List Nat)} {cs : List Cl} (h : PreSt b os cs) : VState b os (sortB dCl cs) := by
  have pm := sortB_perm dCl cs
  have sy : (sortB dCl cs).Pairwise fun c d => c.1 ≠ d.1 ∧ apart d.2 [c.2] = true ∧ d ∈ cs ∧ c ∈ cs := by
    refine (List.Perm.pairwise_iff (R := fun c d : Cl => c.1 ≠ d.1 ∧ apart d.2 [c.2] = true ∧ d ∈ cs ∧ c ∈ cs) (fun {x y} ⟨h1, h2, h3, h4⟩ => ⟨h1.symm, ?_, h4, h3⟩) pm).mpr ?_
    · rw [apart_symm (by rw [(h.way x h4).len, (h.way y h3).len])]
      exact h2
    · exact h.pw.imp_of_mem fun {x y} hx hy q => ⟨q.1, q.2, hy, hx⟩
  refine ⟨fun c hc => h.lt c (pm.mem_iff.mp hc), fun c hc => h.way c (pm.mem_iff.mp hc), ?_, sy.imp fun q => q.2.1⟩
  exact (List.pairwise_and_iff.mpr ⟨sy, sortB_rising dCl cs⟩).imp fun q => ltD_cl q.2 q.1.1
theorem set_callM {F : MFn} {i k : Nat} {fa : DDs} {s s1 : Sx} {ds : List PyData} {d : PyData} {m' : DS} (hd : isDrw s k = true) (hf : fa s = .ok ds s1) (e : F s1.m ds = .ok d m') : sSet i (dCallM F k fa) s = .nx { g := s1.g.set i (some (.dat d)), m := m' } := by
  unfold sSet dCallM
  rw [if_pos hd, hf]
  simp only [Out.bind]
  rw [e]
  rfl
def fiS (b : Nat) (os : List (List Nat)) (st : List Cl) (i e : Nat) (x4 : Option VB) : Sx := ⟨[some (.dat (dNet b os)), some (.dat (dSt st)), some (.dat (.int i)), some (.dat (.int e)), x4, none, none], m0⟩
theorem own_or {l : List PyData} {x : Option VB} (h : isL x l) : ∃ v, x = some v := by
  rcases h with rfl | rfl
  · exact ⟨_, rfl⟩
  · exact ⟨_, rfl⟩
theorem gNotIn_nats {x : Nat} {l : List Nat} (hl : ∀ y ∈ l, y < 100) (hn : l.length ≤ 1000) : gNotIn (.int (x : Int)) (.list (l.map dN)) = some (bl_ (!l.contains x)) := by
  have h := gIn_nats (x := x) hl hn
  unfold gIn at h
  unfold gNotIn
  simp only at h ⊢
  split at h
  · rename_i q
    rw [if_pos q]
    have h' := Option.some.inj h
    unfold bl_ at h' ⊢
    injection h' with h'
    injection h' with h'
    rw [h']
  · cases h
def dPr (p : Nat × Nat) : PyData := .tuple [.int (p.1 : Nat), .int (p.2 : Nat)]
def frees (n : Nat) (st : List Cl) : List (Nat × Nat) := (List.range n).flatMap fun i => ((List.range n).filter fun e => !(st.map (·.1)).contains i && !(st.map fun c => lastW c.2).contains e).map fun e => (i, e)
def frS (b n : Nat) (os : List (List Nat)) (st : List Cl) (x2 x3 x4 : Option VB) : Sx := ⟨[some (.dat (dNet b os)), some (.dat (dSt st)), x2, x3, x4, some (.dat (.list ((st.map (·.1)).map dN))), some (.dat (.list ((st.map fun c => lastW c.2).map dN))), none, none], m0⟩
def fr0 (b n : Nat) (os : List (List Nat)) (st : List Cl) (x2 : Option VB) : Sx := ⟨[some (.dat (dNet b os)), some (.dat (dSt st)), x2, none, none, none, none, none, none], m0⟩
def subsOf (ins : List Nat) : List (List Nat) := ins.foldl (fun f x => f ++ f.map (· ++ [x])) [[]]
theorem subs_snoc (ins : List Nat) (x : Nat) : subsOf (ins ++ [x]) = subsOf ins ++ (subsOf ins).map (· ++ [x]) := by
  unfold subsOf
  rw [List.foldl_append]
  rfl
theorem subs_len : ∀ (n : Nat) (ins : List Nat), ins.length = n → (subsOf ins).length = 2 ^ n
  | 0, ins, h => by rw [List.length_eq_zero_iff.mp h]; rfl
  | n + 1, ins, h => by
    have hne : ins ≠ [] := fun z => by rw [z] at h; cases h
    rw [← List.dropLast_concat_getLast hne, subs_snoc, List.length_append, List.length_map, subs_len n ins.dropLast (by simp [h])]
    rw [Nat.pow_succ]
    omega
/-- a lot is a part of the ins, in their order -/
theorem subs_mem : ∀ (n : Nat) (ins : List Nat), ins.length = n → ∀ l, l ∈ subsOf ins ↔ l.Sublist ins
  | 0, ins, h, l => by
    rw [List.length_eq_zero_iff.mp h]
    show l ∈ [[]] ↔ _
    simp
  | n + 1, ins, h, l => by
    have hne : ins ≠ [] := fun z => by rw [z] at h; cases h
    have ih := subs_mem n ins.dropLast (by simp [h])
    rw [← List.dropLast_concat_getLast hne, subs_snoc, List.mem_append, List.mem_map]
    constructor
    · rintro (h | ⟨m, h, rfl⟩)
      · exact ((ih l).mp h).trans (List.sublist_append_left _ _)
      · exact ((ih m).mp h).append (List.Sublist.refl _)
    · intro hl
      obtain ⟨l1, l2, rfl, h1, h2⟩ := List.sublist_append_iff.mp hl
      cases l2 with
      | nil => exact .inl (by rw [List.append_nil]; exact (ih l1).mpr h1)
      | cons a t =>
        have : a :: t = [ins.getLast hne] := by
          have hlen := h2.length_le
          exact h2.eq_of_length (by simp at hlen ⊢; omega)
        rw [this]
        exact .inr ⟨l1, (ih l1).mpr h1, rfl⟩
theorem sortOk_lot {l : List (List Nat)} (h : ∀ w ∈ l, (∀ x ∈ w, x < 100) ∧ w.length ≤ 16) (hl : l.length ≤ 1000) : sortOk (l.map dLot) = true := by
  unfold sortOk
  have h1 : (l.map dLot).all (fun d => (l.map dLot).all (cmpb d)) = true := by
    refine List.all_eq_true.mpr fun d hd => List.all_eq_true.mpr fun e he => ?_
    obtain ⟨x, _, rfl⟩ := List.mem_map.mp hd
    obtain ⟨y, _, rfl⟩ := List.mem_map.mp he
    exact cmpb_dLot x y
  have h2 : (l.map dLot).all isTupC = true := by
    refine List.all_eq_true.mpr fun d hd => ?_
    obtain ⟨x, hx, rfl⟩ := List.mem_map.mp hd
    rfl
  have h3 : SeqAt.shaped (.list (l.map dLot)) = true := (Sz.lst (k := 2) (t := 141) (n := 1000) (fun d hd => by
    obtain ⟨x, hx, rfl⟩ := List.mem_map.mp hd
    exact sz_lot (h x hx).1 (h x hx).2) (by simpa using hl)).shaped (by decide)
  rw [h1, h2, h3, decide_eq_true (by rw [List.length_map]; omega)]
  rfl
def loS (ins : List Nat) (x1 x2 : Option VB) : Sx := ⟨[some (.dat (.list (ins.map dN))), x1, x2, none, none], m0⟩
theorem lot_sub (st : List Cl) (w : List Nat) : (lotOf st w).Sublist (st.map (·.1)) := List.filter_sublist.map _
theorem apart_iff {w : List Nat} {ws : List (List Nat)} : apart w ws = true ↔ ∀ o ∈ ws, apart w [o] = true := ⟨fun h o ho => apart_mem h ho, fun h => apart_all h⟩
theorem fits_iff (st : List Cl) (w lot : List Nat) : apart w ((st.filter fun c => !lot.contains c.1).map (·.2)) = (lotOf st w).all fun x => lot.contains x := by
  rw [Bool.eq_iff_iff, apart_iff, List.all_eq_true]
  constructor
  · intro h x hx
    obtain ⟨c, hc, rfl⟩ := List.mem_map.mp hx
    obtain ⟨h1, h2⟩ := List.mem_filter.mp hc
    cases q : lot.contains c.1 with
    | true => rfl
    | false =>
      have := h c.2 (List.mem_map.mpr ⟨c, List.mem_filter.mpr ⟨h1, by rw [q]; rfl⟩, rfl⟩)
      rw [this] at h2
      cases h2
  · intro h o ho
    obtain ⟨c, hc, rfl⟩ := List.mem_map.mp ho
    obtain ⟨h1, h2⟩ := List.mem_filter.mp hc
    cases q : apart w [c.2] with
    | true => rfl
    | false =>
      have := h c.1 (List.mem_map.mpr ⟨c, List.mem_filter.mpr ⟨h1, by rw [q]; rfl⟩, rfl⟩)
      rw [this] at h2
      cases h2
theorem ltLot_iff (l m : List Nat) : ltLot l m = true ↔ l.length < m.length ∨ (l.length = m.length ∧ ltD (dO l) (dO m) = true) := by
  unfold ltLot ltD
  have e : cmpD (dLot l) (dLot m) = (cmpD (.int (l.length : Nat)) (.int (m.length : Nat))).then ((cmpD (dO l) (dO m)).then .eq) := rfl
  rw [e, cmpD_int]
  by_cases h1 : (l.length : Int) < m.length
  · rw [if_pos h1]
    simp [Ordering.then]
    omega
  · rw [if_neg h1]
    by_cases h2 : (m.length : Int) < l.length
    · rw [if_pos h2]
      simp [Ordering.then]
      omega
    · rw [if_neg h2]
      have h3 : l.length = m.length := by omega
      cases cmpD (dO l) (dO m) <;> simp [Ordering.then, h3]
theorem sub_filter : ∀ {l ins : List Nat}, l.Sublist ins → ins.Nodup → ins.filter (fun x => decide (x ∈ l)) = l
  | _, _, .slnil, _ => rfl
  | l, a :: ins, .cons _ h, hn => by
    obtain ⟨h1, h2⟩ := List.nodup_cons.mp hn
    have ha : a ∉ l := fun z => h1 (h.subset z)
    rw [List.filter_cons, if_neg (by simpa using ha)]
    exact sub_filter h h2
  | a :: l, _ :: ins, .cons₂ _ h, hn => by
    obtain ⟨h1, h2⟩ := List.nodup_cons.mp hn
    rw [List.filter_cons, if_pos (by simp)]
    congr 1
    refine Eq.trans (List.filter_congr fun x hx => ?_) (sub_filter h h2)
    have : x ≠ a := fun z => h1 (z ▸ hx)
    simp [this]
/-- a part of a lot is no later -/
theorem lot_le {ins l m : List Nat} (hn : ins.Nodup) (hl : l.Sublist ins) (hm : m.Sublist ins) (h : ∀ x ∈ l, x ∈ m) : ltLot m l = false := by
  cases q : ltLot m l with
  | false => rfl
  | true =>
    exfalso
    have hlen : l.length ≤ m.length := List.Nodup.length_le_of_subset (hn.sublist hl) h
    rcases (ltLot_iff m l).mp q with h1 | ⟨h1, h2⟩
    · omega
    · have : l = m := by
        have nl := hn.sublist hl
        have nm := hn.sublist hm
        have hsub : ∀ x ∈ m, x ∈ l := fun x hx => by
          by_cases q : x ∈ l
          · exact q
          · exfalso
            have hs : ∀ y ∈ l, y ∈ m.erase x := fun y hy => (List.mem_erase_of_ne (fun e : y = x => q (by rw [← e]; exact hy))).mpr (h y hy)
            have := List.Nodup.length_le_of_subset nl hs
            rw [List.length_erase_of_mem hx] at this
            have : 0 < m.length := List.length_pos_of_mem hx
            omega
        rw [← sub_filter hl hn, ← sub_filter hm hn]
        refine List.filter_congr fun x _ => ?_
        have : x ∈ l ↔ x ∈ m := ⟨h x, hsub x⟩
        simp [this]
      subst this
      have := ltD_swo.asym _ _ h2
      rw [h2] at this
      cases this
theorem ltLot_swo : SrtO.Swo ltLot := ⟨fun x y h => ltD_swo.asym (dLot x) (dLot y) h, fun x y z h1 h2 => ltD_swo.tr (dLot x) (dLot y) (dLot z) h1 h2⟩
theorem leastL_spec (l : List Nat) (ls : List (List Nat)) : leastL l ls ∈ l :: ls ∧ ∀ x ∈ l :: ls, ltLot x (leastL l ls) = false := by
  unfold leastL
  induction ls generalizing l with
  | nil => exact ⟨by simp, fun x hx => by rw [List.mem_singleton.mp hx]; exact ltLot_swo.refl l⟩
  | cons e r ih =>
    rw [List.foldl_cons]
    obtain ⟨i1, i2⟩ := ih (if ltLot e l = true then e else l)
    constructor
    · rcases List.mem_cons.mp i1 with h | h
      · rw [h]
        split <;> simp
      · exact List.mem_cons_of_mem _ (List.mem_cons_of_mem _ h)
    · intro x hx
      have hh := i2 _ List.mem_cons_self
      rcases List.mem_cons.mp hx with rfl | hx
      · by_cases q : ltLot e x = true
        · rw [if_pos q] at hh ⊢
          exact ltLot_swo.tr _ _ _ hh (ltLot_swo.asym _ _ q)
        · rw [if_neg q] at hh ⊢
          exact hh
      · rcases List.mem_cons.mp hx with rfl | hx
        · by_cases q : ltLot x l = true
          · rw [if_pos q] at hh ⊢
            exact hh
          · rw [if_neg q] at hh ⊢
            have q' : ltLot x l = false := by cases e : ltLot x l <;> first | rfl | exact absurd e q
            exact ltLot_swo.tr _ _ _ hh q'
        · exact i2 x (List.mem_cons_of_mem _ hx)
theorem lot_same {l m : List Nat} (h1 : ltLot l m = false) (h2 : ltLot m l = false) : l = m := by
  have e : cmpD (dLot l) (dLot m) = .eq := by
    unfold ltLot ltD at h1 h2
    cases q : cmpD (dLot l) (dLot m) with
    | eq => rfl
    | lt => rw [q] at h1; cases h1
    | gt =>
      have n : cmpD (dLot m) (dLot l) ≠ .lt := fun z => by rw [z] at h2; cases h2
      have := (triD (dLot l) (dLot m) (dLot l)).gt q n
      rw [cmpD_self] at this
      cases this
  have := cmp_same _ _ (cmpb_dLot l m) e
  unfold dLot at this
  injection this with this
  injection this with _ this
  injection this with this _
  unfold dO at this
  injection this with this
  have inj : ∀ (a b : List Nat), a.map dN = b.map dN → a = b := fun a => by
    induction a with
    | nil => intro b hb; cases b with
      | nil => rfl
      | cons => cases hb
    | cons x xs ih => intro b hb; cases b with
      | nil => cases hb
      | cons y ys =>
        rw [List.map_cons, List.map_cons] at hb
        injection hb with h1 h2
        unfold dN at h1
        injection h1 with h1
        rw [ih ys h2, show x = y by omega]
  exact inj l m this
def canFit (st : List Cl) (W : List (List Nat)) (lot : List Nat) : Bool := W.any fun w => (lotOf st w).all fun x => lot.contains x
/-- the first lot without which a way fits is the least of the lots in the way -/
theorem due_find {st : List Cl} {W : List (List Nat)} (hn : (st.map (·.1)).Nodup) : (sortB dLot (subsOf (st.map (·.1)))).find? (canFit st W) = (match W with | [] => none | w :: ws => some (leastL (lotOf st w) (ws.map (lotOf st)))) := by
  cases W with
  | nil => exact List.find?_eq_none.mpr fun x _ => by simp [canFit]
  | cons w ws =>
    obtain ⟨b1, b2⟩ := leastL_spec (lotOf st w) (ws.map (lotOf st))
    rw [← List.map_cons] at b1 b2
    obtain ⟨w0, hw0, eb⟩ := List.mem_map.mp b1
    simp only
    generalize hB : leastL (lotOf st w) (ws.map (lotOf st)) = best at b1 b2 eb
    have hbs : best.Sublist (st.map (·.1)) := by rw [← eb]; exact lot_sub st w0
    have hbm : best ∈ sortB dLot (subsOf (st.map (·.1))) := (sortB_perm _ _).mem_iff.mpr ((subs_mem _ _ rfl best).mpr hbs)
    have hbc : canFit st (w :: ws) best = true := by
      refine List.any_eq_true.mpr ⟨w0, hw0, ?_⟩
      rw [eb]
      exact List.all_eq_true.mpr fun x hx => List.contains_iff_mem.mpr hx
    have hris := sortB_rising dLot (subsOf (st.map (·.1)))
    cases hf : (sortB dLot (subsOf (st.map (·.1)))).find? (canFit st (w :: ws)) with
    | none => exact absurd hbc (by simpa using List.find?_eq_none.mp hf best hbm)
    | some c =>
      have hcf := List.find?_some hf
      have hcm := List.mem_of_find?_eq_some hf
      obtain ⟨w1, hw1, hall⟩ := List.any_eq_true.mp hcf
      have hcs : c.Sublist (st.map (·.1)) := (subs_mem _ _ rfl c).mp ((sortB_perm _ _).mem_iff.mp hcm)
      have q1 : ltLot c (lotOf st w1) = false := lot_le hn (lot_sub st w1) hcs fun x hx => List.contains_iff_mem.mp (List.all_eq_true.mp hall x hx)
      have q2 : ltLot (lotOf st w1) best = false := b2 _ (List.mem_map.mpr ⟨w1, hw1, rfl⟩)
      have q3 : ltLot c best = false := ltLot_swo.tr _ _ _ q2 q1
      obtain ⟨_, as, bs, hsp, has⟩ := List.find?_eq_some_iff_append.mp hf
      have q4 : ltLot best c = false := by
        rw [hsp] at hbm hris
        rcases List.mem_append.mp hbm with hb | hb
        · have := has best hb
          rw [hbc] at this
          cases this
        · rcases List.mem_cons.mp hb with rfl | hb
          · exact ltLot_swo.refl best
          · exact (List.pairwise_cons.mp (List.pairwise_append.mp hris).2.1).1 best hb
      rw [lot_same q3 q4]
theorem VState.filter {b : Nat} {os : List (List Nat)} {st : List Cl} (h : VState b os st) (p : Cl → Bool) : VState b os (st.filter p) :=
  ⟨fun c hc => h.lt c (List.mem_filter.mp hc).1, fun c hc => h.way c (List.mem_filter.mp hc).1, h.asc.sublist List.filter_sublist, h.ap.sublist List.filter_sublist⟩
theorem gNotIn_tup {x : Nat} {l : List Nat} (hl : ∀ y ∈ l, y < 100) (hn : l.length ≤ 16) : gNotIn (.int (x : Int)) (dO l) = some (bl_ (!l.contains x)) := by
  have h := gIn_nats (x := x) hl (by omega)
  unfold gIn at h
  simp only at h
  show (if SeqAt.shaped (.int (x : Int)) = true ∧ SeqAt.shaped (.tuple (l.map dN)) = true then some (bl_ (!(l.map dN).any fun z => PyData.eqv z (.int (x : Int)))) else none) = _
  rw [if_pos ⟨rfl, (sz_dO hl hn).shaped (by decide)⟩]
  split at h
  · have h' := Option.some.inj h
    unfold bl_ at h' ⊢
    injection h' with h'
    injection h' with h'
    rw [h']
  · cases h
def lwS (d : PyData) (x2 x3 x4 x5 x6 x7 x8 x9 x10 x11 x12 x13 x14 x15 : Option VB) (m : DS) : Sx := ⟨[some (.dat d), some .drw, x2, x3, x4, x5, x6, x7, x8, x9, x10, x11, x12, x13, x14, x15, none, none, none, none], m⟩
def dDue : Option (List Nat) → PyData
  | none => .none
  | some l => dO l
theorem isNone_dO (l : List Nat) : gIs (dO l) .none = some (bl_ false) := rfl
theorem find_or {p : List Nat → Bool} (L : List (List Nat)) (j : Nat) {x : List Nat} (hx : L[j]? = some x) : (L.take (j + 1)).find? p = ((L.take j).find? p).or (if p x = true then some x else none) := by
  rw [List.take_add_one, hx, List.find?_append]
  congr 1
  show List.find? p [x] = _
  rw [List.find?_singleton]
theorem free_mem {n : Nat} {st : List Cl} {p : Nat × Nat} (h : p ∈ frees n st) : p.1 < n ∧ p.2 < n ∧ p.1 ∉ st.map (·.1) ∧ p.2 ∉ st.map fun c => lastW c.2 := by
  obtain ⟨i, hi, h⟩ := List.mem_flatMap.mp h
  obtain ⟨e, he, rfl⟩ := List.mem_map.mp h
  obtain ⟨he, hc⟩ := List.mem_filter.mp he
  rw [Bool.and_eq_true] at hc
  refine ⟨List.mem_range.mp hi, List.mem_range.mp he, fun z => ?_, fun z => ?_⟩
  · have := List.contains_iff_mem.mpr z
    rw [this] at hc
    cases hc.1
  · have := List.contains_iff_mem.mpr z
    rw [this] at hc
    cases hc.2
theorem frees_len (n : Nat) (st : List Cl) : (frees n st).length ≤ n * n := by
  unfold frees
  rw [List.length_flatMap]
  have : ∀ l : List Nat, (l.map fun i => (((List.range n).filter fun e => !(st.map (·.1)).contains i && !(st.map fun c => lastW c.2).contains e).map fun e => (i, e)).length).sum ≤ l.length * n := fun l => by
    induction l with
    | nil => simp
    | cons a t ih =>
      rw [List.map_cons, List.sum_cons, List.length_cons, Nat.succ_mul]
      have : (((List.range n).filter fun e => !(st.map (·.1)).contains a && !(st.map fun c => lastW c.2).contains e).map fun e => (a, e)).length ≤ n := by
        rw [List.length_map]
        have := List.length_filter_le (fun e => !(st.map (·.1)).contains a && !(st.map fun c => lastW c.2).contains e) (List.range n)
        rw [List.length_range] at this
        exact this
      omega
  have := this (List.range n)
  rw [List.length_range] at this
  exact this
theorem sz_st {b : Nat} {os : List (List Nat)} {st : List Cl} (h : VNet b os) (hs : VState b os st) : Sz 3 2291 (dSt st) := Sz.tup (k := 2) (t := 141) (n := 16) (fun d hd => by
  have h16 := pow16 h.b4
  have hr := h.rows
  obtain ⟨c, hc, rfl⟩ := List.mem_map.mp hd
  exact sz_cl (by have := hs.lt c hc; omega) (fun x hx => by have := (hs.way c hc).lt x hx; omega) (by have := (hs.way c hc).len; omega)) (by
  have h16 := pow16 h.b4
  have := hs.len
  rw [List.length_map]
  omega)
theorem sz_pr {p : Nat × Nat} (h1 : p.1 < 100) (h2 : p.2 < 100) : Sz 1 11 (dPr p) := Sz.tup (k := 0) (t := 2) (n := 2) (fun d hd => by
  rcases List.mem_cons.mp hd with rfl | hd
  · exact sz_nat h1
  · rw [List.mem_singleton.mp hd]; exact sz_nat h2) (by simp)
theorem shaped_prs {n : Nat} {st : List Cl} (hn : n ≤ 16) : SeqAt.shaped (.list ((frees n st).map dPr)) = true := by
  refine (Sz.lst (k := 1) (t := 11) (n := 256) (fun d hd => ?_) ?_).shaped (by decide)
  · obtain ⟨p, hp, rfl⟩ := List.mem_map.mp hd
    obtain ⟨h1, h2, _⟩ := free_mem hp
    exact sz_pr (by omega) (by omega)
  · rw [List.length_map]
    have h1 := frees_len n st
    have h2 : n * n ≤ 16 * 16 := Nat.mul_le_mul hn hn
    omega
theorem dO_inj : ∀ {a b : List Nat}, dO a = dO b → a = b := by
  intro a b h
  unfold dO at h
  injection h with h
  have inj : ∀ (a b : List Nat), a.map dN = b.map dN → a = b := fun a => by
    induction a with
    | nil => intro b hb; cases b with
      | nil => rfl
      | cons => cases hb
    | cons x xs ih => intro b hb; cases b with
      | nil => cases hb
      | cons y ys =>
        rw [List.map_cons, List.map_cons] at hb
        injection hb with h1 h2
        unfold dN at h1
        injection h1 with h1
        rw [ih ys h2, show x = y by omega]
  exact inj a b h
theorem map_dO_inj : ∀ {a b : List (List Nat)}, a.map dO = b.map dO → a = b
  | [], [], _ => rfl
  | [], _ :: _, h => by cases h
  | _ :: _, [], h => by cases h
  | x :: xs, y :: ys, h => by
    rw [List.map_cons, List.map_cons] at h
    injection h with h1 h2
    rw [dO_inj h1, map_dO_inj h2]
theorem sortN_rising (xs : List (List Nat)) : (sortN xs).Pairwise fun x y => ltD (dO y) (dO x) = false := by
  have := sortD_rising (xs.map dO)
  rw [← sortN_map] at this
  exact List.pairwise_map.mp this
theorem sortN_filter (l : List (List Nat)) (p : List Nat → Bool) : sortN (l.filter p) = (sortN l).filter p := by
  refine map_dO_inj (rising_uniq (fun x hx y hy => ?_) ?_ ?_ ?_)
  · obtain ⟨a, _, rfl⟩ := List.mem_map.mp hx
    obtain ⟨b, _, rfl⟩ := List.mem_map.mp hy
    exact cmpb_dO a b
  · exact List.pairwise_map.mpr (sortN_rising _)
  · exact List.pairwise_map.mpr ((sortN_rising _).sublist List.filter_sublist)
  · exact ((sortN_perm _).trans ((sortN_perm _).filter p).symm).map dO
/-- the ways that fit -/
def fits (os : List (List Nat)) (st : List Cl) (i e : Nat) : List (List Nat) := (sortN (allW os i os.length)).filter fun w => lastW w == e && apart w (st.map (·.2))
theorem fits_len {b i e : Nat} {os : List (List Nat)} {st : List Cl} (h : VNet b os) : (fits os st i e).length ≤ 128 := by
  have hrows := h.rows
  unfold fits
  refine Nat.le_trans (List.length_filter_le _ _) ?_
  rw [(sortN_perm _).length_eq, allW_len]
  have : 2 ^ (os.length + 1) ≤ 2 ^ 7 := Nat.pow_le_pow_right (by decide) (by omega)
  exact this
theorem fits_isW {b i e : Nat} {os : List (List Nat)} {st : List Cl} (h : VNet b os) (hi : i < 2 ^ b) : ∀ w ∈ fits os st i e, IsW os (2 ^ b) i os.length w := fun w hw =>
  ways_lt h hi (Nat.le_refl _) w ((sortN_perm _).mem_iff.mp (List.mem_filter.mp hw).1)
theorem sz_fits {b i e : Nat} {os : List (List Nat)} {st : List Cl} (h : VNet b os) (hi : i < 2 ^ b) : ∀ d ∈ (fits os st i e).map dO, Sz 1 67 d := fun d hd => by
  have h16 := pow16 h.b4
  have hrows := h.rows
  obtain ⟨w, hw, rfl⟩ := List.mem_map.mp hd
  have hw := fits_isW h hi w hw
  exact sz_dO (fun x hx => by have := hw.lt x hx; omega) (by have := hw.len; omega)
theorem lc2A_I {α β : Type} {vs vs1 : List Nat} {tgt tgt1 : Tg} {it1 : DDs} {elt : DD} {en : α → PyData} {inn : α → List β} {en1 : α → β → PyData} {f : α → β → PyData} (I : Sx → Prop) : ∀ (l : List α) (acc : List PyData) (w : Sx), acc.length + (l.flatMap inn).length ≤ 1000000 → I w →
    (∀ x ∈ l, ∀ w, I w → ∃ s2 s3 w1, tgt (en x) w = some s2 ∧ it1 s2 = .ok ((inn x).map (en1 x)) s3 ∧ wipeX vs1 s3 = w1 ∧ (∀ y ∈ inn x, ∃ s4 s5, tgt1 (en1 x y) w1 = some s4 ∧ elt s4 = .ok (f x y) s5 ∧ wipeX vs1 s5 = w1) ∧ I (wipeX vs w1)) →
    ∃ w', I w' ∧ lc2A vs vs1 tgt tdYes it1 tgt1 tdYes elt acc (l.map en) w = .ok (acc ++ l.flatMap fun x => (inn x).map (f x)) w'
  | [], acc, w, _, hw, _ => ⟨w, hw, by simp [lc2A]⟩
  | x :: r, acc, w, hl, hw, h => by
    obtain ⟨s2, s3, w1, e1, e2, e3, e4, e5⟩ := h x List.mem_cons_self w hw
    rw [List.flatMap_cons, List.length_append] at hl
    obtain ⟨w', hw', ih⟩ := lc2A_I (vs := vs) (vs1 := vs1) (tgt := tgt) (tgt1 := tgt1) (it1 := it1) (elt := elt) (en := en) (inn := inn) (en1 := en1) (f := f) I r (acc ++ (inn x).map (f x)) (wipeX vs w1) (by simp at hl ⊢; omega) e5 fun y m => h y (List.mem_cons_of_mem _ m)
    have i1 := lcA_mapE (vs := vs1) (tgt := tgt1) (elt := elt) (en := en1 x) (f := f x) (w := w1) (inn x) acc (by omega) e4
    refine ⟨w', hw', ?_⟩
    rw [List.map_cons]
    unfold lc2A
    rw [e1]
    simp only [tdYes, Out.nox, Out.bind, if_true, e2, e3]
    rw [i1]
    simp only
    rw [ih]
    simp
theorem lc2_I {α β : Type} {s s1 : Sx} {vs vs1 : List Nat} {it it1 : DDs} {tgt tgt1 : Tg} {elt : DD} {l : List α} {en : α → PyData} {inn : α → List β} {en1 : α → β → PyData} (f : α → β → PyData) (I : Sx → Prop) (hi : it s = .ok (l.map en) s1) (hw : I (wipeX vs s1)) (ho : noOwn vs s1 = true) (hl : (l.flatMap inn).length ≤ 1000000)
    (h : ∀ x ∈ l, ∀ w, I w → ∃ s2 s3 w1, tgt (en x) w = some s2 ∧ it1 s2 = .ok ((inn x).map (en1 x)) s3 ∧ wipeX vs1 s3 = w1 ∧ (∀ y ∈ inn x, ∃ s4 s5, tgt1 (en1 x y) w1 = some s4 ∧ elt s4 = .ok (f x y) s5 ∧ wipeX vs1 s5 = w1) ∧ I (wipeX vs w1)) :
    ∃ w', I w' ∧ dLc2 vs vs1 it tgt tdYes it1 tgt1 tdYes elt s = .ok (.tmp (l.flatMap fun x => (inn x).map (f x))) (backX vs s1 w') := by
  obtain ⟨w', hw', e⟩ := lc2A_I (vs := vs) (vs1 := vs1) (tgt := tgt) (tgt1 := tgt1) (it1 := it1) (elt := elt) (en := en) (inn := inn) (en1 := en1) (f := f) I l [] (wipeX vs s1) (by simpa using hl) hw h
  refine ⟨w', hw', ?_⟩
  unfold dLc2
  rw [hi]
  simp only [Out.bind, ho, if_true]
  rw [e]
  simp
theorem flatMap_filter {α β : Type} (p : α → Bool) (f : α → List β) : ∀ l : List α, (l.filter p).flatMap f = l.flatMap fun x => if p x = true then f x else []
  | [] => rfl
  | a :: l => by
    rw [List.filter_cons, List.flatMap_cons, ← flatMap_filter p f l]
    cases p a <;> simp
def fpS (b : Nat) (os : List (List Nat)) (st : List Cl) (x2 x3 : Option VB) : Sx := ⟨[some (.dat (dNet b os)), some (.dat (dSt st)), x2, x3, none, none, none, none], m0⟩
def hasFit (os : List (List Nat)) (st : List Cl) (p : Nat × Nat) : Bool := !(fits os st p.1 p.2).isEmpty
def opS (b : Nat) (os : List (List Nat)) (st : List Cl) : Sx := ⟨[some (.dat (dNet b os)), some (.dat (dSt st)), none], m0⟩
theorem dPr0 (p : Nat × Nat) : gIx (dPr p) (.int 0) = some (.dat (.int (p.1 : Nat))) := by simp [dPr]
theorem dPr1 (p : Nat × Nat) : gIx (dPr p) (.int 1) = some (.dat (.int (p.2 : Nat))) := by simp [dPr]
theorem shaped_fits {b i e : Nat} {os : List (List Nat)} {st : List Cl} (h : VNet b os) (hi : i < 2 ^ b) : SeqAt.shaped (.list ((fits os st i e).map dO)) = true :=
  (Sz.lst (k := 1) (t := 67) (n := 128) (sz_fits h hi) (by rw [List.length_map]; exact fits_len h)).shaped (by decide)
theorem isEmpty_map' {α β : Type} (f : α → β) (l : List α) : (l.map f).isEmpty = l.isEmpty := by cases l <;> rfl
/-! ### the law's dict -/
def kPr (p : Nat × Nat) : List Key := [.inl (p.1 : Int), .inl (p.2 : Int)]
theorem kPr_inj {p q : Nat × Nat} (h : kPr p = kPr q) : p = q := by
  unfold kPr at h
  injection h with h1 h2
  injection h2 with h2 _
  injection h1 with h1
  injection h2 with h2
  exact Prod.ext (by omega) (by omega)
theorem kPr_keyD (p : Nat × Nat) : (kPr p).map keyD = [.int (p.1 : Nat), .int (p.2 : Nat)] := rfl
theorem pairsOf_prs (f : Nat × Nat → PyData) : ∀ l : List (Nat × Nat), pairsOf (l.map fun p => .tuple [dPr p, f p]) = some (l.map fun p => (kPr p, f p))
  | [] => rfl
  | p :: l => by
    have hk : keyT (dPr p) = some (kPr p) := rfl
    rw [List.map_cons, List.map_cons]
    unfold VL.pairsOf
    rw [hk, pairsOf_prs f l]
    rfl
theorem gDict_prs (f : Nat × Nat → PyData) {l : List (Nat × Nat)} (hn : l.Nodup) (hl : l.length ≤ 1000) : gDict [.list (l.map fun p => .tuple [dPr p, f p])] = some (.dat (.dict (encT (l.map fun p => (kPr p, f p))))) := by
  show (match VL.pairsOf _ with | some kvs => _ | none => _) = _
  rw [pairsOf_prs]
  simp only
  rw [if_pos]
  refine ⟨?_, by simp; omega⟩
  rw [List.map_map]
  exact List.pairwise_map.mpr (hn.imp fun {a b} q e => q (kPr_inj e))
theorem gDGet_prs (f : Nat × Nat → PyData) {l : List (Nat × Nat)} {p : Nat × Nat} (hp : p ∈ l) : gDGet (.dict (encT (l.map fun p => (kPr p, f p)))) (dPr p) = some (.dat (f p)) := by
  show ((keyT (dPr p)).bind fun k => (valE (encT (l.map fun p => (kPr p, f p))) k).map RV.dat) = _
  have hk : keyT (dPr p) = some (kPr p) := rfl
  rw [hk, Option.bind_some]
  induction l with
  | nil => cases hp
  | cons q l ih =>
    show ((if keyT (.tuple ((kPr q).map keyD)) = some (kPr p) then some (f q) else valE (encT (l.map fun p => (kPr p, f p))) (kPr p)).map RV.dat) = _
    rw [keyT_keyD]
    by_cases e : q = p
    · subst e
      rw [if_pos rfl]
      rfl
    · rw [if_neg (fun z => e (kPr_inj (by injection z)))]
      exact ih ((List.mem_cons.mp hp).resolve_left fun z => e z.symm)
theorem frees_nodup (n : Nat) (st : List Cl) : (frees n st).Nodup := by
  have key : ∀ l : List Nat, l.Nodup → (l.flatMap fun i => ((List.range n).filter fun e => !(st.map (·.1)).contains i && !(st.map fun c => lastW c.2).contains e).map fun e => (i, e)).Nodup := fun l => by
    induction l with
    | nil => intro _; exact List.Pairwise.nil
    | cons a l ih =>
      intro hl
      obtain ⟨h1, h2⟩ := List.nodup_cons.mp hl
      rw [List.flatMap_cons]
      refine List.nodup_append.mpr ⟨?_, ih h2, fun x hx y hy => ?_⟩
      · exact List.pairwise_map.mpr ((List.nodup_range.sublist List.filter_sublist).imp fun {a b} q e => q (by injection e))
      · obtain ⟨_, _, rfl⟩ := List.mem_map.mp hx
        obtain ⟨c, hc, hy⟩ := List.mem_flatMap.mp hy
        obtain ⟨_, _, rfl⟩ := List.mem_map.mp hy
        intro e
        injection e with e _
        exact h1 (e ▸ hc)
  exact key _ List.nodup_range
theorem gNe_tnil {xs : List PyData} (h : SeqAt.shaped (.tuple xs) = true) : gNe (.tuple xs) (.tuple []) = some (bl_ (!xs.isEmpty)) := by
  rw [gNe_tup h rfl]
  cases xs <;> rfl
theorem gEq_tnil {xs : List PyData} (h : SeqAt.shaped (.tuple xs) = true) : gEq (.tuple xs) (.tuple []) = some (bl_ xs.isEmpty) := by
  rw [gEq_tup h rfl]
  cases xs <;> rfl
def lvS (d : PyData) (x2 x3 x4 x5 x6 x7 x8 x9 x10 x11 : Option VB) (x12 : Option PyData) (x13 x14 x15 x16 x17 x18 : Option VB) (m : DS) : Sx := ⟨[some (.dat d), some .drw, x2, x3, x4, x5, x6, x7, x8, x9, x10, x11, x12.map VB.dat, x13, x14, x15, x16, x17, x18, none, none, none], m⟩
def lvW (d : PyData) (x2 x3 x4 x5 x6 x7 x8 x9 x10 x11 : Option VB) (x13 x14 x15 x16 x17 x18 : Option VB) (m : DS) : Sx := ⟨[some (.dat d), some .drw, x2, x3, x4, x5, x6, x7, x8, x9, x10, x11, none, x13, x14, x15, x16, x17, x18, none, none, none], m⟩
def dFits (os : List (List Nat)) (st : List Cl) (p : Nat × Nat) : PyData := .tuple ((fits os st p.1 p.2).map dO)
def dFD (os : List (List Nat)) (st : List Cl) (l : List (Nat × Nat)) : PyData := .dict (encT (l.map fun p => (kPr p, dFits os st p)))
theorem sz_dFits {b : Nat} {os : List (List Nat)} {st : List Cl} {p : Nat × Nat} (h : VNet b os) (hp : p.1 < 2 ^ b) : Sz 2 8835 (dFits os st p) := Sz.tup (k := 1) (t := 67) (n := 128) (sz_fits h hp) (by rw [List.length_map]; exact fits_len h)
theorem filt85 {c : PyData → PyData → Option RV} {sd : PyData} {x2 x3 x4 x5 x6 x7 x8 x9 x10 x13 x14 x16 x17 x18 : Option VB} {x12 : Option PyData} {os : List (List Nat)} {st : List Cl} {m : DS} {FR : List (Nat × Nat)} {g : Nat × Nat → Bool} (hfl : FR.length ≤ 256) (hc : ∀ p ∈ FR, c (dFits os st p) (.tuple []) = some (bl_ (g p))) :
    dLc [12] (iSeq (dFrz (dVar 15))) (VL.gN 12) (dTest (dOp c (dOp gDGet (dVar 11) (dVar 12)) (dTup ddNil))) (dFrz (dVar 12)) (lvS sd x2 x3 x4 x5 x6 x7 x8 x9 x10 (some (.dat (dFD os st FR))) x12 x13 x14 (some (.dat (.list (FR.map dPr)))) x16 x17 x18 m)
      = .ok (.tmp ((FR.filter g).map dPr)) (lvS sd x2 x3 x4 x5 x6 x7 x8 x9 x10 (some (.dat (dFD os st FR))) x12 x13 x14 (some (.dat (.list (FR.map dPr)))) x16 x17 x18 m) := by
  refine lc_fil (vs := [12]) (l := FR) (en := dPr) dPr g (lvW sd x2 x3 x4 x5 x6 x7 x8 x9 x10 (some (.dat (dFD os st FR))) x13 x14 (some (.dat (.list (FR.map dPr)))) x16 x17 x18 m) (by simp [lvS, iSeq, asSeq, starD]) rfl (by cases x12 <;> rfl) (by cases x12 <;> rfl) (by omega) (fun p hp => ?_)
  have hg : gDGet (dFD os st FR) (dPr p) = some (.dat (dFits os st p)) := gDGet_prs (dFits os st) hp
  have hc := hc p hp
  refine ⟨⟨(lvW sd x2 x3 x4 x5 x6 x7 x8 x9 x10 (some (.dat (dFD os st FR))) x13 x14 (some (.dat (.list (FR.map dPr)))) x16 x17 x18 m).g.set 12 (some (.dat (dPr p))), m⟩, ⟨(lvW sd x2 x3 x4 x5 x6 x7 x8 x9 x10 (some (.dat (dFD os st FR))) x13 x14 (some (.dat (.list (FR.map dPr)))) x16 x17 x18 m).g.set 12 (some (.dat (dPr p))), m⟩, ⟨(lvW sd x2 x3 x4 x5 x6 x7 x8 x9 x10 (some (.dat (dFD os st FR))) x13 x14 (some (.dat (.list (FR.map dPr)))) x16 x17 x18 m).g.set 12 (some (.dat (dPr p))), m⟩, rfl, ?_, rfl, fun _ => ⟨by simp [lvW], rfl⟩⟩
  generalize g p = bb at hc
  generalize dFits os st p = zz at hc hg
  generalize dFD os st FR = FD at hg
  simp [lvW, hg, hc]
theorem sz_l4 {k t : Nat} {a b c d : PyData} (h1 : Sz k t a) (h2 : Sz k t b) (h3 : Sz k t c) (h4 : Sz k t d) : Sz (k + 1) (4 * (t + 2) + 3) (.list [a, b, c, d]) := Sz.lst (fun e he => by
  rcases List.mem_cons.mp he with rfl | he
  · exact h1
  rcases List.mem_cons.mp he with rfl | he
  · exact h2
  rcases List.mem_cons.mp he with rfl | he
  · exact h3
  rw [List.mem_singleton.mp he]
  exact h4) (by simp)
end G

namespace G
open PySem PySem.Spec PyProof.Rows L2 VL
theorem wp_fd_nil {tgt : Tg} {body : DSt} {s : Sx} {Q : Sx → Prop} {R : PyData → Sx → Prop} (h : Q s) : Wp (forD tgt body [] s) Q R := .nx h
theorem wp_fd_cons {tgt : Tg} {body : DSt} {d : PyData} {r : List PyData} {s s1 : Sx} {Q : Sx → Prop} {R : PyData → Sx → Prop} (e : tgt d s = some s1) (h : Wp (body s1) (fun s2 => Wp (forD tgt body r s2) Q R) R) : Wp (forD tgt body (d :: r) s) Q R := by
  unfold forD
  rw [e]
  simp only
  generalize body s1 = o at h
  cases h with
  | nx h => exact h
  | rt h => exact .rt h
theorem wp_for0 {it : DDs} {tgt : Tg} {body : DSt} {ds : List PyData} {s s1 : Sx} {Q : Sx → Prop} {R : PyData → Sx → Prop} (hi : it s = .ok ds s1) (h : Wp (forD tgt body ds s1) Q R) : Wp (sFor it tgt body s) Q R := by
  unfold sFor Out.toS
  rw [hi]
  exact h
theorem augI_ok {k i c : Nat} {fi fe : DE} {s : Sx} {L : List Nat} (hs : ownAt s k = some (L.map dN)) (hi : fi s = .ok (.dat (.int (i : Nat))) s) (he : fe s = .ok (.dat (.int (c : Nat))) s) (hl : i < L.length) :
    sAugI k (fun i j => i + j) fi fe s = .nx (setOwn s k ((L.set i (L.getD i 0 + c)).map dN)) := by
  unfold sAugI
  have ai : asInt (.dat (.int (i : Nat))) s = some (i : Int) := rfl
  have ac : asInt (.dat (.int (c : Nat))) s = some (c : Int) := rfl
  have g : (L.map dN)[i]? = some (.int (L.getD i 0 : Nat)) := by
    rw [List.getElem?_map, List.getElem?_eq_getElem hl, List.getD_eq_getElem?_getD, List.getElem?_eq_getElem hl]
    rfl
  simp only [hs, hi, e_toS_ok, ai, ixN_nat (show i < (L.map dN).length by rw [List.length_map]; exact hl), g, he, ac, if_true]
  congr 2
  rw [List.map_set]
  congr 1
theorem lat_step (g : Nat → List Nat) (j f : Nat) : ∀ E : List Nat, ((E.filter (fun x => decide (x < j + 1))).flatMap g).count f = ((E.filter (fun x => decide (x < j))).flatMap g).count f + E.count j * (g j).count f
  | [] => by simp
  | a :: E => by
    have ih := lat_step g j f E
    rw [List.filter_cons, List.filter_cons, List.count_cons]
    by_cases h1 : a < j
    · rw [if_pos (by simpa using Nat.lt_succ_of_lt h1), if_pos (by simpa using h1), List.flatMap_cons, List.flatMap_cons, List.count_append, List.count_append, ih]
      have : (a == j) = false := by simp; omega
      rw [this]
      simp
      omega
    · by_cases h2 : a = j
      · subst h2
        rw [if_pos (by simp), if_neg (by simp), List.flatMap_cons, List.count_append, ih]
        simp [Nat.add_mul]
        omega
      · rw [if_neg (by simp; omega), if_neg (by simpa using h1), ih]
        have : (a == j) = false := by simpa using h2
        rw [this]
        simp
def cnts (os : List (List Nat)) (i n k : Nat) : List Nat := (List.range n).map fun e => (ends os i k).count e
def lats (os : List (List Nat)) (i n k j : Nat) : List Nat := (List.range n).map fun f => (((ends os i k).filter (fun x => decide (x < j))).flatMap (nextW os k)).count f
theorem lats_0 (os : List (List Nat)) (i n k : Nat) : lats os i n k 0 = List.replicate n 0 := by
  unfold lats
  have : (ends os i k).filter (fun x => decide (x < 0)) = [] := by simp
  rw [this]
  simp [List.map_const']
theorem lats_n {os : List (List Nat)} {i n k : Nat} (h : ∀ x ∈ ends os i k, x < n) : lats os i n k n = cnts os i n (k + 1) := by
  unfold lats cnts
  rw [List.filter_eq_self.mpr fun x hx => by simpa using h x hx]
  rfl
theorem lats_step {os : List (List Nat)} {i n k j x : Nat} (hx : fstW ((os.getD k []).getD j 0) = x) (hn : x + 1 < n) :
    lats os i n k (j + 1) = (((lats os i n k j).set x ((lats os i n k j).getD x 0 + (ends os i k).count j)).set (x + 1) (((lats os i n k j).set x ((lats os i n k j).getD x 0 + (ends os i k).count j)).getD (x + 1) 0 + (ends os i k).count j)) := by
  have hl : (lats os i n k j).length = n := by simp [lats]
  have hg : ∀ f, f < n → (lats os i n k (j + 1)).getD f 0 = (lats os i n k j).getD f 0 + (ends os i k).count j * (nextW os k j).count f := fun f hf => by
    unfold lats
    rw [List.getD_eq_getElem?_getD, List.getElem?_map, List.getElem?_range hf, List.getD_eq_getElem?_getD, List.getElem?_map, List.getElem?_range hf]
    exact lat_step _ _ _ _
  have hc : ∀ f, (nextW os k j).count f = if f = x ∨ f = x + 1 then 1 else 0 := fun f => by
    unfold nextW
    rw [hx]
    by_cases h1 : f = x
    · subst h1; simp
    · by_cases h2 : f = x + 1
      · subst h2; simp
      · rw [if_neg (by omega)]
        simp [List.count_cons]
        omega
  apply List.ext_getElem?
  intro f
  by_cases hf : f < n
  · have e1 : (lats os i n k (j + 1))[f]? = some ((lats os i n k (j + 1)).getD f 0) := by
      rw [List.getD_eq_getElem?_getD, List.getElem?_eq_getElem (by simp [lats]; exact hf)]; rfl
    have e2 : (lats os i n k j)[f]? = some ((lats os i n k j).getD f 0) := by
      rw [List.getD_eq_getElem?_getD, List.getElem?_eq_getElem (by rw [hl]; exact hf)]; rfl
    rw [e1, hg f hf, hc]
    by_cases h1 : f = x + 1
    · subst h1
      rw [List.getElem?_set_self (by rw [List.length_set, hl]; exact hf), if_pos (.inr rfl)]
      rw [List.getD_eq_getElem?_getD (l := (lats os i n k j).set _ _), List.getElem?_set_ne (by omega), e2]
      simp
    · rw [List.getElem?_set_ne (Ne.symm h1)]
      by_cases h2 : f = x
      · subst h2
        rw [List.getElem?_set_self (by rw [hl]; exact hf), if_pos (.inl rfl)]
        simp
      · rw [List.getElem?_set_ne (Ne.symm h2), e2, if_neg (by omega)]
        simp
  · rw [List.getElem?_eq_none (by simp [lats]; omega), List.getElem?_eq_none (by simp [lats]; omega)]
theorem cnts_0 {i n : Nat} (os : List (List Nat)) (hi : fstW i + 1 < n) : cnts os i n 0 = ((List.replicate n 0).set (fstW i) 1).set (fstW i + 1) 1 := by
  apply List.ext_getElem?
  intro f
  unfold cnts ends
  by_cases hf : f < n
  · rw [List.getElem?_map, List.getElem?_range hf]
    by_cases h1 : f = fstW i + 1
    · rw [h1, List.getElem?_set_self (by simpa using hi)]
      simp
    · rw [List.getElem?_set_ne (Ne.symm h1)]
      by_cases h2 : f = fstW i
      · rw [h2, List.getElem?_set_self (by simp; omega)]
        simp
      · rw [List.getElem?_set_ne (Ne.symm h2), List.getElem?_replicate, if_pos hf]
        simp [List.count_cons]
        omega
  · rw [List.getElem?_eq_none (by simp; omega), List.getElem?_eq_none (by simp; omega)]
def cfS (b : Nat) (os : List (List Nat)) (i : Nat) (x2 x3 x4 x5 x6 x7 : Option VB) : Sx := ⟨[some (.dat (dNet b os)), some (.dat (.int i)), x2, x3, x4, x5, x6, x7], m0⟩
@[simp] theorem e_iSeq (f : DD) (s : Sx) : iSeq f s = (f s).bind asSeq := (rfl)
@[simp] theorem e_asSeq_l (ds : List PyData) (s : Sx) : asSeq (.list ds) s = .ok ds s := (rfl)
@[simp] theorem e_asSeq_t (ds : List PyData) (s : Sx) : asSeq (.tuple ds) s = .ok ds s := (rfl)
@[simp] theorem e_callF0 (fn : PFn) (s : Sx) : dCallF0 fn s = (match fn [] with
  | .ok d => .ok (.dat d) s
  | _ => .bad) := (rfl)
theorem gEq_lists {a b : List PyData} (h : SeqAt.shaped (.list a) = true) (h' : SeqAt.shaped (.list b) = true) : gEq (.list a) (.list b) = some (.dat (.bool (PyData.eqv (.list a) (.list b)))) := by
  show (if SeqAt.shaped (.list a) = true ∧ SeqAt.shaped (.list b) = true then some (bl_ (PyData.eqv (.list a) (.list b))) else none) = _
  rw [if_pos ⟨h, h'⟩]
  rfl
theorem gEq_listS {a : List PyData} (h : SeqAt.shaped (.list a) = true) : gEq (.list a) (.list a) = some (.dat (.bool true)) := by
  rw [gEq_lists h h, SeqAt.eqv_refl _ (SeqAt.canLay_of_shaped h)]
end G

namespace G
open PySem PySem.Spec PyProof.Rows L2 VL
/-! ### the one way -/
theorem waysTo_len (os : List (List Nat)) (i e : Nat) : (waysTo os i e).length = (ends os i os.length).count e := by
  unfold waysTo
  rw [← ends_all, List.count, List.countP_map, List.countP_eq_length_filter]
  rfl
def wayTo (os : List (List Nat)) (i e : Nat) : List Nat := (waysTo os i e).headD []
theorem Ban.one {b : Nat} {os : List (List Nat)} (h : Ban b os) {i e : Nat} (hi : i < 2 ^ b) (he : e < 2 ^ b) : waysTo os i e = [wayTo os i e] := by
  have hl := waysTo_len os i e
  rw [h i hi e he] at hl
  unfold wayTo
  match waysTo os i e, hl with
  | [w], _ => rfl
theorem Ban.wayTo_mem {b : Nat} {os : List (List Nat)} (h : Ban b os) {i e : Nat} (hi : i < 2 ^ b) (he : e < 2 ^ b) : wayTo os i e ∈ allW os i os.length ∧ lastW (wayTo os i e) = e := by
  have : wayTo os i e ∈ waysTo os i e := by rw [h.one hi he]; exact List.mem_singleton_self _
  unfold waysTo at this
  obtain ⟨h1, h2⟩ := List.mem_filter.mp this
  exact ⟨h1, by simpa using h2⟩
theorem Ban.wayTo_eq {b : Nat} {os : List (List Nat)} (h : Ban b os) {i : Nat} (hi : i < 2 ^ b) {w : List Nat} (hw : w ∈ allW os i os.length) (he : lastW w < 2 ^ b) : w = wayTo os i (lastW w) := by
  have : w ∈ waysTo os i (lastW w) := by
    unfold waysTo
    exact List.mem_filter.mpr ⟨hw, by simp⟩
  rw [h.one hi he] at this
  exact List.mem_singleton.mp this
theorem Ban.isW {b : Nat} {os : List (List Nat)} (h : Ban b os) (hv : VNet b os) {i e : Nat} (hi : i < 2 ^ b) (he : e < 2 ^ b) : IsW os (2 ^ b) i os.length (wayTo os i e) :=
  ways_lt hv hi (Nat.le_refl _) _ (h.wayTo_mem hi he).1
theorem VNet.ends_lt {b : Nat} {os : List (List Nat)} (hv : VNet b os) {i : Nat} (hi : i < 2 ^ b) : ∀ k, k ≤ os.length → ∀ x ∈ ends os i k, x < 2 ^ b := by
  have h2 := two_half hv.b1
  have := G.ends_lt (os := os) (n := 2 ^ b / 2) (i := i) (by rw [h2]; exact hv.ok) (by omega)
  rw [h2] at this
  exact this
theorem Ban.ends_nodup {b : Nat} {os : List (List Nat)} (h : Ban b os) (hv : VNet b os) {i : Nat} (hi : i < 2 ^ b) : (ends os i os.length).Nodup := by
  rw [List.nodup_iff_count]
  intro a
  by_cases ha : a < 2 ^ b
  · rw [h i hi a ha]; exact Nat.le_refl _
  · rw [List.count_eq_zero.mpr (fun z => ha (hv.ends_lt hi _ (Nat.le_refl _) a z))]
    exact Nat.zero_le _
theorem Ban.ends_mem {b : Nat} {os : List (List Nat)} (h : Ban b os) (hv : VNet b os) {i : Nat} (hi : i < 2 ^ b) (e : Nat) : e ∈ ends os i os.length ↔ e < 2 ^ b := by
  refine ⟨fun z => hv.ends_lt hi _ (Nat.le_refl _) e z, fun z => ?_⟩
  rw [← List.count_pos_iff, h i hi e z]
  decide
theorem fstW_idem {i j : Nat} (h : i / 2 = j / 2) : fstW i = fstW j := by unfold fstW; omega
theorem allW_sw {os : List (List Nat)} {i j : Nat} (h : i / 2 = j / 2) : ∀ k, allW os i k = allW os j k
  | 0 => by unfold allW; rw [fstW_idem h]
  | k + 1 => by unfold allW; rw [allW_sw h k]
theorem wayTo_sw {os : List (List Nat)} {i j e : Nat} (h : i / 2 = j / 2) : wayTo os i e = wayTo os j e := by
  unfold wayTo waysTo
  rw [allW_sw h]
/-! ### tables of ways -/
def tabE (os : List (List Nat)) (p : Nat × Nat) : List Key × PyData := (kPr p, dO (wayTo os p.1 p.2))
def tabD (os : List (List Nat)) (ps : List (Nat × Nat)) : PyData := .dict (encT (ps.map (tabE os)))
structure IsTab (n : Nat) (ps : List (Nat × Nat)) : Prop where
  nd : ps.Nodup
  mem : ∀ p, p ∈ ps ↔ p.1 < n ∧ p.2 < n
theorem putT_new {os : List (List Nat)} {ps : List (Nat × Nat)} {p : Nat × Nat} (h : p ∉ ps) : putKD (ps.map (tabE os)) (kPr p) (dO (wayTo os p.1 p.2)) = (ps ++ [p]).map (tabE os) := by
  unfold putKD
  rw [if_neg]
  · simp [tabE]
  · intro z
    obtain ⟨kv, h1, h2⟩ := List.any_eq_true.mp z
    obtain ⟨q, hq, rfl⟩ := List.mem_map.mp h1
    have : q = p := kPr_inj (of_decide_eq_true h2)
    subst this
    exact h hq
theorem tab_get {os : List (List Nat)} {n : Nat} {ps : List (Nat × Nat)} (h : IsTab n ps) {p : Nat × Nat} (h1 : p.1 < n) (h2 : p.2 < n) : gDGet (tabD os ps) (dPr p) = some (.dat (dO (wayTo os p.1 p.2))) :=
  gDGet_prs (fun p => dO (wayTo os p.1 p.2)) ((h.mem p).mpr ⟨h1, h2⟩)
theorem tab_list {os : List (List Nat)} {ps : List (Nat × Nat)} (h : ps ≠ []) : gListD [tabD os ps] = some (.tmp (ps.map dPr)) := by
  cases ps with
  | nil => exact absurd rfl h
  | cons p ps =>
    unfold tabD gListD encT
    simp [tabE, Function.comp_def, kPr_keyD, dPr]
def allPs (n : Nat) : List (Nat × Nat) := (List.range n).flatMap fun i => (List.range n).map fun e => (i, e)
theorem allPs_mem (n : Nat) (p : Nat × Nat) : p ∈ allPs n ↔ p.1 < n ∧ p.2 < n := by
  unfold allPs
  obtain ⟨i, e⟩ := p
  simp
def ltP (p q : Nat × Nat) : Prop := p.1 < q.1 ∨ (p.1 = q.1 ∧ p.2 < q.2)
theorem allPs_rise (n : Nat) : (allPs n).Pairwise ltP := by
  unfold allPs
  rw [List.pairwise_flatMap]
  refine ⟨fun i _ => ?_, ?_⟩
  · rw [List.pairwise_map]
    exact List.pairwise_lt_range.imp fun h => .inr ⟨rfl, h⟩
  · refine List.pairwise_lt_range.imp fun {a b} h x hx y hy => ?_
    obtain ⟨_, _, rfl⟩ := List.mem_map.mp hx
    obtain ⟨_, _, rfl⟩ := List.mem_map.mp hy
    exact .inl h
theorem allPs_nodup (n : Nat) : (allPs n).Nodup := (allPs_rise n).imp fun {a b} h e => by
  subst e
  unfold ltP at h
  omega
theorem allPs_len (n : Nat) : (allPs n).length = n * n := by
  unfold allPs
  rw [List.length_flatMap]
  simp [List.map_const', List.sum_replicate_nat]
theorem perm_of_mem {α : Type} [DecidableEq α] {l m : List α} (hl : l.Nodup) (hm : m.Nodup) (h : ∀ x, x ∈ l ↔ x ∈ m) : l.Perm m := by
  rw [List.perm_iff_count]
  intro a
  by_cases ha : a ∈ l
  · rw [hl.count, hm.count, if_pos ha, if_pos ((h a).mp ha)]
  · rw [hl.count, hm.count, if_neg ha, if_neg (fun z => ha ((h a).mpr z))]
theorem cmpb_dPr (p q : Nat × Nat) : cmpb (dPr p) (dPr q) = true := cmpb_dO [p.1, p.2] [q.1, q.2]
theorem ltD_dPr {p q : Nat × Nat} (h : ltP p q) : ltD (dPr q) (dPr p) = false := by
  unfold ltD
  have e : cmpD (dPr q) (dPr p) = (cmpD (.int (q.1 : Nat)) (.int (p.1 : Nat))).then ((cmpD (.int (q.2 : Nat)) (.int (p.2 : Nat))).then .eq) := rfl
  rw [e, cmpD_int, cmpD_int]
  unfold ltP at h
  rcases h with h | ⟨h1, h2⟩
  · rw [if_neg (by omega), if_pos (by omega)]
    rfl
  · rw [h1, if_neg (by omega), if_neg (by omega), if_neg (by omega), if_pos (by omega)]
    rfl
theorem sort_tab {n : Nat} {ps : List (Nat × Nat)} (h : IsTab n ps) : sortD (ps.map dPr) = (allPs n).map dPr := by
  have pm : (ps.map dPr).Perm ((allPs n).map dPr) := (perm_of_mem h.nd (allPs_nodup n) fun x => by rw [h.mem, allPs_mem]).map _
  refine rising_uniq (fun x hx y hy => ?_) (sortD_rising _) ?_ ((sortD_perm _).trans pm)
  · obtain ⟨p, _, rfl⟩ := List.mem_map.mp ((sortD_perm _).mem_iff.mp hx)
    obtain ⟨q, _, rfl⟩ := List.mem_map.mp ((sortD_perm _).mem_iff.mp hy)
    exact cmpb_dPr p q
  · exact List.pairwise_map.mpr ((allPs_rise n).imp fun h => ltD_dPr h)
theorem IsTab.len {n : Nat} {ps : List (Nat × Nat)} (h : IsTab n ps) : ps.length = n * n := by
  rw [(perm_of_mem h.nd (allPs_nodup n) fun x => by rw [h.mem, allPs_mem]).length_eq, allPs_len]
theorem sortOk_prs {l : List (Nat × Nat)} (h : ∀ p ∈ l, p.1 < 100 ∧ p.2 < 100) (hl : l.length ≤ 1000) : sortOk (l.map dPr) = true := by
  have := sortOk_dO (l := l.map fun p => [p.1, p.2]) (fun w hw => by
    obtain ⟨p, hp, rfl⟩ := List.mem_map.mp hw
    have := h p hp
    refine ⟨by simp, fun x hx => ?_, by simp⟩
    simp at hx
    omega) (by simpa using hl)
  rw [List.map_map] at this
  exact this
/-! ### a search -/
theorem wp_searchI {α β : Type} {it : DDs} {tgt : Tg} {body : DSt} {ds : List PyData} {s s1 : Sx} {l : List α} {en : Nat → α → PyData} {g : α → Option β} {out : β → PyData} (S : Sx → Prop) (hi : it s = .ok ds s1) (hl : ds.length = l.length) (hd : ∀ j x, l[j]? = some x → ds[j]? = some (en j x)) (h0 : S s1)
    (hb : ∀ j x, l[j]? = some x → ∀ s, S s → ∃ s2, tgt (en j x) s = some s2 ∧ Wp (body s2) (fun s3 => g x = none ∧ S s3) (fun d _ => ∃ y, g x = some y ∧ d = out y)) {Q : Sx → Prop} {R : PyData → Sx → Prop}
    (hq : ∀ s, l.findSome? g = none → S s → Q s) (hr : ∀ y s, l.findSome? g = some y → R (out y) s) : Wp (sFor it tgt body s) Q R := by
  refine wp_for (ds := ds) (s1 := s1) (fun j s => (l.take j).findSome? g = none ∧ S s) hi ⟨by simp, h0⟩ ?_ ?_
  · rintro j d s hj ⟨h1, h2⟩
    have hjl : j < l.length := by have := (List.getElem?_eq_some_iff.mp hj).1; omega
    have hx : l[j]? = some l[j] := List.getElem?_eq_getElem hjl
    have := hd j _ hx
    rw [hj] at this
    cases this
    obtain ⟨s2, e, hw⟩ := hb j _ hx s h2
    refine ⟨s2, e, hw.mono (fun s3 h3 => ⟨?_, h3.2⟩) (fun d s3 h3 => ?_)⟩
    · rw [List.take_add_one, hx, List.findSome?_append, h1]
      simp [h3.1]
    · obtain ⟨y, hy, rfl⟩ := h3
      refine hr y s3 ?_
      have e1 : l = l.take j ++ l[j] :: l.drop (j + 1) := by
        rw [← List.drop_eq_getElem_cons hjl, List.take_append_drop]
      have e2 : l.findSome? g = (l.take j ++ l[j] :: l.drop (j + 1)).findSome? g := congrArg _ e1
      rw [e2, List.findSome?_append, h1]
      simp only [Option.none_or, List.findSome?_cons, hy]
  · rintro s ⟨h1, h2⟩
    rw [hl, List.take_length] at h1
    exact hq s h1 h2
theorem wp_search {α β : Type} {it : DDs} {tgt : Tg} {body : DSt} {s s1 : Sx} {l : List α} {en : α → PyData} {g : α → Option β} {out : β → PyData} (S : Sx → Prop) (hi : it s = .ok (l.map en) s1) (h0 : S s1)
    (hb : ∀ x ∈ l, ∀ s, S s → ∃ s2, tgt (en x) s = some s2 ∧ Wp (body s2) (fun s3 => g x = none ∧ S s3) (fun d _ => ∃ y, g x = some y ∧ d = out y)) {Q : Sx → Prop} {R : PyData → Sx → Prop}
    (hq : ∀ s, l.findSome? g = none → S s → Q s) (hr : ∀ y s, l.findSome? g = some y → R (out y) s) : Wp (sFor it tgt body s) Q R :=
  wp_searchI (en := fun _ => en) S hi (by simp) (fun j x hx => by rw [List.getElem?_map, hx]; rfl) h0 (fun j x hx s hs => hb x (List.mem_of_getElem? hx) s hs) hq hr
theorem enum_at' {ds : List PyData} {j : Nat} {x : PyData} (h : ds[j]? = some x) : (enumD 0 ds)[j]? = some (.tuple [.int j, x]) := by
  have hl : j < (enumD 0 ds).length := by rw [enumD_len]; exact (List.getElem?_eq_some_iff.mp h).1
  obtain ⟨y, hy, e⟩ := enum_at (List.getElem?_eq_getElem hl)
  rw [h] at hy
  cases hy
  rw [List.getElem?_eq_getElem hl, e]
@[simp] theorem e_dNewT (s : Sx) : dNewT s = .ok (.tt []) s := (rfl)
@[simp] theorem e_putR_tt (i : Nat) (kvs : List (List Key × PyData)) (s : Sx) : putR i (.tt kvs) s = .nx { s with g := s.g.set i (some (.dt kvs)) } := (rfl)
theorem sPutT_ok {j : Nat} {fk : DE} {fv : DD} {s : Sx} {d : PyData} {kvs : List (List Key × PyData)} {p : Nat × Nat} (h1 : fv s = .ok d s) (h2 : dictTAt s j = some kvs) (h3 : fk s = .ok (.dat (dPr p)) s) (hl : kvs.length < 1000000) : sPutT j fk fv s = .nx (setDt s j (putKD kvs (kPr p) d)) := by
  unfold sPutT
  have hk : asKeyT (.dat (dPr p)) s = some (kPr p) := rfl
  simp only [h1, e_toS_ok, h2, h3, hk, hl, if_true]
theorem rng2_range (n : Nat) : rngD 0 2 n = (List.range n).map fun t => dN (2 * t) := by
  apply List.ext_getElem?
  intro j
  by_cases hj : j < n
  · obtain ⟨d, hd⟩ : ∃ d, (rngD 0 2 n)[j]? = some d := ⟨_, List.getElem?_eq_getElem (by rw [rngD_len]; exact hj)⟩
    obtain ⟨h1, _⟩ := rngD_get 2 n 0 j d hd
    rw [hd, h1, List.getElem?_map, List.getElem?_range hj]
    show _ = some (PyData.int ((2 * j : Nat) : Int))
    congr 2
    omega
  · rw [List.getElem?_eq_none (by rw [rngD_len]; omega), List.getElem?_eq_none (by simp; omega)]
end G
namespace G
open PySem PySem.Spec PyProof.Rows L2 VL
/-! ### what parts two nets -/
def pFar (n : Nat) (p : Nat × Nat) : List (Nat × Nat) := (allPs n).filter fun q => decide (p.1 < q.1) && (q.2 != p.2)
def parted (os os' : List (List Nat)) (p q : Nat × Nat) : Bool := apart (wayTo os p.1 p.2) [wayTo os q.1 q.2] != apart (wayTo os' p.1 p.2) [wayTo os' q.1 q.2]
def partAt (n : Nat) (os os' : List (List Nat)) (p : Nat × Nat) : Option ((Nat × Nat) × (Nat × Nat)) := (pFar n p).findSome? fun q => if parted os os' p q = true then some (p, q) else none
def partF (n : Nat) (os os' : List (List Nat)) : Option ((Nat × Nat) × (Nat × Nat)) := (allPs n).findSome? (partAt n os os')
def dPP (x : (Nat × Nat) × (Nat × Nat)) : PyData := .tuple [dPr x.1, dPr x.2]
def dPart0 : Option ((Nat × Nat) × (Nat × Nat)) → PyData
  | none => .none
  | some x => dPP x
theorem parted_symm (os os' : List (List Nat)) (p q : Nat × Nat) : parted os os' p q = parted os' os p q := by
  unfold parted
  cases apart (wayTo os p.1 p.2) [wayTo os q.1 q.2] <;> cases apart (wayTo os' p.1 p.2) [wayTo os' q.1 q.2] <;> rfl
theorem partF_symm (n : Nat) (os os' : List (List Nat)) : partF n os os' = partF n os' os := by
  unfold partF
  congr 1
  funext p
  unfold partAt
  congr 1
  funext q
  rw [parted_symm]
/-- those behind with a greater in are all with a greater in -/
theorem far_drop {n j : Nat} {p : Nat × Nat} (hj : (allPs n)[j]? = some p) : ((allPs n).drop (j + 1)).filter (fun q => decide (p.1 < q.1) && (q.2 != p.2)) = pFar n p := by
  unfold pFar
  obtain ⟨hl, hp⟩ := List.getElem?_eq_some_iff.mp hj
  have e1 : allPs n = (allPs n).take (j + 1) ++ (allPs n).drop (j + 1) := (List.take_append_drop _ _).symm
  have e2 : (allPs n).filter (fun q => decide (p.1 < q.1) && (q.2 != p.2)) = ((allPs n).take (j + 1) ++ (allPs n).drop (j + 1)).filter (fun q => decide (p.1 < q.1) && (q.2 != p.2)) := congrArg _ e1
  rw [e2, List.filter_append]
  have : ((allPs n).take (j + 1)).filter (fun q => decide (p.1 < q.1) && (q.2 != p.2)) = [] := by
    rw [List.filter_eq_nil_iff]
    intro q hq
    obtain ⟨k, hk⟩ := List.mem_iff_getElem?.mp hq
    rw [List.getElem?_take] at hk
    split at hk
    · rename_i hkj
      obtain ⟨l1, e3⟩ := List.getElem?_eq_some_iff.mp hk
      have : ¬ p.1 < q.1 := by
        by_cases z : k = j
        · subst z
          rw [← hp, ← e3]
          omega
        · have := (List.pairwise_iff_getElem.mp (allPs_rise n)) k j l1 hl (by omega)
          rw [e3, hp] at this
          unfold ltP at this
          omega
      simp [this]
    · cases hk
  rw [this, List.nil_append]
end G
namespace G
open PySem PySem.Spec PyProof.Rows L2 VL
theorem gNe_int (i j : Int) : gNe (.int i) (.int j) = some (.dat (.bool (!(i == j)))) := by
  show (if SeqAt.shaped (.int i) = true ∧ SeqAt.shaped (.int j) = true then some (bl_ (!PyData.eqv (.int i) (.int j))) else none) = _
  rw [if_pos ⟨rfl, rfl⟩]
  rfl
theorem gEq_int (i j : Int) : gEq (.int i) (.int j) = some (.dat (.bool (i == j))) := by
  show (if SeqAt.shaped (.int i) = true ∧ SeqAt.shaped (.int j) = true then some (bl_ (PyData.eqv (.int i) (.int j))) else none) = _
  rw [if_pos ⟨rfl, rfl⟩]
  rfl
theorem gNe_bool (i j : Bool) : gNe (.bool i) (.bool j) = some (.dat (.bool (i != j))) := by
  show (if SeqAt.shaped (.bool i) = true ∧ SeqAt.shaped (.bool j) = true then some (bl_ (!PyData.eqv (.bool i) (.bool j))) else none) = _
  rw [if_pos ⟨rfl, rfl⟩]
  cases i <;> cases j <;> rfl
theorem gEq_bool (i j : Bool) : gEq (.bool i) (.bool j) = some (.dat (.bool (i == j))) := by
  show (if SeqAt.shaped (.bool i) = true ∧ SeqAt.shaped (.bool j) = true then some (bl_ (PyData.eqv (.bool i) (.bool j))) else none) = _
  rw [if_pos ⟨rfl, rfl⟩]
  cases i <;> cases j <;> rfl
theorem nat_beq (i j : Nat) : ((i : Int) == (j : Int)) = (i == j) := by
  by_cases h : i = j
  · subst h; simp
  · have : ¬ (i : Int) = j := by omega
    rw [beq_eq_false_iff_ne.mpr h, beq_eq_false_iff_ne.mpr this]
end G
namespace G
open PySem PySem.Spec PyProof.Rows L2 VL
def ringB : List (List Nat) := [[0, 2, 3, 4, 5, 6, 7, 1], [0, 2, 4, 6, 1, 3, 5, 7]]
theorem ringV : VNet 3 ringB := ⟨by decide, by decide, by decide, fun o ho => isP_dec _ _ (by revert o; decide)⟩
theorem ring_ban : Ban 3 ringB := by decide +kernel
theorem find_filter {α β : Type} (c : α → Bool) (g : α → Option β) : ∀ l : List α, (l.filter c).findSome? g = l.findSome? fun x => if c x = true then g x else none
  | [] => rfl
  | x :: l => by
    rw [List.filter_cons, List.findSome?_cons]
    by_cases h : c x = true
    · rw [if_pos h, if_pos h, List.findSome?_cons, find_filter c g l]
    · rw [if_neg h, if_neg h, find_filter c g l]
/-! ### demands -/
structure VDem (n : Nat) (ds : List (Nat × Nat)) : Prop where
  lt : ∀ p ∈ ds, p.1 < n ∧ p.2 < n
  up : ds.Pairwise fun p q => p.1 < q.1 ∧ p.2 ≠ q.2
def dDem (ds : List (Nat × Nat)) : PyData := .tuple (ds.map dPr)
theorem VDem.len {n : Nat} {ds : List (Nat × Nat)} (h : VDem n ds) : ds.length ≤ n := by
  have h1 : (ds.map (·.1)).Nodup := List.pairwise_map.mpr (h.up.imp fun q e => by omega)
  have := List.Nodup.length_le_of_subset (l₂ := List.range n) h1 (fun x hx => by
    obtain ⟨p, hp, rfl⟩ := List.mem_map.mp hx
    exact List.mem_range.mpr (h.lt p hp).1)
  simpa using this
def kvP (cs : List (Nat × Nat)) : List (Key × PyData) := cs.map fun c => (.inl (c.1 : Nat), .int (c.2 : Nat))
theorem kvP_val (cs : List (Nat × Nat)) (i : Nat) : (valD (kvP cs) (.inl (i : Int))).isSome = (cs.map (·.1)).contains i := by
  induction cs with
  | nil => rfl
  | cons c cs ih =>
    show (valD ((.inl (c.1 : Int), .int (c.2 : Nat)) :: kvP cs) (.inl (i : Int))).isSome = _
    rw [valD_cons, List.map_cons, List.contains_cons]
    by_cases h : c.1 = i
    · rw [if_pos (by rw [h]), h]
      simp
    · have : ¬ (Sum.inl (c.1 : Int) : Key) = Sum.inl (i : Int) := fun z => h (by injection z with z; omega)
      rw [if_neg this, ih]
      have : (i == c.1) = false := by simpa using fun z => h z.symm
      rw [this, Bool.false_or]
theorem kvP_put (cs : List (Nat × Nat)) (c : Nat × Nat) (h : (cs.map (·.1)).contains c.1 = false) : putKD (kvP cs) (.inl ((c.1 : Nat) : Int)) (.int (c.2 : Nat)) = kvP (cs ++ [c]) := by
  unfold putKD
  rw [valD_any, kvP_val, h, if_neg (by simp)]
  simp [kvP]
theorem kvP_none {cs : List (Nat × Nat)} {i : Nat} (h : (cs.map (·.1)).contains i = false) : valD (kvP cs) (.inl (i : Int)) = none := by
  have := kvP_val cs i
  rw [h] at this
  simpa using this
def flipP (p : Nat × Nat) : Nat × Nat := (p.2, p.1)
structure PreDem (n : Nat) (cs : List (Nat × Nat)) : Prop where
  lt : ∀ p ∈ cs, p.1 < n ∧ p.2 < n
  n1 : (cs.map (·.1)).Nodup
  n2 : (cs.map (·.2)).Nodup
theorem PreDem.len {n : Nat} {ds : List (Nat × Nat)} (h : PreDem n ds) : ds.length ≤ n := by
  have := List.Nodup.length_le_of_subset (l₂ := List.range n) h.n1 (fun x hx => by
    obtain ⟨p, hp, rfl⟩ := List.mem_map.mp hx
    exact List.mem_range.mpr (h.lt p hp).1)
  simpa using this
theorem ltD_dPr' {p q : Nat × Nat} (h : ltD (dPr q) (dPr p) = false) (hne : p.1 ≠ q.1) : p.1 < q.1 := by
  by_cases z : p.1 < q.1
  · exact z
  · exfalso
    have e : cmpD (dPr q) (dPr p) = (cmpD (.int (q.1 : Nat)) (.int (p.1 : Nat))).then ((cmpD (.int (q.2 : Nat)) (.int (p.2 : Nat))).then .eq) := rfl
    unfold ltD at h
    rw [e, cmpD_int, if_pos (by omega)] at h
    cases h
theorem PreDem.sort {n : Nat} {cs : List (Nat × Nat)} (h : PreDem n cs) : VDem n (sortB dPr cs) := by
  have pm := sortB_perm dPr cs
  refine ⟨fun p hp => h.lt p (pm.mem_iff.mp hp), ?_⟩
  have r := sortB_rising dPr cs
  have n1 : (sortB dPr cs).Pairwise fun p q => p.1 ≠ q.1 := List.pairwise_map.mp (show ((sortB dPr cs).map Prod.fst).Nodup from (pm.map Prod.fst).nodup_iff.mpr h.n1)
  have n2 : (sortB dPr cs).Pairwise fun p q => p.2 ≠ q.2 := List.pairwise_map.mp (show ((sortB dPr cs).map Prod.snd).Nodup from (pm.map Prod.snd).nodup_iff.mpr h.n2)
  exact (r.and (n1.and n2)).imp fun ⟨a, b, c⟩ => ⟨ltD_dPr' a b, c⟩
def wayP (os : List (List Nat)) (p : Nat × Nat) : List Nat := wayTo os p.1 p.2
def failAt (os : List (List Nat)) (ds : List (Nat × Nat)) (j : Nat) : Option Unit := if apart (wayP os (ds.getD j (0, 0))) ((ds.take j).map (wayP os)) = true then none else some ()
def passB (os : List (List Nat)) (ds : List (Nat × Nat)) : Bool := ((List.range ds.length).findSome? (failAt os ds)).isNone
theorem apart_forall {w : List Nat} {ws : List (List Nat)} : apart w ws = ws.all fun o => apart w [o] := by
  unfold apart
  simp
theorem find_congr {α β : Type} {g g' : α → Option β} : ∀ {l : List α}, (∀ x ∈ l, g x = g' x) → l.findSome? g = l.findSome? g'
  | [], _ => rfl
  | x :: l, h => by
    rw [List.findSome?_cons, List.findSome?_cons, h x List.mem_cons_self, find_congr fun y hy => h y (List.mem_cons_of_mem _ hy)]
theorem all_congr {α : Type} {g g' : α → Bool} : ∀ {l : List α}, (∀ x ∈ l, g x = g' x) → l.all g = l.all g'
  | [], _ => rfl
  | x :: l, h => by
    rw [List.all_cons, List.all_cons, h x List.mem_cons_self, all_congr fun y hy => h y (List.mem_cons_of_mem _ hy)]
theorem partF_none {n : Nat} {os os' : List (List Nat)} (hp : partF n os os' = none) {p q : Nat × Nat} (h1 : p.1 < n ∧ p.2 < n) (h2 : q.1 < n ∧ q.2 < n) (h3 : p.1 < q.1) (h4 : q.2 ≠ p.2) : parted os os' p q = false := by
  have a := List.findSome?_eq_none_iff.mp hp p ((allPs_mem n p).mpr h1)
  have b := List.findSome?_eq_none_iff.mp a q (List.mem_filter.mpr ⟨(allPs_mem n q).mpr h2, by simp [h3, h4]⟩)
  cases e : parted os os' p q with
  | false => rfl
  | true => rw [e] at b; simp at b
theorem passB_alike {b : Nat} {os os' : List (List Nat)} {ds : List (Nat × Nat)} (h : VNet b os) (h' : VNet b os') (hb : Ban b os) (hb' : Ban b os') (hd : VDem (2 ^ b) ds) (hp : partF (2 ^ b) os os' = none) : passB os ds = passB os' ds := by
  unfold passB
  congr 1
  refine find_congr fun j hj => ?_
  have hj := List.mem_range.mp hj
  have key : apart (wayP os (ds.getD j (0, 0))) ((ds.take j).map (wayP os)) = apart (wayP os' (ds.getD j (0, 0))) ((ds.take j).map (wayP os')) := by
    rw [apart_forall, apart_forall, List.all_map, List.all_map]
    have hq : ds[j]? = some (ds.getD j (0, 0)) := by rw [List.getD_eq_getElem?_getD, List.getElem?_eq_getElem hj]; rfl
    have hq2 := hd.lt _ (List.mem_of_getElem? hq)
    refine all_congr fun p hpm => ?_
    have hpq := pw_take hd.up hq p hpm
    have hp2 := hd.lt p (List.mem_of_mem_take hpm)
    have := partF_none hp hp2 hq2 hpq.1 (Ne.symm hpq.2)
    show apart (wayP os (ds.getD j (0, 0))) [wayP os p] = apart (wayP os' (ds.getD j (0, 0))) [wayP os' p]
    have l1 : ∀ o, VNet b o → Ban b o → (wayP o (ds.getD j (0, 0))).length = (wayP o p).length := fun o ho hob => by
      have a1 := (hob.isW ho hq2.1 hq2.2).len
      have a2 := (hob.isW ho hp2.1 hp2.2).len
      unfold wayP
      rw [a1, a2]
    rw [apart_symm (l1 os h hb), apart_symm (l1 os' h' hb')]
    unfold parted at this
    simpa [wayP] using this
  unfold failAt
  rw [key]
end G
namespace G
open PySem PySem.Spec PyProof.Rows L2 VL
def swap01 (os : List (List Nat)) : List (List Nat) := ((os.headD []).getD 1 0 :: (os.headD []).getD 0 0 :: (os.headD []).drop 2) :: os.tail
theorem swap01_ok {b : Nat} {os : List (List Nat)} (h : VNet b os) (hb : Ban b os) (hne : os ≠ []) : VNet b (swap01 os) ∧ Ban b (swap01 os) := by
  obtain ⟨o, r, rfl⟩ : ∃ o r, os = o :: r := by
    cases os with
    | nil => exact absurd rfl hne
    | cons o r => exact ⟨o, r, rfl⟩
  have ho := h.ok o List.mem_cons_self
  have h2 := two_half h.b1
  obtain ⟨k, ek⟩ : ∃ k, k = 2 ^ b / 2 := ⟨_, rfl⟩
  have hk : 1 ≤ k := by
    have : 2 ^ 1 ≤ 2 ^ b := Nat.pow_le_pow_right (by decide) h.b1
    omega
  obtain ⟨x, y, z, eo⟩ : ∃ x y z, o = x :: y :: z := by
    have := ho.len
    match o, this with
    | [], h => simp at h; omega
    | [_], h => simp at h; omega
    | x :: y :: z, _ => exact ⟨x, y, z, rfl⟩
  subst eo
  have es : swap01 ((x :: y :: z) :: r) = (y :: x :: z) :: r := rfl
  rw [es]
  have hoS : IsP (2 ^ b) (y :: x :: z) := by
    have pm : (y :: x :: z).Perm (x :: y :: z) := .swap _ _ _
    exact ⟨by rw [pm.length_eq]; exact ho.len, fun a ha => ho.lt a (pm.mem_iff.mp ha), pm.nodup_iff.mpr ho.nd⟩
  refine ⟨⟨h.b1, h.b4, h.rows, fun a ha => ?_⟩, ?_⟩
  · rcases List.mem_cons.mp ha with rfl | ha
    · exact hoS
    · exact h.ok a (List.mem_cons_of_mem _ ha)
  have idP : IsP k (List.range k) := ⟨List.length_range, fun a ha => List.mem_range.mp ha, List.nodup_range⟩
  have gr : ∀ i, i < r.length + 2 → (List.replicate (r.length + 2) (List.range k)).getD i [] = List.range k := fun i hi => by
    rw [List.getD_eq_getElem?_getD, List.getElem?_replicate, if_pos hi]; rfl
  have rg : ∀ w, w / 2 < k → (List.range k).getD (w / 2) 0 = w / 2 := fun w hw => by
    rw [List.getD_eq_getElem?_getD, List.getElem?_range hw]; rfl
  have aid : ∀ w, w < 2 * k → A_ (List.range k) [] w = w := fun w hw => by
    unfold A_
    rw [rg w (by omega)]
    simp
    omega
  refine Ren.ban (k := k) (by omega) (sp := List.replicate (r.length + 2) (List.range k)) (os := (x :: y :: z) :: r) ⟨rfl, by simp, fun p hp => by rw [(List.mem_replicate.mp hp).2]; exact idP, fun i hi => ?_⟩ (by rw [ek, h2]; exact h.ok) hb
  simp at hi
  cases i with
  | zero =>
    refine ⟨[1], [], fun w hw => ?_⟩
    rw [gr 0 (by omega), gr 1 (by omega)]
    have hlt : ((((x :: y :: z) :: r).getD 0 []).getD w 0) < 2 * k := by
      obtain ⟨p, e, hp⟩ := ho.get (w := w) (by omega)
      show (x :: y :: z).getD w 0 < 2 * k
      rw [List.getD_eq_getElem?_getD, e]
      simp
      omega
    rw [aid _ hlt]
    match w with
    | 0 => simp [A_, rg 0 (by omega)]; rw [List.getElem?_range (by omega)]; rfl
    | 1 => simp [A_]; rw [List.getElem?_range (by omega)]; rfl
    | w + 2 =>
      have : A_ (List.range k) [1] (w + 2) = w + 2 := by
        unfold A_
        rw [rg (w + 2) (by omega), show (w + 2) / 2 = w / 2 + 1 by omega]
        simp
        omega
      rw [this]
      rfl
  | succ i =>
    refine ⟨[], [], fun w hw => ?_⟩
    rw [gr (i + 1) (by omega), gr (i + 1 + 1) (by omega), aid w hw]
    have hm : r.getD i [] ∈ r := getD_mem (by omega)
    have hlt : (r.getD i []).getD w 0 < 2 * k := by
      obtain ⟨p, e, hp⟩ := (h.ok _ (List.mem_cons_of_mem _ hm)).get (w := w) (by omega)
      rw [List.getD_eq_getElem?_getD, e]
      simp
      omega
    show (r.getD i []).getD w 0 = A_ (List.range k) [] ((r.getD i []).getD w 0)
    rw [aid _ hlt]
end G

namespace G
open PySem PySem.Spec PyProof.Rows L2 VL
theorem eqv_nil (l : List PyData) : PyData.eqv (.list l) (.list []) = l.isEmpty := by cases l <;> rfl
theorem gEq_nil {l : List PyData} (h : SeqAt.shaped (.list l) = true) : gEq (.list l) (.list []) = some (.dat (.bool l.isEmpty)) := by
  rw [gEq_lists h rfl, eqv_nil]
theorem gNe_nil {l : List PyData} (h : SeqAt.shaped (.list l) = true) : gNe (.list l) (.list []) = some (.dat (.bool (!l.isEmpty))) := by
  show (if SeqAt.shaped (.list l) = true ∧ SeqAt.shaped (.list []) = true then some (bl_ (!PyData.eqv (.list l) (.list []))) else none) = _
  rw [if_pos ⟨h, rfl⟩, eqv_nil]
  rfl
def keepB (ws : List (List Nat)) : Bool := (List.range ws.length).all fun j => apart (ws.getD j []) (ws.take j)
theorem keepB_pass (os : List (List Nat)) (ds : List (Nat × Nat)) : keepB (ds.map (wayP os)) = passB os ds := by
  unfold keepB passB
  rw [List.length_map]
  have h1 : ∀ j ∈ List.range ds.length, apart ((ds.map (wayP os)).getD j []) ((ds.map (wayP os)).take j) = (failAt os ds j).isNone := fun j hj => by
    have hj := List.mem_range.mp hj
    have e1 : (ds.map (wayP os)).getD j [] = wayP os (ds.getD j (0, 0)) := by
      rw [List.getD_eq_getElem?_getD, List.getElem?_map, List.getElem?_eq_getElem hj, List.getD_eq_getElem?_getD, List.getElem?_eq_getElem hj]
      rfl
    rw [e1, ← List.map_take]
    unfold failAt
    cases apart (wayP os (ds.getD j (0, 0))) ((ds.take j).map (wayP os)) <;> rfl
  rw [all_congr h1]
  cases e : (List.range ds.length).findSome? (failAt os ds) with
  | none =>
    have := List.findSome?_eq_none_iff.mp e
    exact List.all_eq_true.mpr fun j hj => by rw [this j hj]; rfl
  | some y =>
    obtain ⟨j, hj, h2⟩ := List.exists_of_findSome?_eq_some e
    have : ¬ ((List.range ds.length).all fun j => (failAt os ds j).isNone) = true := fun z => by
      have := List.all_eq_true.mp z j hj
      rw [h2] at this
      cases this
    simpa using this
/-! ### menus and logs -/
def dMenu (b : Nat) (ms : List (List (List Nat))) : PyData := .tuple (ms.map (dNet b))
abbrev LogI := List (Nat × Nat) × Bool
def dLi (x : LogI) : PyData := .tuple [dDem x.1, .bool x.2]
def dLog (lg : List LogI) : PyData := .tuple (lg.map dLi)
structure VMenu (b : Nat) (ms : List (List (List Nat))) : Prop where
  ne : ms ≠ []
  len : ms.length ≤ 8
  ok : ∀ os ∈ ms, VNet b os ∧ Ban b os
structure VLog (b : Nat) (lg : List LogI) : Prop where
  len : lg.length ≤ 30
  ok : ∀ x ∈ lg, VDem (2 ^ b) x.1
def goes (os : List (List Nat)) (lg : List LogI) : Bool := lg.all fun x => passB os x.1 == x.2
def going (ms : List (List (List Nat))) (lg : List LogI) : List Nat := (List.range ms.length).filter fun j => goes (ms.getD j []) lg
theorem VLog.take {b : Nat} {lg : List LogI} (h : VLog b lg) (k : Nat) : VLog b (lg.take k) := ⟨by have := h.len; rw [List.length_take]; omega, fun x hx => h.ok x (List.mem_of_mem_take hx)⟩
def badAt (ms : List (List (List Nat))) (lg : List LogI) (k : Nat) : Option Nat := if (going ms (lg.take (k + 1))).isEmpty = true then some k else none
def firstBad (ms : List (List (List Nat))) (lg : List LogI) : Option Nat := (List.range lg.length).findSome? (badAt ms lg)
def dOpt : Option Nat → PyData
  | none => .none
  | some k => .int (k : Nat)
theorem sz_dem {n : Nat} {ds : List (Nat × Nat)} (h : VDem n ds) (hn : n ≤ 16) : Sz 2 211 (dDem ds) := Sz.tup (k := 1) (t := 11) (n := 16) (fun d hd => by
  obtain ⟨p, hp, rfl⟩ := List.mem_map.mp hd
  have := h.lt p hp
  exact sz_pr (by omega) (by omega)) (by have := h.len; rw [List.length_map]; omega)
theorem going_lt {ms : List (List (List Nat))} {lg : List LogI} : ∀ x ∈ going ms lg, x < ms.length := fun x hx => List.mem_range.mp (List.mem_filter.mp hx).1
theorem going_len (ms : List (List (List Nat))) (lg : List LogI) : (going ms lg).length ≤ ms.length := by
  have := List.length_filter_le (fun j => goes (ms.getD j []) lg) (List.range ms.length)
  simpa [going] using this
theorem getD_mem3 {l : List (List (List Nat))} {i : Nat} (hi : i < l.length) : l.getD i [] ∈ l := by
  rw [List.getD_eq_getElem?_getD, List.getElem?_eq_getElem hi]
  exact List.getElem_mem hi
theorem tyOk_t (ds : List PyData) : VL.tyOk (.tuple ds) = true := rfl
end G

namespace G
open PySem PySem.Spec PyProof.Rows L2 VL
def den_is_whole : DSt := (sRet (dFrz (dAnd (dIsi .int (dVar 0)) (dAnd (dNot (dIsi .bool (dVar 0))) (dChain gLe gLe (dVar 1) (dVar 0) (dVar 2))))))
def fn_is_whole : PFn := fnOfD 3 den_is_whole
def den_is_order : DSt := (sSeq (sIf (tdOr (tdNot (dTest (dIsi .tuple (dVar 0)))) (tdOr (dTest (dOp gNe (dCall gLen (daCons (dVar 0) daNil)) (dVar 1))) (tdNot (dTest (dCall gAll (daCons (dLc [2] (iSeq (dFrz (dVar 0))) (gN 2) tdYes (dFrz (dCallN fn_is_whole (daCons (dVar 2) (daCons (dC (.int 0)) (daCons (dOp gSub (dVar 1) (dC (.int 1))) daNil)))))) daNil)))))) (sRet (dFrz (dC (.bool false)))) sNext) (sRet (dFrz (dOp gEq (dUn gLenSet (dVar 0)) (dVar 1)))))
def fn_is_order : PFn := fnOfD 3 den_is_order
def den_wires_of : DSt := (sRet (dFrz (dOp gShl (dC (.int 1)) (dOp gIx (dVar 0) (dC (.int 0))))))
def fn_wires_of : PFn := fnOfD 1 den_wires_of
def den_need_net : DSt := (sSeq (sIf (tdOr (tdNot (dTest (dIsi .tuple (dVar 0)))) (dTest (dOp gNe (dCall gLen (daCons (dVar 0) daNil)) (dC (.int 2))))) sBad sNext) (sSeq (sIf (tdNot (dTest (dCallN fn_is_whole (daCons (dOp gIx (dVar 0) (dC (.int 0))) (daCons (dC (.int 1)) (daCons (dC (.int 4)) daNil)))))) sBad sNext) (sSeq (sIf (tdOr (tdNot (dTest (dIsi .tuple (dOp gIx (dVar 0) (dC (.int 1)))))) (dTest (dOp gGe (dCall gLen (daCons (dOp gIx (dVar 0) (dC (.int 1))) daNil)) (dC (.int 7))))) sBad sNext) (sSeq (sFor (iEnum0 (ddCons (dFrz (dOp gIx (dVar 0) (dC (.int 1)))) ddNil)) (gTup0 2 (gCons0 (gN 1) (gCons0 (gN 2) gNil0))) (sIf (tdNot (dTest (dCallN fn_is_order (daCons (dVar 2) (daCons (dCallN fn_wires_of (daCons (dVar 0) daNil)) daNil))))) sBad sNext)) (sRet (dFrz (dVar 0)))))))
def fn_need_net : PFn := fnOfD 3 den_need_net
def den_next_wires : DSt := (sSeq (sSet 3 (dOp gIx (dOp gIx (dOp gIx (dVar 0) (dC (.int 1))) (dVar 1)) (dVar 2))) (sRet (dFrz (dLst (ddCons (dFrz (dOp gSub (dVar 3) (dOp gMod (dVar 3) (dC (.int 2))))) (ddCons (dFrz (dOp gAdd (dOp gSub (dVar 3) (dOp gMod (dVar 3) (dC (.int 2)))) (dC (.int 1)))) ddNil))))))
def fn_next_wires : PFn := fnOfD 4 den_next_wires
def den_counts_from : DSt := (sSeq (sSet 2 (dOp gMulT (dLst (ddCons (dFrz (dC (.int 0))) ddNil)) (dCallN fn_wires_of (daCons (dVar 0) daNil)))) (sSeq (sSetI2 2 (dOp gSub (dVar 1) (dOp gMod (dVar 1) (dC (.int 2)))) (dOp gAdd (dOp gSub (dVar 1) (dOp gMod (dVar 1) (dC (.int 2)))) (dC (.int 1))) (dFrz (dC (.int 1)))) (sSeq (sFor (iRng1 (dCall gLen (daCons (dOp gIx (dVar 0) (dC (.int 1))) daNil))) (gN 3) (sSeq (sSet 4 (dOp gMulT (dLst (ddCons (dFrz (dC (.int 0))) ddNil)) (dCallN fn_wires_of (daCons (dVar 0) daNil)))) (sSeq (sFor (iEnum0 (ddCons (dFrz (dVar 2)) ddNil)) (gTup0 2 (gCons0 (gN 5) (gCons0 (gN 6) gNil0))) (sFor (iSeq (dFrz (dCallF fn_next_wires (ddCons (dFrz (dVar 0)) (ddCons (dFrz (dVar 3)) (ddCons (dFrz (dVar 5)) ddNil)))))) (gN 7) (sAugI 4 (fun i j => i + j) (dVar 7) (dVar 6)))) (sSet 2 (dVar 4))))) (sRet (dFrz (dVar 2))))))
def fn_counts_from : PFn := fnOfD 8 den_counts_from
def den_is_banyan_of : DSt := (sRet (dFrz (dCall gAll (daCons (dLc [1] (iRng1 (dCallN fn_wires_of (daCons (dVar 0) daNil))) (gN 1) tdYes (dFrz (dOp gEq (dCallF fn_counts_from (ddCons (dFrz (dVar 0)) (ddCons (dFrz (dVar 1)) ddNil))) (dOp gMulT (dLst (ddCons (dFrz (dC (.int 1))) ddNil)) (dCallN fn_wires_of (daCons (dVar 0) daNil)))))) daNil))))
def fn_is_banyan_of : PFn := fnOfD 2 den_is_banyan_of
def den_wrong_in_demands : DSt := (sSeq (sIf (tdNot (dTest (dIsi .tuple (dVar 1)))) (sRet (dFrz (dLst (ddCons (dFrz (dC .none)) ddNil)))) sNext) (sSeq (sPar [2, 3, 4] (dpCons (dCallN fn_wires_of (daCons (dVar 0) daNil)) (dpCons (dUn gNeg (dC (.int 1))) (dpCons (dLst ddNil) dpNil)))) (sSeq (sFor (iEnum0 (ddCons (dFrz (dVar 1)) ddNil)) (gTup0 2 (gCons0 (gN 5) (gCons0 (gN 6) gNil0))) (sSeq (sIf (tdOr (tdNot (dTest (dIsi .tuple (dVar 6)))) (dTest (dOp gNe (dCall gLen (daCons (dVar 6) daNil)) (dC (.int 2))))) (sRet (dFrz (dLst (ddCons (dFrz (dVar 5)) ddNil)))) sNext) (sSeq (sIf (tdOr (tdNot (dTest (dCallN fn_is_whole (daCons (dOp gIx (dVar 6) (dC (.int 0))) (daCons (dOp gAdd (dVar 3) (dC (.int 1))) (daCons (dOp gSub (dVar 2) (dC (.int 1))) daNil)))))) (tdOr (tdNot (dTest (dCallN fn_is_whole (daCons (dOp gIx (dVar 6) (dC (.int 1))) (daCons (dC (.int 0)) (daCons (dOp gSub (dVar 2) (dC (.int 1))) daNil)))))) (dTest (dOp gIn (dOp gIx (dVar 6) (dC (.int 1))) (dVar 4))))) (sRet (dFrz (dLst (ddCons (dFrz (dVar 5)) ddNil)))) sNext) (sSeq (sSet 3 (dOp gIx (dVar 6) (dC (.int 0)))) (sApp 4 (dFrz (dOp gIx (dVar 6) (dC (.int 1))))))))) (sRet (dFrz (dLst ddNil))))))
def fn_wrong_in_demands : PFn := fnOfD 7 den_wrong_in_demands
def den_ways_table : DSt := (sSeq (sSet 1 dNewT) (sSeq (sFor (iRng3 (dC (.int 0)) (dCallN fn_wires_of (daCons (dVar 0) daNil)) (dC (.int 2))) (gN 2) (sSeq (sSet 3 (dLst (ddCons (dFrz (dTup (ddCons (dFrz (dVar 2)) ddNil))) (ddCons (dFrz (dTup (ddCons (dFrz (dOp gAdd (dVar 2) (dC (.int 1)))) ddNil))) ddNil)))) (sSeq (sFor (iRng1 (dCall gLen (daCons (dOp gIx (dVar 0) (dC (.int 1))) daNil))) (gN 4) (sSet 3 (dLc2 [5, 6] [6] (iSeq (dFrz (dVar 3))) (gN 5) tdYes (iSeq (dFrz (dCallF fn_next_wires (ddCons (dFrz (dVar 0)) (ddCons (dFrz (dVar 4)) (ddCons (dFrz (dOp gIx (dVar 5) (dUn gNeg (dC (.int 1))))) ddNil)))))) (gN 6) tdYes (dFrz (dTup (ddStar (dFrz (dVar 5)) (ddCons (dFrz (dVar 6)) ddNil))))))) (sFor (iSeq (dFrz (dVar 3))) (gN 5) (sSeq (sPutT 1 (dTup (ddCons (dFrz (dVar 2)) (ddCons (dFrz (dOp gIx (dVar 5) (dUn gNeg (dC (.int 1))))) ddNil))) (dFrz (dVar 5))) (sPutT 1 (dTup (ddCons (dFrz (dOp gAdd (dVar 2) (dC (.int 1)))) (ddCons (dFrz (dOp gIx (dVar 5) (dUn gNeg (dC (.int 1))))) ddNil))) (dFrz (dVar 5)))))))) (sRet (dFrz (dVar 1)))))
def fn_ways_table : PFn := fnOfD 7 den_ways_table
def den_is_apart : DSt := (sRet (dFrz (dNot (dCall gAny (daCons (dLc2 [2, 3, 4] [3, 4] (iSeq (dFrz (dVar 1))) (gN 2) tdYes (iEnum0 (ddCons (dFrz (dVar 0)) ddNil)) (gTup0 2 (gCons0 (gN 3) (gCons0 (gN 4) gNil0))) tdYes (dFrz (dOp gEq (dVar 4) (dOp gIx (dVar 2) (dVar 3))))) daNil)))))
def fn_is_apart : PFn := fnOfD 5 den_is_apart
def den_do_keep_apart : DSt := (sRet (dFrz (dCall gAll (daCons (dLc [1, 2] (iEnum0 (ddCons (dFrz (dVar 0)) ddNil)) (gTup0 2 (gCons0 (gN 1) (gCons0 (gN 2) gNil0))) tdYes (dFrz (dCallN fn_is_apart (daCons (dVar 2) (daCons (dSl (dVar 0) dNo (dPart (dVar 1))) daNil))))) daNil))))
def fn_do_keep_apart : PFn := fnOfD 3 den_do_keep_apart
def den_is_like : DSt := (sSeq (sExpr (dCallF fn_need_net (ddCons (dFrz (dVar 0)) ddNil))) (sRet (dFrz (dAnd (dCallN fn_is_banyan_of (daCons (dVar 0) daNil)) (dOp gEq (dOp gIx (dVar 0) (dC (.int 0))) (dOp gIx (dVar 1) (dC (.int 0))))))))
def fn_is_like : PFn := fnOfD 2 den_is_like
def den_need_menu : DSt := (sSeq (sIf (tdOr (tdNot (dTest (dIsi .tuple (dVar 0)))) (tdNot (dTest (dChain gLe gLe (dC (.int 1)) (dCall gLen (daCons (dVar 0) daNil)) (dC (.int 8)))))) sBad sNext) (sFor (iEnum0 (ddCons (dFrz (dVar 0)) ddNil)) (gTup0 2 (gCons0 (gN 1) (gCons0 (gN 2) gNil0))) (sIf (tdNot (dTest (dCallF fn_is_like (ddCons (dFrz (dVar 2)) (ddCons (dFrz (dIf (dTest (dOp gEq (dVar 1) (dC (.int 0)))) (dVar 2) (dOp gIx (dVar 0) (dC (.int 0))))) ddNil))))) sBad sNext)))
def fn_need_menu : PFn := fnOfD 3 den_need_menu
def den_need_log : DSt := (sSeq (sIf (tdOr (tdNot (dTest (dIsi .tuple (dVar 1)))) (dTest (dOp gGt (dCall gLen (daCons (dVar 1) daNil)) (dC (.int 30))))) sBad sNext) (sFor (iEnum0 (ddCons (dFrz (dVar 1)) ddNil)) (gTup0 2 (gCons0 (gN 2) (gCons0 (gN 3) gNil0))) (sSeq (sIf (tdOr (tdNot (dTest (dIsi .tuple (dVar 3)))) (tdOr (dTest (dOp gNe (dCall gLen (daCons (dVar 3) daNil)) (dC (.int 2)))) (tdNot (dTest (dIsi .bool (dOp gIx (dVar 3) (dC (.int 1)))))))) sBad sNext) (sIf (dTest (dOp gNe (dCallF fn_wrong_in_demands (ddCons (dFrz (dOp gIx (dVar 0) (dC (.int 0)))) (ddCons (dFrz (dOp gIx (dVar 3) (dC (.int 0)))) ddNil))) (dLst ddNil))) sBad sNext))))
def fn_need_log : PFn := fnOfD 4 den_need_log
def den_does_pass_by : DSt := (sRet (dFrz (dCallN fn_do_keep_apart (daCons (dLc [2] (iSeq (dFrz (dVar 1))) (gN 2) tdYes (dFrz (dOp gDGet (dVar 0) (dVar 2)))) daNil))))
def fn_does_pass_by : PFn := fnOfD 3 den_does_pass_by
def den_fitting_in : DSt := (sSeq (sSet 2 (dLst ddNil)) (sSeq (sFor (iEnum0 (ddCons (dFrz (dVar 0)) ddNil)) (gTup0 2 (gCons0 (gN 3) (gCons0 (gN 4) gNil0))) (sSeq (sSet 5 (dCallF fn_ways_table (ddCons (dFrz (dVar 4)) ddNil))) (sIf (dTest (dCall gAll (daCons (dLc [6, 7] (iSeq (dFrz (dVar 1))) (gTup0 2 (gCons0 (gN 6) (gCons0 (gN 7) gNil0))) tdYes (dFrz (dOp gEq (dCallF fn_does_pass_by (ddCons (dFrz (dVar 5)) (ddCons (dFrz (dVar 6)) ddNil))) (dVar 7)))) daNil))) (sApp 2 (dFrz (dVar 3))) sNext))) (sRet (dFrz (dVar 2)))))
def fn_fitting_in : PFn := fnOfD 8 den_fitting_in
def den_fitting_nets : DSt := (sSeq (sExpr (dCallF fn_need_menu (ddCons (dFrz (dVar 0)) ddNil))) (sSeq (sExpr (dCallF fn_need_log (ddCons (dFrz (dVar 0)) (ddCons (dFrz (dVar 1)) ddNil)))) (sRet (dFrz (dCall gTuple (daCons (dCallF fn_fitting_in (ddCons (dFrz (dVar 0)) (ddCons (dFrz (dVar 1)) ddNil))) daNil))))))
def fn_fitting_nets : PFn := fnOfD 2 den_fitting_nets
def den_first_false : DSt := (sSeq (sExpr (dCallF fn_need_menu (ddCons (dFrz (dVar 0)) ddNil))) (sSeq (sExpr (dCallF fn_need_log (ddCons (dFrz (dVar 0)) (ddCons (dFrz (dVar 1)) ddNil)))) (sSeq (sFor (iRng1 (dCall gLen (daCons (dVar 1) daNil))) (gN 2) (sIf (dTest (dOp gEq (dCallF fn_fitting_in (ddCons (dFrz (dVar 0)) (ddCons (dFrz (dSl (dVar 1) dNo (dPart (dOp gAdd (dVar 2) (dC (.int 1)))))) ddNil))) (dLst ddNil))) (sRet (dFrz (dVar 2))) sNext)) (sRet (dFrz (dC .none))))))
def fn_first_false : PFn := fnOfD 3 den_first_false
def den_q_mixed : DSt := (sSeq (sSet 2 (dOp gAdd (dOp gAdd (dOp gMod (dCall gInt (daCons (dOp gMulT (dOp gMulT (dVar 0) (dOp gAdd (dC (.int 1)) (dOp gMulT (dC (.int 2)) (dVar 1)))) (dC (.int 48271))) daNil)) (dC (.int 2147483647))) (dOp gMulT (dOp gMulT (dC (.int 7919)) (dVar 1)) (dVar 1))) (dOp gMulT (dC (.int 104729)) (dVar 1)))) (sRet (dFrz (dOp gDiv (dOp gMod (dCall gInt (daCons (dOp gMulT (dVar 2) (dC (.int 69621))) daNil)) (dC (.int 2147483629))) (dC (.int 7))))))
def fn_q_mixed : PFn := fnOfD 3 den_q_mixed
def den_q_folded : DSt := (sSeq (sSet 1 (dLc [2] (iRng1 (dC (.int 64))) (gN 2) tdYes (dFrz (dOp gAdd (dC (.int 17)) (dVar 2))))) (sSeq (sFor (iEnumS (ddCons (dFrz (dVar 0)) ddNil)) (gTup0 2 (gCons0 (gN 2) (gCons0 (gN 3) gNil0))) (sSetI 1 (dOp gMod (dCall gInt (daCons (dVar 2) daNil)) (dC (.int 64))) (dFrz (dOp gMod (dCall gInt (daCons (dOp gAdd (dOp gMulT (dOp gIx (dVar 1) (dOp gMod (dCall gInt (daCons (dVar 2) daNil)) (dC (.int 64)))) (dC (.int 48271))) (dVar 3)) daNil)) (dC (.int 2147483647)))))) (sSeq (sFor (iRng2 (dC (.int 1)) (dC (.int 64))) (gN 2) (sSetI 1 (dVar 2) (dFrz (dOp gMod (dCall gInt (daCons (dOp gAdd (dOp gIx (dVar 1) (dVar 2)) (dOp gMulT (dOp gIx (dVar 1) (dOp gSub (dVar 2) (dC (.int 1)))) (dC (.int 16807)))) daNil)) (dC (.int 2147483647)))))) (sRet (dFrz (dVar 1))))))
def fn_q_folded : PFn := fnOfD 4 den_q_folded
abbrev fn_q_draw : MFn := drawFn
def ff_begun : DD := (dFrz (dCallF fn_q_folded (ddCons (dFrz (dVar 0)) ddNil)))
def fc_begun : DE := (dLc [2] (iSeqS (dFrz (dVar 0))) (gN 2) tdYes (dFrz (dIf (dTest (dOp gGe (dVar 2) (dOp gPow (dC (.int 10)) (dC (.int 18))))) (dVar 2) (dC (.int 0)))))
def fn_q_begun : List PyData → Option DS := begunD ff_begun fc_begun 3
def den_q_like : DSt := (sRet (dFrz (dOp gEq (dCall gRepr (daCons (dVar 0) daNil)) (dCall gRepr (daCons (dVar 1) daNil)))))
def fn_q_like : PFn := fnOfD 2 den_q_like
def den_q_of : DSt := (sRet (dFrz (dOp gIx (dVar 1) (dCallM drawFn 0 (ddCons (dFrz (dCall gLen (daCons (dVar 1) daNil))) ddNil)))))
def fn_q_of : MFn := fnOfM 2 den_q_of
def den_q_order : DSt := (sSeq (sSet 2 (dLst ddNil)) (sSeq (sFor (iRng1 (dVar 1)) (gN 3) (sSeq (sSet 4 (dCallM drawFn 0 (ddCons (dFrz (dOp gAdd (dVar 3) (dC (.int 1)))) ddNil))) (sSet 2 (dOp gAdd (dOp gAdd (dSl (dVar 2) dNo (dPart (dVar 4))) (dLst (ddCons (dFrz (dVar 3)) ddNil))) (dSl (dVar 2) (dPart (dVar 4)) dNo))))) (sRet (dFrz (dCall gTuple (daCons (dVar 2) daNil))))))
def fn_q_order : MFn := fnOfM 5 den_q_order
def den_q_halving : DSt := (sSeq (sSet 1 (dLst ddNil)) (sSeq (sFor (iRng1 (dOp gSub (dVar 0) (dC (.int 1)))) (gN 2) (sSeq (sSet 3 (dOp gShl (dC (.int 1)) (dOp gSub (dOp gSub (dVar 0) (dC (.int 1))) (dVar 2)))) (sSeq (sSet 4 (dLst ddNil)) (sSeq (sFor (iRng1 (dOp gShl (dC (.int 1)) (dVar 0))) (gN 5) (sSeq (sPar [6, 7] (dpCons (dOp gDiv (dOp gDiv (dVar 5) (dC (.int 2))) (dVar 3)) (dpCons (dOp gMod (dCall gInt (daCons (dOp gDiv (dVar 5) (dC (.int 2))) daNil)) (dVar 3)) dpNil))) (sApp 4 (dFrz (dOp gAdd (dOp gMulT (dOp gAdd (dOp gMulT (dC (.int 2)) (dVar 6)) (dOp gMod (dCall gInt (daCons (dVar 5) daNil)) (dC (.int 2)))) (dVar 3)) (dVar 7)))))) (sApp 1 (dFrz (dCall gTuple (daCons (dVar 4) daNil)))))))) (sRet (dFrz (dTup (ddCons (dFrz (dVar 0)) (ddCons (dFrz (dCall gTuple (daCons (dVar 1) daNil))) ddNil)))))))
def fn_q_halving : PFn := fnOfD 8 den_q_halving
def den_q_banyan : DSt := (sSeq (sAsg (dFrz (dTup (ddCons (dFrz (dCallF fn_q_halving (ddCons (dFrz (dVar 1)) ddNil))) (ddCons (dFrz (dOp gShl (dC (.int 1)) (dOp gSub (dVar 1) (dC (.int 1))))) ddNil)))) (gTup0 2 (gCons0 (gN 5) (gCons0 (gN 6) gNil0)))) (sSeq (sSet 2 (dLc [4] (iRng1 (dVar 1)) (gN 4) tdYes (dFrz (dCallM fn_q_order 0 (ddCons (dFrz (dVar 6)) ddNil))))) (sSeq (sSet 3 (dLst ddNil)) (sSeq (sFor (iRng1 (dOp gSub (dVar 1) (dC (.int 1)))) (gN 4) (sSeq (sPar [8, 9] (dpCons (dLc [15] (iRng1 (dVar 6)) (gN 15) tdYes (dFrz (dCallM drawFn 0 (ddCons (dFrz (dC (.int 2))) ddNil)))) (dpCons (dLc [15] (iRng1 (dVar 6)) (gN 15) tdYes (dFrz (dCallM drawFn 0 (ddCons (dFrz (dC (.int 2))) ddNil)))) dpNil))) (sSeq (sSet 7 dNewK) (sSeq (sFor (iEnum0 (ddCons (dFrz (dOp gIx (dOp gIx (dVar 5) (dC (.int 1))) (dVar 4))) ddNil)) (gTup0 2 (gCons0 (gN 10) (gCons0 (gN 11) gNil0))) (sSeq (sPar [13, 14] (dpCons (dOp gDiv (dVar 10) (dC (.int 2))) (dpCons (dOp gDiv (dVar 11) (dC (.int 2))) dpNil))) (sSeq (sSet 12 (dOp gAdd (dOp gMulT (dC (.int 2)) (dOp gIx (dOp gIx (dVar 2) (dVar 4)) (dVar 13))) (dOp gMod (dOp gAdd (dCall gInt (daCons (dVar 10) daNil)) (dOp gIx (dVar 8) (dVar 13))) (dC (.int 2))))) (sPutK 7 (dVar 12) (dFrz (dOp gAdd (dOp gMulT (dC (.int 2)) (dOp gIx (dOp gIx (dVar 2) (dOp gAdd (dVar 4) (dC (.int 1)))) (dVar 14))) (dOp gMod (dOp gAdd (dCall gInt (daCons (dVar 11) daNil)) (dOp gIx (dVar 9) (dVar 14))) (dC (.int 2))))))))) (sApp 3 (dFrz (dCall gTuple (daCons (dLc [10] (iRng1 (dOp gMulT (dC (.int 2)) (dVar 6))) (gN 10) tdYes (dFrz (dGetK 7 (dVar 10)))) daNil)))))))) (sRet (dFrz (dTup (ddCons (dFrz (dVar 1)) (ddCons (dFrz (dCall gTuple (daCons (dVar 3) daNil))) ddNil)))))))))
def fn_q_banyan : MFn := fnOfM 16 den_q_banyan
def den_q_ringed : DSt := (sSeq (sSet 0 (dTup (ddCons (dFrz (dC (.int 0))) (ddCons (dFrz (dC (.int 2))) (ddCons (dFrz (dC (.int 3))) (ddCons (dFrz (dC (.int 4))) (ddCons (dFrz (dC (.int 5))) (ddCons (dFrz (dC (.int 6))) (ddCons (dFrz (dC (.int 7))) (ddCons (dFrz (dC (.int 1))) ddNil)))))))))) (sSeq (sSet 1 (dTup (ddCons (dFrz (dC (.int 0))) (ddCons (dFrz (dC (.int 2))) (ddCons (dFrz (dC (.int 4))) (ddCons (dFrz (dC (.int 6))) (ddCons (dFrz (dC (.int 1))) (ddCons (dFrz (dC (.int 3))) (ddCons (dFrz (dC (.int 5))) (ddCons (dFrz (dC (.int 7))) ddNil)))))))))) (sRet (dFrz (dTup (ddCons (dFrz (dC (.int 3))) (ddCons (dFrz (dTup (ddCons (dFrz (dVar 0)) (ddCons (dFrz (dVar 1)) ddNil)))) ddNil)))))))
def fn_q_ringed : PFn := fnOfD 2 den_q_ringed
def den_q_ways : DSt := (sSeq (sSet 2 (dOp gMulT (dC (.int 2)) (dOp gDiv (dVar 1) (dC (.int 2))))) (sSeq (sSet 3 (dLst (ddCons (dFrz (dTup (ddCons (dFrz (dVar 2)) ddNil))) (ddCons (dFrz (dTup (ddCons (dFrz (dOp gAdd (dVar 2) (dC (.int 1)))) ddNil))) ddNil)))) (sSeq (sFor (iSeq (dFrz (dOp gIx (dVar 0) (dC (.int 1))))) (gN 4) (sSeq (sSet 5 (dLst ddNil)) (sSeq (sFor (iSeq (dFrz (dVar 3))) (gN 6) (sSeq (sSet 7 (dOp gMulT (dC (.int 2)) (dOp gDiv (dOp gIx (dVar 4) (dOp gIx (dVar 6) (dUn gNeg (dC (.int 1))))) (dC (.int 2))))) (sSet 5 (dOp gAdd (dVar 5) (dLst (ddCons (dFrz (dOp gAdd (dVar 6) (dTup (ddCons (dFrz (dVar 7)) ddNil)))) (ddCons (dFrz (dOp gAdd (dVar 6) (dTup (ddCons (dFrz (dOp gAdd (dVar 7) (dC (.int 1)))) ddNil)))) ddNil))))))) (sSet 3 (dVar 5))))) (sRet (dFrz (dCall gSorted (daCons (dVar 3) daNil)))))))
def fn_q_ways : PFn := fnOfD 8 den_q_ways
def den_q_apart : DSt := (sRet (dFrz (dOp gEq (dLc [2] (iSeq (dFrz (dVar 1))) (gN 2) (dTest (dOp gNe (dLc [3, 4] (iZip0 (ddCons (dFrz (dVar 0)) (ddCons (dFrz (dVar 2)) ddNil))) (gTup0 2 (gCons0 (gN 3) (gCons0 (gN 4) gNil0))) (dTest (dOp gEq (dVar 3) (dVar 4))) (dFrz (dC (.int 1)))) (dLst ddNil))) (dFrz (dC (.int 1)))) (dLst ddNil))))
def fn_q_apart : PFn := fnOfD 5 den_q_apart
def den_q_demands : DSt := (sSeq (sPar [4, 5] (dpCons dNewK (dpCons dNewK dpNil))) (sSeq (sFor (iRng1 (dVar 2)) (gN 3) (sSeq (sPar [6, 7] (dpCons (dCallM drawFn 0 (ddCons (dFrz (dOp gShl (dC (.int 1)) (dOp gIx (dVar 1) (dC (.int 0))))) ddNil)) (dpCons (dCallM drawFn 0 (ddCons (dFrz (dOp gShl (dC (.int 1)) (dOp gIx (dVar 1) (dC (.int 0))))) ddNil)) dpNil))) (sIf (tdAnd (dTest (dInK true 4 (dVar 6))) (dTest (dInK true 5 (dVar 7)))) (sSeq (sPutK 4 (dVar 6) (dFrz (dVar 7))) (sPutK 5 (dVar 7) (dFrz (dVar 6)))) sNext))) (sRet (dFrz (dCall gTuple (daCons (dCall gSorted (daCons (dItemsK 4) daNil)) daNil))))))
def fn_q_demands : MFn := fnOfM 8 den_q_demands
def den_q_passes : DSt := (sSeq (sSet 2 (dLst ddNil)) (sSeq (sFor (iSeq (dFrz (dVar 1))) (gTup0 2 (gCons0 (gN 3) (gCons0 (gN 4) gNil0))) (sSeq (sSet 5 (dOp gIx (dLc [6] (iSeq (dFrz (dCallF fn_q_ways (ddCons (dFrz (dVar 0)) (ddCons (dFrz (dVar 3)) ddNil))))) (gN 6) (dTest (dOp gEq (dOp gIx (dVar 6) (dUn gNeg (dC (.int 1)))) (dVar 4))) (dFrz (dVar 6))) (dC (.int 0)))) (sSeq (sIf (tdNot (dTest (dCallN fn_q_apart (daCons (dVar 5) (daCons (dVar 2) daNil))))) (sRet (dFrz (dC (.bool false)))) sNext) (sApp 2 (dFrz (dVar 5)))))) (sRet (dFrz (dC (.bool true))))))
def fn_q_passes : PFn := fnOfD 7 den_q_passes
def den_q_going : DSt := (sSeq (sSet 2 (dTup ddNil)) (sSeq (sFor (iEnum0 (ddCons (dFrz (dVar 0)) ddNil)) (gTup0 2 (gCons0 (gN 3) (gCons0 (gN 4) gNil0))) (sSeq (sSet 5 (dLc [6, 7] (iSeq (dFrz (dVar 1))) (gTup0 2 (gCons0 (gN 6) (gCons0 (gN 7) gNil0))) (dTest (dOp gNe (dCallF fn_q_passes (ddCons (dFrz (dVar 4)) (ddCons (dFrz (dVar 6)) ddNil))) (dVar 7))) (dFrz (dC (.int 1))))) (sSet 2 (dOp gAdd (dVar 2) (dIf (dTest (dOp gEq (dVar 5) (dLst ddNil))) (dTup (ddCons (dFrz (dVar 3)) ddNil)) (dTup ddNil)))))) (sRet (dFrz (dVar 2)))))
def fn_q_going : PFn := fnOfD 8 den_q_going
def den_law : DSt := (sSeq (sFor (iRng1 (dOp gAdd (dC (.int 3)) (dCall gMin2 (daCons (dC (.int 5)) (daCons (dUn gLenS (dVar 0)) daNil))))) (gN 2) (sSeq (sSet 6 (dOp gAdd (dC (.int 1)) (dCallM drawFn 1 (ddCons (dFrz (dC (.int 3))) ddNil)))) (sSeq (sSet 7 (dCall gTuple (daCons (dLc [8] (iRng1 (dOp gAdd (dC (.int 1)) (dCallM drawFn 1 (ddCons (dFrz (dC (.int 5))) ddNil)))) (gN 8) tdYes (dFrz (dCallM fn_q_banyan 1 (ddCons (dFrz (dVar 6)) ddNil)))) daNil))) (sSeq (sIf (tdAnd (dTest (dOp gEq (dVar 6) (dC (.int 3)))) (dTest (dOp gEq (dCallM drawFn 1 (ddCons (dFrz (dC (.int 2))) ddNil)) (dC (.int 0))))) (sSet 7 (dOp gAdd (dVar 7) (dTup (ddCons (dFrz (dCallF0 fn_q_ringed)) ddNil)))) sNext) (sSeq (sPar [15, 4, 16] (dpCons (dCallM fn_q_of 1 (ddCons (dFrz (dCall gList (daCons (dVar 7) daNil))) ddNil)) (dpCons (dTup ddNil) (dpCons (dC .none) dpNil)))) (sSeq (sFor (iRng1 (dCallM drawFn 1 (ddCons (dFrz (dC (.int 9))) ddNil))) (gN 8) (sSeq (sSet 17 (dCallM fn_q_demands 1 (ddCons (dFrz (dVar 15)) (ddCons (dFrz (dOp gAdd (dC (.int 1)) (dCallM drawFn 1 (ddCons (dFrz (dC (.int 4))) ddNil)))) ddNil)))) (sSeq (sSet 18 (dCallF fn_q_passes (ddCons (dFrz (dVar 15)) (ddCons (dFrz (dVar 17)) ddNil)))) (sSet 4 (dOp gAdd (dVar 4) (dTup (ddCons (dFrz (dTup (ddCons (dFrz (dVar 17)) (ddCons (dFrz (dIf (dTest (dOp gGt (dCallM drawFn 1 (ddCons (dFrz (dC (.int 8))) ddNil)) (dC (.int 0)))) (dVar 18) (dNot (dVar 18)))) ddNil)))) ddNil))))))) (sSeq (sSet 9 (dCall gRepr (daCons (dLst (ddCons (dFrz (dVar 7)) (ddCons (dFrz (dVar 4)) ddNil))) daNil))) (sSeq (sFor (iRng1 (dCall gLen (daCons (dVar 4) daNil))) (gN 8) (sIf (tdAnd (dTest (dOp gIs (dVar 16) (dC .none))) (dTest (dOp gEq (dCallF fn_q_going (ddCons (dFrz (dVar 7)) (ddCons (dFrz (dSl (dVar 4) dNo (dPart (dOp gAdd (dVar 8) (dC (.int 1)))))) ddNil))) (dTup ddNil)))) (sSet 16 (dVar 8)) sNext)) (sSeq (sSet 10 (dLst (ddCons (dFrz (dCallF fn_q_going (ddCons (dFrz (dVar 7)) (ddCons (dFrz (dVar 4)) ddNil)))) (ddCons (dFrz (dVar 16)) ddNil)))) (sSeq (sSet 3 (dLst (ddCons (dFrz (dCallF fn_fitting_nets (ddCons (dFrz (dVar 7)) (ddCons (dFrz (dVar 4)) ddNil)))) (ddCons (dFrz (dCallF fn_first_false (ddCons (dFrz (dVar 7)) (ddCons (dFrz (dVar 4)) ddNil)))) ddNil)))) (sSeq (sSet 3 (dOp gAdd (dVar 3) (dLst (ddCons (dFrz (dCallF fn_fitting_nets (ddCons (dFrz (dVar 7)) (ddCons (dFrz (dVar 4)) ddNil)))) (ddCons (dFrz (dCallF fn_first_false (ddCons (dFrz (dVar 7)) (ddCons (dFrz (dVar 4)) ddNil)))) ddNil))))) (sIf (tdOr (tdNot (dTest (dCallF fn_q_like (ddCons (dFrz (dVar 3)) (ddCons (dFrz (dOp gMulT (dVar 10) (dC (.int 2)))) ddNil))))) (dTest (dOp gNe (dCall gRepr (daCons (dLst (ddCons (dFrz (dVar 7)) (ddCons (dFrz (dVar 4)) ddNil))) daNil)) (dVar 9)))) (sRet (dFrz (dC (.bool false)))) sNext)))))))))))) (sSeq (sPar [11, 12] (dpCons (dCallF fn_q_halving (ddCons (dFrz (dC (.int 4))) ddNil)) (dpCons (dTup (ddCons (dFrz (dTup (ddCons (dFrz (dC (.int 2))) (ddCons (dFrz (dTup (ddCons (dFrz (dTup (ddCons (dFrz (dC (.int 0))) (ddCons (dFrz (dC (.int 2))) (ddCons (dFrz (dC (.int 1))) (ddCons (dFrz (dC (.int 3))) ddNil)))))) ddNil))) ddNil)))) (ddCons (dFrz (dTup (ddCons (dFrz (dC (.int 2))) (ddCons (dFrz (dTup (ddCons (dFrz (dTup (ddCons (dFrz (dC (.int 2))) (ddCons (dFrz (dC (.int 0))) (ddCons (dFrz (dC (.int 1))) (ddCons (dFrz (dC (.int 3))) ddNil)))))) ddNil))) ddNil)))) ddNil))) dpNil))) (sSeq (sSet 3 (dLst (ddCons (dFrz (dCallF fn_fitting_nets (ddCons (dFrz (dVar 12)) (ddCons (dFrz (dTup (ddCons (dFrz (dTup (ddCons (dFrz (dTup ddNil)) (ddCons (dFrz (dC (.bool true))) ddNil)))) ddNil))) ddNil)))) (ddCons (dFrz (dCallF fn_fitting_nets (ddCons (dFrz (dVar 12)) (ddCons (dFrz (dTup (ddCons (dFrz (dTup (ddCons (dFrz (dTup ddNil)) (ddCons (dFrz (dC (.bool false))) ddNil)))) ddNil))) ddNil)))) ddNil)))) (sSeq (sSet 3 (dOp gAdd (dVar 3) (dLst (ddCons (dFrz (dCallF fn_first_false (ddCons (dFrz (dVar 12)) (ddCons (dFrz (dTup (ddCons (dFrz (dTup (ddCons (dFrz (dTup ddNil)) (ddCons (dFrz (dC (.bool true))) ddNil)))) (ddCons (dFrz (dTup (ddCons (dFrz (dTup ddNil)) (ddCons (dFrz (dC (.bool false))) ddNil)))) (ddCons (dFrz (dTup (ddCons (dFrz (dTup ddNil)) (ddCons (dFrz (dC (.bool true))) ddNil)))) ddNil))))) ddNil)))) (ddCons (dFrz (dCallF fn_first_false (ddCons (dFrz (dVar 12)) (ddCons (dFrz (dTup ddNil)) ddNil)))) ddNil))))) (sSeq (sIf (tdNot (dTest (dCallF fn_q_like (ddCons (dFrz (dVar 3)) (ddCons (dFrz (dLst (ddCons (dFrz (dTup (ddCons (dFrz (dC (.int 0))) (ddCons (dFrz (dC (.int 1))) ddNil)))) (ddCons (dFrz (dTup ddNil)) (ddCons (dFrz (dC (.int 1))) (ddCons (dFrz (dC .none)) ddNil)))))) ddNil))))) (sRet (dFrz (dC (.bool false)))) sNext) (sSeq (sSet 4 (dTup (ddCons (dFrz (dTup (ddCons (dFrz (dTup (ddCons (dFrz (dTup (ddCons (dFrz (dC (.int 8))) (ddCons (dFrz (dC (.int 0))) ddNil)))) (ddCons (dFrz (dTup (ddCons (dFrz (dC (.int 9))) (ddCons (dFrz (dC (.int 1))) ddNil)))) ddNil)))) (ddCons (dFrz (dC (.bool false))) ddNil)))) (ddCons (dFrz (dTup (ddCons (dFrz (dTup (ddCons (dFrz (dTup (ddCons (dFrz (dC (.int 8))) (ddCons (dFrz (dC (.int 0))) ddNil)))) (ddCons (dFrz (dTup (ddCons (dFrz (dC (.int 9))) (ddCons (dFrz (dC (.int 15))) ddNil)))) ddNil)))) (ddCons (dFrz (dC (.bool true))) ddNil)))) ddNil)))) (sSeq (sIf (tdNot (dTest (dCallF fn_q_like (ddCons (dFrz (dLst (ddCons (dFrz (dCallF fn_fitting_nets (ddCons (dFrz (dTup (ddCons (dFrz (dVar 11)) ddNil))) (ddCons (dFrz (dVar 4)) ddNil)))) (ddCons (dFrz (dCallF fn_first_false (ddCons (dFrz (dTup (ddCons (dFrz (dVar 11)) ddNil))) (ddCons (dFrz (dVar 4)) ddNil)))) ddNil)))) (ddCons (dFrz (dLst (ddCons (dFrz (dTup (ddCons (dFrz (dC (.int 0))) ddNil))) (ddCons (dFrz (dC .none)) ddNil)))) ddNil))))) (sRet (dFrz (dC (.bool false)))) sNext) (sSeq (sPar [13, 14] (dpCons (dCallF fn_q_halving (ddCons (dFrz (dC (.int 2))) ddNil)) (dpCons (dTup (ddCons (dFrz (dC (.int 2))) (ddCons (dFrz (dTup (ddCons (dFrz (dTup (ddCons (dFrz (dC (.int 0))) (ddCons (dFrz (dC (.int 2))) (ddCons (dFrz (dC (.int 3))) (ddCons (dFrz (dC (.int 1))) ddNil)))))) ddNil))) ddNil))) dpNil))) (sSeq (sSet 5 (dTup (ddCons (dFrz (dC (.int 2))) (ddCons (dFrz (dTup (ddCons (dFrz (dTup (ddCons (dFrz (dC (.int 2))) (ddCons (dFrz (dC (.int 0))) (ddCons (dFrz (dC (.int 1))) (ddCons (dFrz (dC (.int 3))) ddNil)))))) ddNil))) ddNil)))) (sSeq (sSet 4 (dOp gMulT (dTup (ddCons (dFrz (dTup (ddCons (dFrz (dTup (ddCons (dFrz (dTup (ddCons (dFrz (dC (.int 0))) (ddCons (dFrz (dC (.int 0))) ddNil)))) (ddCons (dFrz (dTup (ddCons (dFrz (dC (.int 1))) (ddCons (dFrz (dC (.int 1))) ddNil)))) ddNil)))) (ddCons (dFrz (dC (.bool false))) ddNil)))) (ddCons (dFrz (dTup (ddCons (dFrz (dTup (ddCons (dFrz (dTup (ddCons (dFrz (dC (.int 0))) (ddCons (dFrz (dC (.int 0))) ddNil)))) (ddCons (dFrz (dTup (ddCons (dFrz (dC (.int 2))) (ddCons (dFrz (dC (.int 1))) ddNil)))) ddNil)))) (ddCons (dFrz (dC (.bool true))) ddNil)))) ddNil))) (dC (.int 15)))) (sSeq (sSet 3 (dLst (ddCons (dFrz (dCallF fn_fitting_nets (ddCons (dFrz (dOp gAdd (dOp gMulT (dTup (ddCons (dFrz (dVar 13)) (ddCons (dFrz (dVar 14)) (ddCons (dFrz (dVar 5)) ddNil)))) (dC (.int 2))) (dOp gMulT (dTup (ddCons (dFrz (dVar 13)) ddNil)) (dC (.int 2))))) (ddCons (dFrz (dVar 4)) ddNil)))) (ddCons (dFrz (dCallF fn_first_false (ddCons (dFrz (dTup (ddCons (dFrz (dVar 13)) ddNil))) (ddCons (dFrz (dVar 4)) ddNil)))) ddNil)))) (sSeq (sApp 3 (dFrz (dCallF fn_first_false (ddCons (dFrz (dTup (ddCons (dFrz (dVar 13)) (ddCons (dFrz (dVar 5)) ddNil)))) (ddCons (dFrz (dTup (ddCons (dFrz (dTup (ddCons (dFrz (dTup (ddCons (dFrz (dTup (ddCons (dFrz (dC (.int 0))) (ddCons (dFrz (dC (.int 0))) ddNil)))) (ddCons (dFrz (dTup (ddCons (dFrz (dC (.int 1))) (ddCons (dFrz (dC (.int 1))) ddNil)))) ddNil)))) (ddCons (dFrz (dC (.bool true))) ddNil)))) ddNil))) ddNil))))) (sRet (dFrz (dCallF fn_q_like (ddCons (dFrz (dVar 3)) (ddCons (dFrz (dLst (ddCons (dFrz (dTup (ddCons (dFrz (dC (.int 0))) (ddCons (dFrz (dC (.int 1))) (ddCons (dFrz (dC (.int 2))) (ddCons (dFrz (dC (.int 3))) (ddCons (dFrz (dC (.int 4))) (ddCons (dFrz (dC (.int 5))) (ddCons (dFrz (dC (.int 6))) (ddCons (dFrz (dC (.int 7))) ddNil)))))))))) (ddCons (dFrz (dC .none)) (ddCons (dFrz (dC (.int 0))) ddNil))))) ddNil)))))))))))))))))
def fn_law : List PyData → Option PyData := lawD fn_q_begun 19 den_law
end G

namespace G
open PySem PySem.Spec PyProof.Rows L2 VL
theorem is_whole_ok (x lo hi : Int) : fn_is_whole [.int x, .int lo, .int hi] = .ok (.bool (decide (lo ≤ x) && decide (x ≤ hi))) := by
  by_cases h : lo ≤ x <;> simp [fn_is_whole, fnOfD, den_is_whole, h]
theorem wires_ok (b : Nat) (d : PyData) (h : b ≤ 1000) : fn_wires_of [.tuple [.int b, d]] = .ok (.int (2 ^ b)) := by
  have e : (b : Int) ≤ 1000 := by omega
  simp [fn_wires_of, fnOfD, den_wires_of, atI, ixN, e]
theorem is_order_ok {n : Nat} {o : List Nat} (h : IsP n o) (hn : n ≤ 1000) : fn_is_order [dO o, .int n] = .ok (.bool true) := by
  have e1 : dLc [2] (iSeq (dFrz (dVar 0))) (gN 2) tdYes (dFrz (dCallN fn_is_whole (daCons (dVar 2) (daCons (dC (.int 0)) (daCons (dOp VL.gSub (dVar 1) (dC (.int 1))) daNil))))) ⟨[some (.dat (dO o)), some (.dat (.int n)), none], m0⟩
      = .ok (.tmp ((o.map dN).map fun _ => .bool true)) ⟨[some (.dat (dO o)), some (.dat (.int n)), none], m0⟩ := by
    refine dLc_map (fun _ => .bool true) ⟨[some (.dat (dO o)), some (.dat (.int n)), none], m0⟩ rfl rfl rfl (by rw [List.length_map, h.len]; omega) fun d hd => ?_
    obtain ⟨x, hx, rfl⟩ := List.mem_map.mp hd
    have := h.lt x hx
    refine ⟨_, _, ⟨[some (.dat (dO o)), some (.dat (.int n)), some (.dat (dN x))], m0⟩, rfl, rfl, ?_, rfl⟩
    have e2 : (x : Int) ≤ n - 1 := by omega
    simp [dN, is_whole_ok, e2]
  have e3 : (distinct (o.map fun x : Nat => (x : Int))).length = n := by rw [distinct_self (nodup_cast h.nd), List.length_map, h.len]
  have e4 : ((o.map dN).map fun _ => PyData.bool true) = (o.map fun _ => true).map PyData.bool := by simp [Function.comp_def]
  have e5 : isiD .tuple (dO o) = true := rfl
  have e6 : tyOk (dO o) = true := rfl
  have e7 : gLen [dO o] = some (int_ n) := by rw [← h.len]; simp [dO]
  refine fn_rt (s := ⟨[some (.dat (dO o)), some (.dat (.int n)), none], m0⟩) ?_
  have hl : o.length ≤ 4000 := by rw [h.len]; omega
  have e8 : gLenSet (dO o) = some (int_ n) := by
    unfold dO
    rw [dN_map]
    simp [-List.map_map, gLenSet, intsD_map, hl, e3]
  unfold den_is_order
  simp [-List.map_map, gAll, e1, e4, e5, e6, e7, e8, boolsD_map]
theorem need_net_ok {b : Nat} {os : List (List Nat)} (h : VNet b os) : fn_need_net [dNet b os] = .ok (dNet b os) := by
  obtain ⟨h1, h4, hr, ho⟩ := h
  have w1 : (1 : Int) ≤ b := by omega
  have w2 : (b : Int) ≤ 4 := by omega
  have w3 : ¬ (7 : Int) ≤ os.length := by omega
  have t1 : isiD .tuple (dOs os) = true := rfl
  have t2 : tyOk (dOs os) = true := rfl
  have t3 : gLen [dOs os] = some (int_ os.length) := by simp [dOs]
  obtain ⟨s', e, u, v, rfl⟩ := forD_inv (tgt := gTup0 2 (gCons0 (gN 1) (gCons0 (gN 2) gNil0))) (body := sIf (tdNot (dTest (dCallN fn_is_order (daCons (dVar 2) (daCons (dCallN fn_wires_of (daCons (dVar 0) daNil)) daNil))))) sBad sNext)
    (fun s => ∃ u v, s = ⟨[some (.dat (dNet b os)), u, v], m0⟩) (enumD 0 (os.map dO)) ⟨[some (.dat (dNet b os)), none, none], m0⟩ ⟨_, _, rfl⟩ (fun d hd s hs => by
      obtain ⟨i, x, rfl, hx⟩ := enumD_memO hd
      obtain ⟨o, ho', rfl⟩ := List.mem_map.mp hx
      obtain ⟨u, v, rfl⟩ := hs
      refine ⟨_, ⟨[some (.dat (dNet b os)), some (.dat (.int i)), some (.dat (dO o))], m0⟩, rfl, ?_, _, _, rfl⟩
      have p1 := is_order_ok (ho o ho') (by have : 2 ^ b ≤ 2 ^ 4 := Nat.pow_le_pow_right (by decide) h4; omega)
      have p2 := wires_ok b (dOs os) (by omega)
      rw [show (((2 ^ b : Nat) : Int)) = 2 ^ b by simp] at p1
      simp [dNet, p1, p2])
  refine fn_rt (s := ⟨[some (.dat (dNet b os)), u, v], m0⟩) ?_
  unfold den_need_net
  refine seq_nx (s1 := ⟨[some (.dat (dNet b os)), none, none], m0⟩) (by simp [dNet]) ?_
  refine seq_nx (s1 := ⟨[some (.dat (dNet b os)), none, none], m0⟩) (by simp [dNet, is_whole_ok, w1, w2]) ?_
  refine seq_nx (s1 := ⟨[some (.dat (dNet b os)), none, none], m0⟩) (by simp [dNet, t1, t2, t3, w3]) ?_
  refine seq_nx (for_nx (ds := enumD 0 (os.map dO)) (s1 := ⟨[some (.dat (dNet b os)), none, none], m0⟩) ?_ e) ?_
  · simp [dNet, iEnum0, dOs, starD]
  · simp
theorem next_wires_ok {b k w : Nat} {os : List (List Nat)} (hk : k < os.length) (hw : w < (os.getD k []).length) : fn_next_wires [dNet b os, .int k, .int w] = .ok (.list ((nextW os k w).map dN)) := by
  have a1 : atI (os.map dO) (k : Int) = some (dO (os.getD k [])) := atI_dO rfl hk
  have a2 : gIx (dO (os.getD k [])) (.int (w : Int)) = some (.dat (.int ((os.getD k []).getD w 0 : Nat))) := by
    show (atI ((os.getD k []).map dN) _).map RV.dat = _
    rw [atI_dN rfl hw]
    rfl
  unfold nextW
  generalize (os.getD k []).getD w 0 = p at a2
  generalize os.getD k [] = o at a1 a2
  have e1 : (p : Int) - (p : Int) % 2 = ((fstW p : Nat) : Int) := by unfold fstW; omega
  refine fn_wp ?_
  unfold den_next_wires
  refine wp_step (s1 := ⟨[some (.dat (dNet b os)), some (.dat (.int k)), some (.dat (.int w)), some (.dat (.int p))], m0⟩) (by simp [dNet, dOs, a1, a2]) ?_
  refine wp_ret (we_ok (s1 := ⟨[some (.dat (dNet b os)), some (.dat (.int k)), some (.dat (.int w)), some (.dat (.int p))], m0⟩) ?_ rfl)
  simp [e1, dN]
theorem counts_from_ok {b i : Nat} {os : List (List Nat)} (h : VNet b os) (hi : i < 2 ^ b) : fn_counts_from [dNet b os, .int i] = .ok (.list ((cnts os i (2 ^ b) os.length).map dN)) := by
  have h16 := pow16 h.b4
  have hrows := h.rows
  have h2 := two_half h.b1
  obtain ⟨n, en⟩ : ∃ n, n = 2 ^ b := ⟨_, rfl⟩
  have hW : fn_wires_of [dNet b os] = .ok (.int (n : Nat)) := by
    have := wires_ok b (dOs os) (by have := h.b4; omega)
    unfold dNet
    rw [this, en]
    simp
  rw [← en] at hi h16 h2 ⊢
  have hf1 : fstW i + 1 < n := by unfold fstW; omega
  have ei : (i : Int) - (i : Int) % 2 = ((fstW i : Nat) : Int) := by unfold fstW; omega
  have mul0 : ∀ s : Sx, s.g[0]? = some (some (.dat (dNet b os))) → dOp gMulT (dLst (ddCons (dFrz (dC (.int 0))) ddNil)) (dCallN fn_wires_of (daCons (dVar 0) daNil)) s = .ok (.tmp ((List.replicate n 0).map dN)) s := fun s hs => by
    have := gMulT_lst1 (.int 0) (n := n) (by omega)
    simp [hs, hW, this, flat]
    exact .inr rfl
  refine fn_wp ?_
  unfold den_counts_from
  refine wp_step (s1 := cfS b os i (some (.own ((List.replicate n 0).map dN))) none none none none none) ?_ ?_
  · unfold sSet
    rw [mul0 _ rfl]
    rfl
  refine wp_step (s1 := cfS b os i (some (.own ((cnts os i n 0).map dN))) none none none none none) ?_ ?_
  · rw [cnts_0 os hf1]
    have l1 : ((List.replicate n 0).map dN).length = n := by simp
    have q1 := ixN_nat (n := n) (p := fstW i) (by omega)
    have q2 := ixN_nat (n := n) (p := fstW i + 1) hf1
    have own : ∀ L x3 x4 x5 x6 x7, ownAt (cfS b os i (some (.own L)) x3 x4 x5 x6 x7) 2 = some L := fun _ _ _ _ _ _ => rfl
    have so : ∀ L L' x3 x4 x5 x6 x7, setOwn (cfS b os i (some (.own L)) x3 x4 x5 x6 x7) 2 L' = cfS b os i (some (.own L')) x3 x4 x5 x6 x7 := fun _ _ _ _ _ _ _ => rfl
    have f1 : ∀ L, (dOp gSub (dVar 1) (dOp gMod (dVar 1) (dC (.int 2)))) (cfS b os i (some (.own L)) none none none none none) = .ok (.dat (.int (fstW i : Nat))) (cfS b os i (some (.own L)) none none none none none) := fun L => by simp [cfS, ei]
    have f2 : ∀ L, (dOp gAdd (dOp gSub (dVar 1) (dOp gMod (dVar 1) (dC (.int 2)))) (dC (.int 1))) (cfS b os i (some (.own L)) none none none none none) = .ok (.dat (.int (fstW i + 1 : Nat))) (cfS b os i (some (.own L)) none none none none none) := fun L => by simp [cfS, ei]
    have ai : ∀ (x : Nat) s, asInt (.dat (.int (x : Nat))) s = some (x : Int) := fun _ _ => rfl
    unfold sSetI2
    simp only [dFrz, dC, e_bind_ok, e_frz_dat, e_toS_ok, own, f1, ai, l1, q1, so, f2, VL.putAt, List.length_set, q2]
    congr 1
    rw [List.map_set, List.map_set]
    rfl
  refine wp_seq (wp_for (ds := (List.range os.length).map dN) (s1 := cfS b os i (some (.own ((cnts os i n 0).map dN))) none none none none none)
    (fun k s => ∃ x2 x3 x4 x5 x6 x7, s = cfS b os i x2 x3 x4 x5 x6 x7 ∧ isL x2 ((cnts os i n k).map dN)) (iRng_ok (by simp [cfS, dNet, dOs]) (by omega)) ⟨_, _, _, _, _, _, rfl, .inl rfl⟩ ?_ ?_)
  · rintro k d s hk ⟨x2, x3, x4, x5, x6, x7, rfl, hx2⟩
    obtain ⟨r, hr, rfl⟩ := map_at hk
    obtain ⟨hkl, hkr⟩ := List.getElem?_eq_some_iff.mp hr
    simp at hkl hkr
    subst hkr
    refine ⟨_, rfl, ?_⟩
    have hlt : ∀ x ∈ ends os i k, x < n := by
      have := ends_lt (os := os) (n := n / 2) (i := i) (by rw [en, two_half h.b1]; exact h.ok) (by omega) k (by omega)
      intro x hx
      have := this x hx
      omega
    have ho : IsP n (os.getD k []) := by rw [en]; exact h.ok _ (getD_mem hkl)
    refine wp_step (s1 := cfS b os i x2 (some (.dat (.int k))) (some (.own ((lats os i n k 0).map dN))) x5 x6 x7) ?_ ?_
    · unfold sSet
      rw [mul0 _ rfl, lats_0]
      rfl
    have hcl : (cnts os i n k).length = n := by simp [cnts]
    refine wp_seq (wp_for (ds := enumD 0 ((cnts os i n k).map dN)) (s1 := cfS b os i (some (.dat (.list ((cnts os i n k).map dN)))) (some (.dat (.int k))) (some (.own ((lats os i n k 0).map dN))) x5 x6 x7)
      (fun j s => ∃ x5 x6 x7, s = cfS b os i (some (.dat (.list ((cnts os i n k).map dN)))) (some (.dat (.int k))) (some (.own ((lats os i n k j).map dN))) x5 x6 x7) ?_ ⟨_, _, _, rfl⟩ ?_ ?_)
    · rcases hx2 with rfl | rfl
      · simp [cfS, iEnum0, starD]
      · simp [cfS, iEnum0, starD]
    · rintro j d s hj ⟨x5, x6, x7, rfl⟩
      obtain ⟨y, hy, rfl⟩ := enum_at hj
      obtain ⟨c, hc, rfl⟩ := map_at hy
      have hjn : j < n := by have := (List.getElem?_eq_some_iff.mp hc).1; omega
      have ec : c = (ends os i k).count j := by
        unfold cnts at hc
        rw [List.getElem?_map, List.getElem?_range hjn] at hc
        exact (Option.some.inj hc).symm
      refine ⟨_, rfl, ?_⟩
      obtain ⟨p, ep, hp⟩ := ho.get hjn
      obtain ⟨x, ex⟩ : ∃ x, fstW ((os.getD k []).getD j 0) = x := ⟨_, rfl⟩
      have hx1 : x + 1 < n := by
        rw [← ex, List.getD_eq_getElem?_getD, ep]
        simp [fstW]
        omega
      have hn := next_wires_ok (b := b) (os := os) (k := k) (w := j) hkl (by rw [ho.len]; exact hjn)
      unfold nextW at hn
      rw [ex] at hn
      refine wp_for0 (ds := [dN x, dN (x + 1)]) (s1 := cfS b os i (some (.dat (.list ((cnts os i n k).map dN)))) (some (.dat (.int k))) (some (.own ((lats os i n k j).map dN))) (some (.dat (.int j))) (some (.dat (dN c))) x7) ?_ ?_
      · have hn' : fn_next_wires [dNet b os, .int k, .int j] = .ok (.list [dN x, dN (x + 1)]) := by rw [hn]; rfl
        simp [cfS, hn']
      have ll : ∀ j, (lats os i n k j).length = n := fun j => by simp [lats]
      refine wp_fd_cons rfl (wp_nx (augI_ok (k := 4) (i := x) (c := c) (L := lats os i n k j) rfl rfl rfl (by rw [ll]; omega)) ?_)
      refine wp_fd_cons rfl (wp_nx (augI_ok (k := 4) (i := x + 1) (c := c) (L := (lats os i n k j).set x ((lats os i n k j).getD x 0 + c)) rfl rfl rfl (by rw [List.length_set, ll]; omega)) (wp_fd_nil ?_))
      rw [ec, ← lats_step ex hx1]
      exact ⟨_, _, _, rfl⟩
    · rintro s ⟨x5, x6, x7, rfl⟩
      rw [enumD_len, List.length_map, hcl, lats_n hlt]
      exact wp_nx (s1 := cfS b os i (some (.dat (.list ((cnts os i n (k + 1)).map dN)))) (some (.dat (.int k))) (some (.dat (.list ((cnts os i n (k + 1)).map dN)))) x5 x6 x7) rfl ⟨_, _, _, _, _, _, rfl, .inr rfl⟩
  · rintro s ⟨x2, x3, x4, x5, x6, x7, rfl, hx2⟩
    rw [List.length_map, List.length_range] at hx2
    refine wp_ret ?_
    rcases hx2 with rfl | rfl
    · exact we_ok (a := .list ((cnts os i n os.length).map dN)) rfl rfl
    · exact we_ok (a := .list ((cnts os i n os.length).map dN)) rfl rfl
theorem is_banyan_of_ok {b : Nat} {os : List (List Nat)} (h : VNet b os) (hb : Ban b os) : fn_is_banyan_of [dNet b os] = .ok (.bool true) := by
  have h16 := pow16 h.b4
  obtain ⟨n, en⟩ : ∃ n, n = 2 ^ b := ⟨_, rfl⟩
  have hW : fn_wires_of [dNet b os] = .ok (.int (n : Nat)) := by
    have := wires_ok b (dOs os) (by have := h.b4; omega)
    unfold dNet
    rw [this, en]
    simp
  have hc : ∀ i, i < n → cnts os i n os.length = List.replicate n 1 := fun i hi => by
    apply List.ext_getElem?
    intro f
    unfold cnts
    by_cases hf : f < n
    · rw [List.getElem?_map, List.getElem?_range hf, List.getElem?_replicate, if_pos hf]
      exact congrArg some (hb i (by omega) f (by omega))
    · rw [List.getElem?_eq_none (by simp; omega), List.getElem?_eq_none (by simp; omega)]
  have sh : SeqAt.shaped (.list ((List.replicate n 1).map dN)) = true := (nats_sz (l := List.replicate n 1) (n := 16) (fun x hx => by rw [(List.mem_replicate.mp hx).2]; decide) (by simp; omega)).shaped (by decide)
  have lc : dLc [1] (VL.iRng1 (dCallN fn_wires_of (daCons (dVar 0) daNil))) (VL.gN 1) tdYes (dFrz (dOp gEq (dCallF fn_counts_from (ddCons (dFrz (dVar 0)) (ddCons (dFrz (dVar 1)) ddNil))) (dOp gMulT (dLst (ddCons (dFrz (dC (.int 1))) ddNil)) (dCallN fn_wires_of (daCons (dVar 0) daNil))))) (startS 2 [dNet b os])
      = .ok (.tmp ((List.range n).map fun _ => PyData.bool true)) (startS 2 [dNet b os]) := by
    refine lc_map (l := List.range n) (en := dN) (fun _ => PyData.bool true) (startS 2 [dNet b os]) (iRng_ok (by simp [startS, hW, flat]) (by omega)) rfl rfl rfl (by simp; omega) (fun x hx => ?_)
    have hx := List.mem_range.mp hx
    have q := counts_from_ok h (i := x) (by omega)
    rw [← en, hc x hx] at q
    have := gMulT_lst1 (.int 1) (n := n) (by omega)
    have e1 : List.replicate n (PyData.int 1) = (List.replicate n 1).map dN := by simp [dN]
    rw [e1] at this
    have ge : gEq (.list (List.replicate n (.int 1))) (.list (List.replicate n (.int 1))) = some (.dat (.bool true)) := by
      have := gEq_listS sh
      simpa [dN] using this
    exact ⟨_, ⟨[some (.dat (dNet b os)), some (.dat (dN x))], m0⟩, rfl, by simp only [List.map_replicate] at this q; simp only [dN] at this q; simp [dN, q, hW, this, ge], rfl⟩
  refine fn_wp ?_
  unfold den_is_banyan_of
  refine wp_ret (we_ok (a := .bool true) (s1 := startS 2 [dNet b os]) ?_ rfl)
  have bb : boolsD ((List.range n).map fun _ => PyData.bool true) = some (List.replicate n true) := by
    have := boolsD_map (List.replicate n true)
    rw [← this]
    congr 1
    simp [List.map_const']
  simp only [dFrz, dCall, daCons, daNil, lc, e_bind_ok, e_finN, e_resAll_cons, e_res_tmp, e_resAll_nil]
  simp [gAll, bb, bl_]
theorem is_apart_ok {way : List Nat} {ws : List (List Nat)} (h : ∀ o ∈ ws, way.length ≤ o.length) (hl : way.length ≤ 1000) (hws : ws.length ≤ 100) : fn_is_apart [dO way, .list (ws.map dO)] = .ok (.bool (apart way ws)) := by
  have e : dLc2 [2, 3, 4] [3, 4] (iSeq (dFrz (dVar 1))) (VL.gN 2) tdYes (iEnum0 (ddCons (dFrz (dVar 0)) ddNil)) (gTup0 2 (gCons0 (VL.gN 3) (gCons0 (VL.gN 4) gNil0))) tdYes (dFrz (dOp gEq (dVar 4) (dOp gIx (dVar 2) (dVar 3)))) ⟨[some (.dat (dO way)), some (.dat (.list (ws.map dO))), none, none, none], m0⟩
      = .ok (.tmp (ws.flatMap fun o => (List.range way.length).map fun r => PyData.bool (way.getD r 0 == o.getD r 0))) ⟨[some (.dat (dO way)), some (.dat (.list (ws.map dO))), none, none, none], m0⟩ := by
    refine lc2_map (l := ws) (en := dO) (inn := fun _ => List.range way.length) (en1 := fun _ r => PyData.tuple [.int (r : Nat), dN (way.getD r 0)]) (fun o r => PyData.bool (way.getD r 0 == o.getD r 0)) ⟨[some (.dat (dO way)), some (.dat (.list (ws.map dO))), none, none, none], m0⟩ (by simp [iSeq, asSeq, starD]) rfl rfl rfl ?_ ?_
    · rw [List.length_flatMap]
      simp only [List.length_range]
      rw [List.map_const', List.sum_replicate_nat]
      have := Nat.mul_le_mul hws hl
      omega
    · intro o ho
      refine ⟨_, ⟨[some (.dat (dO way)), some (.dat (.list (ws.map dO))), some (.dat (dO o)), none, none], m0⟩, ⟨[some (.dat (dO way)), some (.dat (.list (ws.map dO))), some (.dat (dO o)), none, none], m0⟩, rfl, ?_, rfl, ?_, rfl⟩
      · rw [← enum_range]
        simp [iEnum0, dO, starD]
      · intro r hr
        have hr := List.mem_range.mp hr
        have a : gIx (dO o) (.int (r : Int)) = some (.dat (.int (o.getD r 0 : Nat))) := by
          show (atI (o.map dN) _).map RV.dat = _
          rw [atI_dN rfl (by have := h o ho; omega)]
          rfl
        refine ⟨_, ⟨[some (.dat (dO way)), some (.dat (.list (ws.map dO))), some (.dat (dO o)), some (.dat (.int r)), some (.dat (dN (way.getD r 0)))], m0⟩, rfl, ?_, rfl⟩
        generalize way.getD r 0 = x
        generalize o.getD r 0 = y at a
        simp [a, dN]
        by_cases hxy : x = y
        · simp [hxy]
        · have : ¬ (x : Int) = y := by omega
          simp [hxy, this]
  have e2 : (ws.flatMap fun o => (List.range way.length).map fun r => PyData.bool (way.getD r 0 == o.getD r 0)) = (ws.flatMap fun o => (List.range way.length).map fun r => (way.getD r 0 == o.getD r 0)).map PyData.bool := by
    rw [List.map_flatMap]
    simp [Function.comp_def]
  rw [e2] at e
  refine fn_wp ?_
  unfold den_is_apart
  refine wp_ret (we_ok (s1 := ⟨[some (.dat (dO way)), some (.dat (.list (ws.map dO))), none, none, none], m0⟩) ?_ rfl)
  have e0 : startS 5 [dO way, PyData.list (ws.map dO)] = ⟨[some (.dat (dO way)), some (.dat (.list (ws.map dO))), none, none, none], m0⟩ := rfl
  rw [e0]
  simp only [dFrz, dNot, dCall, daCons, daNil, e, e_bind_ok, e_finN, e_resAll_cons, e_res_tmp, e_resAll_nil, gAny, boolsD_map, Option.map_some, e_bl_, e_asB, e_res_dat, e_frz_dat]
  congr 2
  unfold apart
  rw [List.not_any_eq_all_not, List.all_flatMap]
  congr 1
  funext o
  rw [List.all_map]
  rfl
def wtS (b : Nat) (os : List (List Nat)) (ps : List (Nat × Nat)) (x2 x3 x4 x5 : Option VB) : Sx := ⟨[some (.dat (dNet b os)), some (.dt (ps.map (tabE os))), x2, x3, x4, x5, none], m0⟩
theorem ways_table_ok {b : Nat} {os : List (List Nat)} (h : VNet b os) (hb : Ban b os) : ∃ ps, fn_ways_table [dNet b os] = .ok (tabD os ps) ∧ IsTab (2 ^ b) ps := by
  have hrows := h.rows
  have h16 := pow16 h.b4
  have h2 := two_half h.b1
  obtain ⟨n, en⟩ : ∃ n, n = 2 ^ b := ⟨_, rfl⟩
  have hW : fn_wires_of [dNet b os] = .ok (.int (n : Nat)) := by
    have := wires_ok b (dOs os) (by have := h.b4; omega)
    unfold dNet
    rw [this, en]
    simp
  have hlen : ∀ i k, k ≤ os.length → (allW os i k).length ≤ 128 := fun i k hk => by
    rw [allW_len]
    have : 2 ^ (k + 1) ≤ 2 ^ 7 := Nat.pow_le_pow_right (by decide) (by omega)
    exact this
  obtain ⟨d, hd, ps, rfl, hp⟩ := fn_wpE (n := 7) (den := den_ways_table) (ds := [dNet b os]) (P := fun d => ∃ ps, d = tabD os ps ∧ IsTab n ps) (by
    unfold den_ways_table
    refine wp_step (s1 := wtS b os [] none none none none) (by simp [wtS]) ?_
    refine wp_seq (wp_for (ds := (List.range (n / 2)).map fun t => dN (2 * t)) (s1 := wtS b os [] none none none none)
      (fun t s => ∃ ps x2 x3 x4 x5, s = wtS b os ps x2 x3 x4 x5 ∧ (∀ y, x5 = some y → y.isDat = true) ∧ ps.Nodup ∧ ps.length ≤ 2 * t * n ∧ ∀ p, p ∈ ps ↔ p.1 < 2 * t ∧ p.2 < n) ?_ ⟨[], _, _, _, _, rfl, (fun y z => by cases z), List.nodup_nil, by simp, fun p => by simp⟩ ?_ ?_)
    · have e1 : rngD 0 2 (((n : Int) - 0 + 1) / 2).toNat = (List.range (n / 2)).map fun t => dN (2 * t) := by
        rw [show (((n : Int) - 0 + 1) / 2).toNat = n / 2 by omega]
        exact rng2_range _
      have e2 : (n : Int) ≤ 1000000 := by omega
      simp [VL.iRng3, wtS, hW, rng3, e2, liftO]
      simpa using e1
    · rintro t d s ht ⟨ps, x2, x3, x4, x5, rfl, hx5, hnd, hpl, hps⟩
      obtain ⟨r, hr, rfl⟩ := map_at ht
      obtain ⟨ht1, ht2⟩ := List.getElem?_eq_some_iff.mp hr
      simp at ht1 ht2
      subst ht2
      have hi : 2 * t < 2 ^ b := by omega
      have hf : fstW (2 * t) = 2 * t := by unfold fstW; omega
      refine ⟨_, rfl, ?_⟩
      refine wp_step (s1 := wtS b os ps (some (.dat (dN (2 * t)))) (some (.own ((allW os (2 * t) 0).map dO))) x4 x5) (by simp [wtS, allW, dO, dN, hf]) ?_
      refine wp_seq (wp_for (ds := (List.range os.length).map dN) (s1 := wtS b os ps (some (.dat (dN (2 * t)))) (some (.own ((allW os (2 * t) 0).map dO))) x4 x5) (fun j s => ∃ x4, s = wtS b os ps (some (.dat (dN (2 * t)))) (some (.own ((allW os (2 * t) j).map dO))) x4 x5)
        (iRng_ok (by simp [wtS, dNet, dOs]) (by omega)) ⟨_, rfl⟩ ?_ ?_)
      · rintro j d s hj ⟨x4, rfl⟩
        obtain ⟨r, hr, rfl⟩ := map_at hj
        obtain ⟨hjl, hjr⟩ := List.getElem?_eq_some_iff.mp hr
        simp at hjl hjr
        subst hjr
        refine ⟨_, rfl, ?_⟩
        have hW := ways_lt h hi (Nat.le_of_lt hjl)
        have ho := getD_mem hjl
        have lc : dLc2 [5, 6] [6] (iSeq (dFrz (dVar 3))) (VL.gN 5) tdYes (iSeq (dFrz (dCallF fn_next_wires (ddCons (dFrz (dVar 0)) (ddCons (dFrz (dVar 4)) (ddCons (dFrz (dOp gIx (dVar 5) (dUn gNeg (dC (.int 1))))) ddNil)))))) (VL.gN 6) tdYes (dFrz (dTup (ddStar (dFrz (dVar 5)) (ddCons (dFrz (dVar 6)) ddNil))))
            (wtS b os ps (some (.dat (dN (2 * t)))) (some (.own ((allW os (2 * t) j).map dO))) (some (.dat (dN j))) x5) = .ok (.tmp ((allW os (2 * t) j).flatMap fun way => (nextW os j (lastW way)).map fun w => dO (way ++ [w]))) (wtS b os ps (some (.dat (dN (2 * t)))) (some (.dat (.list ((allW os (2 * t) j).map dO)))) (some (.dat (dN j))) x5) := by
          refine lc2_map (l := allW os (2 * t) j) (en := dO) (inn := fun way => nextW os j (lastW way)) (en1 := fun _ => dN) (fun way w => dO (way ++ [w])) (wtS b os ps (some (.dat (dN (2 * t)))) (some (.dat (.list ((allW os (2 * t) j).map dO)))) (some (.dat (dN j))) none) (by simp [wtS]) rfl rfl (by
            cases x5 with
            | none => rfl
            | some y =>
              have := hx5 y rfl
              simp [noOwn, wtS, this]) ?_ ?_
          · have e : ((allW os (2 * t) j).flatMap fun way => nextW os j (lastW way)).length = (allW os (2 * t) j).length * 2 := by
              rw [List.length_flatMap]
              simp [nextW, List.map_const', List.sum_replicate_nat]
            rw [e]
            have := hlen (2 * t) j (Nat.le_of_lt hjl)
            omega
          intro way hway
          have w := hW way hway
          have hlast : lastW way < (os.getD j []).length := by
            rw [(h.ok _ ho).len]
            exact w.last
          have a1 := next_wires_ok (b := b) hjl hlast
          have a2 := gIx_last w.len
          refine ⟨_, ⟨(wtS b os ps (some (.dat (dN (2 * t)))) (some (.dat (.list ((allW os (2 * t) j).map dO)))) (some (.dat (dN j))) none).g.set 5 (some (.dat (dO way))), m0⟩, ⟨(wtS b os ps (some (.dat (dN (2 * t)))) (some (.dat (.list ((allW os (2 * t) j).map dO)))) (some (.dat (dN j))) none).g.set 5 (some (.dat (dO way))), m0⟩, rfl, ?_, rfl, ?_, rfl⟩
          · simp [wtS, dN, a2, a1]
          · intro x hx
            have hl : way.length + 1 ≤ 16777216 := by have := w.len; omega
            refine ⟨_, ⟨((wtS b os ps (some (.dat (dN (2 * t)))) (some (.dat (.list ((allW os (2 * t) j).map dO)))) (some (.dat (dN j))) none).g.set 5 (some (.dat (dO way)))).set 6 (some (.dat (dN x))), m0⟩, rfl, ?_, rfl⟩
            simp [wtS, dO, starD, hl]
        refine wp_nx (s1 := wtS b os ps (some (.dat (dN (2 * t)))) (some (.own ((allW os (2 * t) (j + 1)).map dO))) (some (.dat (dN j))) x5) ?_ ⟨_, rfl⟩
        have e1 : ((allW os (2 * t) (j + 1)).map dO) = (allW os (2 * t) j).flatMap fun way => (nextW os j (lastW way)).map fun w => dO (way ++ [w]) := by
          show ((allW os (2 * t) j).flatMap fun way => (nextW os j (lastW way)).map fun w => way ++ [w]).map dO = _
          rw [List.map_flatMap]
          simp [Function.comp_def]
        rw [e1]
        show sSet 3 _ (wtS b os ps (some (.dat (dN (2 * t)))) (some (.own ((allW os (2 * t) j).map dO))) (some (.dat (dN j))) x5) = _
        rw [sSet, lc]
        rfl
      · rintro s ⟨x4, rfl⟩
        rw [List.length_map, List.length_range]
        have hWs := ways_lt h hi (Nat.le_refl _)
        have hal := hlen (2 * t) os.length (Nat.le_refl _)
        have hen := ends_all os (2 * t) os.length
        have hnde := hb.ends_nodup h hi
        refine wp_for (ds := (allW os (2 * t) os.length).map dO) (s1 := wtS b os ps (some (.dat (dN (2 * t)))) (some (.dat (.list ((allW os (2 * t) os.length).map dO)))) x4 x5)
          (fun j s => ∃ qs x5, s = wtS b os (ps ++ qs) (some (.dat (dN (2 * t)))) (some (.dat (.list ((allW os (2 * t) os.length).map dO)))) x4 x5 ∧ (∀ y, x5 = some y → y.isDat = true) ∧ (ps ++ qs).Nodup ∧ qs.length = 2 * j ∧ ∀ p, p ∈ qs ↔ (p.1 = 2 * t ∨ p.1 = 2 * t + 1) ∧ p.2 ∈ (ends os (2 * t) os.length).take j)
          (by simp [wtS]) ⟨[], x5, by simp, hx5, by simpa using hnd, rfl, fun p => by simp⟩ ?_ ?_
        · rintro j d s hj ⟨qs, x5, rfl, _, hnq, hql, hqs⟩
          obtain ⟨way, hway, rfl⟩ := map_at hj
          have hjl := (List.getElem?_eq_some_iff.mp hway).1
          have hm := List.mem_of_getElem? hway
          have w := hWs way hm
          have hl : lastW way < 2 ^ b := w.last
          have ew := hb.wayTo_eq hi hm hl
          have ej : (ends os (2 * t) os.length)[j]? = some (lastW way) := by rw [← hen, List.getElem?_map, hway]; rfl
          have hnt : lastW way ∉ (ends os (2 * t) os.length).take j := fun z => by
            obtain ⟨k, hk⟩ := List.mem_iff_getElem?.mp z
            rw [List.getElem?_take] at hk
            split at hk
            · rename_i hkj
              obtain ⟨l1, e1⟩ := List.getElem?_eq_some_iff.mp hk
              obtain ⟨l2, e2⟩ := List.getElem?_eq_some_iff.mp ej
              have := (List.getElem_inj hnde).mp (e1.trans e2.symm)
              omega
            · cases hk
          have hn1 : (2 * t, lastW way) ∉ ps ++ qs := fun z => by
            rcases List.mem_append.mp z with z | z
            · have := (hps _).mp z
              simp at this
            · exact hnt ((hqs _).mp z).2
          have hn2 : (2 * t + 1, lastW way) ∉ (ps ++ qs) ++ [(2 * t, lastW way)] := fun z => by
            rcases List.mem_append.mp z with z | z
            · rcases List.mem_append.mp z with z | z
              · have := ((hps _).mp z).1
                have : 2 * t + 1 < 2 * t := this
                omega
              · exact hnt ((hqs _).mp z).2
            · have := List.mem_singleton.mp z
              simp at this
          refine ⟨_, rfl, ?_⟩
          have a2 := gIx_last w.len
          have hpl2 : ps.length + qs.length < 1000 := by
            have : 2 * t * n ≤ 16 * 16 := Nat.mul_le_mul (by omega) (by omega)
            omega
          have ew1 : dO way = dO (wayTo os (2 * t, lastW way).1 (2 * t, lastW way).2) := by rw [← ew]
          have ew2 : dO way = dO (wayTo os (2 * t + 1, lastW way).1 (2 * t + 1, lastW way).2) := by
            show dO way = dO (wayTo os (2 * t + 1) (lastW way))
            rw [wayTo_sw (i := 2 * t + 1) (j := 2 * t) (by omega), ← ew]
          refine wp_step (s1 := wtS b os ((ps ++ qs) ++ [(2 * t, lastW way)]) (some (.dat (dN (2 * t)))) (some (.dat (.list ((allW os (2 * t) os.length).map dO)))) x4 (some (.dat (dO way)))) ?_ ?_
          · have := sPutT_ok (j := 1) (fk := dTup (ddCons (dFrz (dVar 2)) (ddCons (dFrz (dOp gIx (dVar 5) (dUn gNeg (dC (.int 1))))) ddNil))) (fv := dFrz (dVar 5)) (s := wtS b os (ps ++ qs) (some (.dat (dN (2 * t)))) (some (.dat (.list ((allW os (2 * t) os.length).map dO)))) x4 (some (.dat (dO way))))
              (d := dO way) (kvs := (ps ++ qs).map (tabE os)) (p := (2 * t, lastW way)) (by simp [wtS]) rfl (by simp [wtS, a2, dPr, dN]) (by simp; omega)
            rw [ew1, putT_new hn1] at this
            rw [← ew1] at this
            exact this
          · have := sPutT_ok (j := 1) (fk := dTup (ddCons (dFrz (dOp gAdd (dVar 2) (dC (.int 1)))) (ddCons (dFrz (dOp gIx (dVar 5) (dUn gNeg (dC (.int 1))))) ddNil))) (fv := dFrz (dVar 5)) (s := wtS b os ((ps ++ qs) ++ [(2 * t, lastW way)]) (some (.dat (dN (2 * t)))) (some (.dat (.list ((allW os (2 * t) os.length).map dO)))) x4 (some (.dat (dO way))))
              (d := dO way) (kvs := ((ps ++ qs) ++ [(2 * t, lastW way)]).map (tabE os)) (p := (2 * t + 1, lastW way)) (by simp [wtS]) rfl (by simp [wtS, a2, dPr, dN]) (by simp; omega)
            rw [ew2, putT_new hn2] at this
            rw [← ew2] at this
            refine wp_nx (s1 := wtS b os ((ps ++ qs) ++ [(2 * t, lastW way)] ++ [(2 * t + 1, lastW way)]) (some (.dat (dN (2 * t)))) (some (.dat (.list ((allW os (2 * t) os.length).map dO)))) x4 (some (.dat (dO way)))) this ⟨qs ++ [(2 * t, lastW way), (2 * t + 1, lastW way)], some (.dat (dO way)), by simp, (fun y z => by cases z; rfl), ?_, by simp; omega, fun p => ?_⟩
            · have : (ps ++ (qs ++ [(2 * t, lastW way), (2 * t + 1, lastW way)])) = (ps ++ qs ++ [(2 * t, lastW way)]) ++ [(2 * t + 1, lastW way)] := by simp
              rw [this]
              refine List.nodup_append.mpr ⟨List.nodup_append.mpr ⟨hnq, by simp, fun a ha c hc z => ?_⟩, by simp, fun a ha c hc z => ?_⟩
              · rw [List.mem_singleton.mp hc] at z; subst z; exact hn1 ha
              · rw [List.mem_singleton.mp hc] at z; subst z; exact hn2 ha
            · rw [List.mem_append, hqs, List.take_add_one, ej]
              obtain ⟨p1, p2⟩ := p
              simp
              constructor
              · rintro (⟨h1, h2⟩ | ⟨h1, h2⟩ | ⟨h1, h2⟩)
                · exact ⟨h1, .inl h2⟩
                · exact ⟨.inl h1, .inr h2⟩
                · exact ⟨.inr h1, .inr h2⟩
              · rintro ⟨h1, h2 | h2⟩
                · exact .inl ⟨h1, h2⟩
                · rcases h1 with h1 | h1
                  · exact .inr (.inl ⟨h1, h2⟩)
                  · exact .inr (.inr ⟨h1, h2⟩)
        · rintro s ⟨qs, x5, rfl, hx5, hnq, hql, hqs⟩
          have hlw : ((allW os (2 * t) os.length).map dO).length = (ends os (2 * t) os.length).length := by rw [← hen]; simp
          rw [hlw, List.take_length] at hqs
          refine ⟨ps ++ qs, _, _, _, _, rfl, hx5, hnq, ?_, fun p => ?_⟩
          · have e1 : (ends os (2 * t) os.length).length ≤ n := by
              have := List.Nodup.length_le_of_subset hnde (l₂ := List.range n) (fun x hx => List.mem_range.mpr (by rw [en]; exact h.ends_lt hi _ (Nat.le_refl _) x hx))
              simpa using this
            rw [List.length_append, hql, hlw]
            have : 2 * (t + 1) * n = 2 * t * n + 2 * n := by rw [Nat.mul_add, Nat.add_mul]
            omega
          · rw [List.mem_append, hps, hqs, hb.ends_mem h hi, ← en]
            omega
    · rintro s ⟨ps, x2, x3, x4, x5, rfl, _, hnd, _, hps⟩
      rw [List.length_map, List.length_range, show 2 * (n / 2) = n by omega] at hps
      exact wp_ret (we_ok (a := tabD os ps) (s1 := ⟨[some (.dat (dNet b os)), some (.dat (tabD os ps)), x2, x3, x4, x5, none], m0⟩) rfl ⟨ps, rfl, hnd, hps⟩))
  rw [en] at hp
  exact ⟨ps, hd, hp⟩
end G

namespace G
open PySem PySem.Spec PyProof.Rows L2 VL
def wdS (b : Nat) (os : List (List Nat)) (ds : List (Nat × Nat)) (n : Nat) (l : Int) (us : List Nat) (x5 x6 : Option VB) : Sx := ⟨[some (.dat (dNet b os)), some (.dat (dDem ds)), some (.dat (.int (n : Nat))), some (.dat (.int l)), some (.own (us.map dN)), x5, x6], m0⟩
theorem wrong_in_demands_ok {b : Nat} {os : List (List Nat)} {ds : List (Nat × Nat)} (h : VNet b os) (hd : VDem (2 ^ b) ds) : fn_wrong_in_demands [dNet b os, dDem ds] = .ok (.list []) := by
  have h16 := pow16 h.b4
  have hdl := hd.len
  obtain ⟨n, en⟩ : ∃ n, n = 2 ^ b := ⟨_, rfl⟩
  have hW : fn_wires_of [dNet b os] = .ok (.int (n : Nat)) := by
    have := wires_ok b (dOs os) (by have := h.b4; omega)
    unfold dNet
    rw [this, en]
    simp
  rw [← en] at hd hdl h16
  have t1 : isiD .tuple (dDem ds) = true := rfl
  have t2 : tyOk (dDem ds) = true := rfl
  refine fn_wp ?_
  unfold den_wrong_in_demands
  refine wp_step (s1 := ⟨[some (.dat (dNet b os)), some (.dat (dDem ds)), none, none, none, none, none], m0⟩) (by simp [t1, t2]) ?_
  refine wp_step (s1 := wdS b os ds n (-1) [] none none) (by simp [wdS, hW]) ?_
  refine wp_seq (wp_for (ds := enumD 0 (ds.map dPr)) (s1 := wdS b os ds n (-1) [] none none)
    (fun j s => ∃ l x5 x6, s = wdS b os ds n l ((ds.take j).map (·.2)) x5 x6 ∧ (∀ p, ds[j]? = some p → l < (p.1 : Int)) ) (by simp [wdS, iEnum0, dDem, starD]) ⟨_, _, _, rfl, fun p _ => by omega⟩ ?_ ?_)
  · rintro j d s hj ⟨l, x5, x6, rfl, hl⟩
    obtain ⟨y, hy, rfl⟩ := enum_at hj
    obtain ⟨p, hp, rfl⟩ := map_at hy
    have hpm := List.mem_of_getElem? hp
    have hpl := hd.lt p hpm
    have hlp := hl p hp
    have htk : (ds.take j).length ≤ 16 := by rw [List.length_take]; omega
    refine ⟨_, rfl, ?_⟩
    have w1 := is_whole_ok (p.1 : Int) (l + 1) ((n : Int) - 1)
    have w2 := is_whole_ok (p.2 : Int) 0 ((n : Int) - 1)
    rw [decide_eq_true (show l + 1 ≤ (p.1 : Int) by omega), decide_eq_true (show (p.1 : Int) ≤ (n : Int) - 1 by omega)] at w1
    rw [decide_eq_true (show 0 ≤ (p.2 : Int) by omega), decide_eq_true (show (p.2 : Int) ≤ (n : Int) - 1 by omega)] at w2
    have hin := gIn_nats (x := p.2) (l := (ds.take j).map (·.2)) (fun y hy => by
      obtain ⟨q, hq, rfl⟩ := List.mem_map.mp hy
      have := hd.lt q (List.mem_of_mem_take hq)
      omega) (by rw [List.length_map]; omega)
    have hc : ((ds.take j).map (·.2)).contains p.2 = false := by
      cases e : ((ds.take j).map (·.2)).contains p.2 with
      | false => rfl
      | true =>
        have : p.2 ∈ (ds.take j).map (·.2) := by simpa using e
        obtain ⟨q, hq, e2⟩ := List.mem_map.mp this
        exact absurd e2 (pw_take hd.up hp q hq).2
    rw [hc] at hin
    have g0 := dPr0 p
    have g1 := dPr1 p
    have u1 : isiD .tuple (dPr p) = true := rfl
    have u2 : tyOk (dPr p) = true := rfl
    have u3 : gLen [dPr p] = some (.dat (.int 2)) := rfl
    have ul : (((ds.take j).map (·.2)).map dN).length < 1000000 := by rw [List.length_map, List.length_map]; omega
    have e1 : ((ds.take (j + 1)).map (·.2)).map dN = ((ds.take j).map (·.2)).map dN ++ [.int (p.2 : Nat)] := by
      rw [List.take_add_one, hp]
      simp [dN]
    have fin : ∀ q, ds[j + 1]? = some q → (p.1 : Int) < (q.1 : Int) := fun q hq => by
      obtain ⟨l1, a1⟩ := List.getElem?_eq_some_iff.mp hp
      obtain ⟨l2, a2⟩ := List.getElem?_eq_some_iff.mp hq
      have := (List.pairwise_iff_getElem.mp hd.up) j (j + 1) l1 l2 (by omega)
      rw [a1, a2] at this
      omega
    refine Wp.mono (Q := fun s => s = wdS b os ds n (p.1 : Int) ((ds.take (j + 1)).map (·.2)) (some (.dat (.int j))) (some (.dat (dPr p)))) ?_ (fun s hs => ⟨_, _, _, hs, fin⟩) (fun _ _ z => z)
    unfold wdS
    rw [e1]
    generalize ((ds.take j).map (·.2)).map dN = U at hin ul
    refine wp_step (s1 := ⟨[some (.dat (dNet b os)), some (.dat (dDem ds)), some (.dat (.int (n : Nat))), some (.dat (.int l)), some (.own U), some (.dat (.int j)), some (.dat (dPr p))], m0⟩) (by simp [u1, u2, u3, gNe_int]) ?_
    refine wp_step (s1 := ⟨[some (.dat (dNet b os)), some (.dat (dDem ds)), some (.dat (.int (n : Nat))), some (.dat (.int l)), some (.own U), some (.dat (.int j)), some (.dat (dPr p))], m0⟩) (by simp [g0, g1, w1, w2, hin]) ?_
    refine wp_step (s1 := ⟨[some (.dat (dNet b os)), some (.dat (dDem ds)), some (.dat (.int (n : Nat))), some (.dat (.int (p.1 : Nat))), some (.own U), some (.dat (.int j)), some (.dat (dPr p))], m0⟩) (by simp [g0]) ?_
    exact wp_nx (s1 := ⟨[some (.dat (dNet b os)), some (.dat (dDem ds)), some (.dat (.int (n : Nat))), some (.dat (.int (p.1 : Nat))), some (.own (U ++ [.int (p.2 : Nat)])), some (.dat (.int j)), some (.dat (dPr p))], m0⟩) (by simp [g1, ul]) rfl
  · rintro s ⟨l, x5, x6, rfl, _⟩
    exact wp_ret (we_ok (a := .list []) rfl rfl)
theorem do_keep_apart_ok {k : Nat} {ws : List (List Nat)} (h : ∀ o ∈ ws, o.length = k) (hk : k ≤ 1000) (hws : ws.length ≤ 100) : fn_do_keep_apart [.list (ws.map dO)] = .ok (.bool (keepB ws)) := by
  have gm : ∀ j, j < ws.length → ws[j]? = some (ws.getD j []) := fun j hj => by rw [List.getD_eq_getElem?_getD, List.getElem?_eq_getElem hj]; rfl
  have en : enumD 0 (ws.map dO) = (List.range ws.length).map fun r => PyData.tuple [.int (r : Nat), dO (ws.getD r [])] := by
    apply List.ext_getElem?
    intro j
    by_cases hj : j < ws.length
    · rw [enum_at' (x := dO (ws.getD j [])) (by rw [List.getElem?_map, gm j hj]; rfl), List.getElem?_map, List.getElem?_range hj]
      rfl
    · rw [List.getElem?_eq_none (by rw [enumD_len, List.length_map]; omega), List.getElem?_eq_none (by simp; omega)]
  have lc : dLc [1, 2] (iEnum0 (ddCons (dFrz (dVar 0)) ddNil)) (gTup0 2 (gCons0 (VL.gN 1) (gCons0 (VL.gN 2) gNil0))) tdYes (dFrz (dCallN fn_is_apart (daCons (dVar 2) (daCons (dSl (dVar 0) dNo (dPart (dVar 1))) daNil)))) ⟨[some (.dat (.list (ws.map dO))), none, none], m0⟩
      = .ok (.tmp ((List.range ws.length).map fun j => PyData.bool (apart (ws.getD j []) (ws.take j)))) ⟨[some (.dat (.list (ws.map dO))), none, none], m0⟩ := by
    refine lc_map (l := List.range ws.length) (en := fun r => PyData.tuple [.int (r : Nat), dO (ws.getD r [])]) (fun j => PyData.bool (apart (ws.getD j []) (ws.take j))) ⟨[some (.dat (.list (ws.map dO))), none, none], m0⟩ (by simp [iEnum0, starD, en]) rfl rfl rfl (by simp; omega) (fun j hj => ?_)
    have hj := List.mem_range.mp hj
    have hm := List.mem_of_getElem? (gm j hj)
    have a := is_apart_ok (way := ws.getD j []) (ws := ws.take j) (fun o ho => by rw [h o (List.mem_of_mem_take ho), h _ hm]; exact Nat.le_refl _) (by rw [h _ hm]; exact hk) (by rw [List.length_take]; omega)
    have c := cut_to (ws.map dO) j
    rw [← List.map_take] at c
    generalize ws.getD j [] = w at a
    exact ⟨_, ⟨[some (.dat (.list (ws.map dO))), some (.dat (.int j)), some (.dat (dO w))], m0⟩, rfl, by simp [-List.map_take, dSl, dPart, dNo, gSl, c, a], rfl⟩
  refine fn_wp ?_
  unfold den_do_keep_apart
  refine wp_ret (we_ok (a := .bool (keepB ws)) (s1 := ⟨[some (.dat (.list (ws.map dO))), none, none], m0⟩) ?_ rfl)
  have bb : boolsD ((List.range ws.length).map fun j => PyData.bool (apart (ws.getD j []) (ws.take j))) = some ((List.range ws.length).map fun j => apart (ws.getD j []) (ws.take j)) := by
    have := boolsD_map ((List.range ws.length).map fun j => apart (ws.getD j []) (ws.take j))
    rw [List.map_map] at this
    exact this
  have es : startS 3 [.list (ws.map dO)] = ⟨[some (.dat (.list (ws.map dO))), none, none], m0⟩ := rfl
  rw [es]
  simp only [dFrz, dCall, daCons, daNil, lc, e_bind_ok, e_finN, e_resAll_cons, e_res_tmp, e_resAll_nil, gAll, bb, Option.map_some, e_bl_, e_frz_dat, keepB, List.all_map]
  rfl
theorem is_like_ok {b : Nat} {os os' : List (List Nat)} (h : VNet b os) (hb : Ban b os) : fn_is_like [dNet b os, dNet b os'] = .ok (.bool true) := by
  refine fn_wp ?_
  unfold den_is_like
  have e1 := need_net_ok h
  have e2 := is_banyan_of_ok h hb
  have e5 : gIx (dNet b os) (.int 0) = some (.dat (.int b)) := rfl
  have e6 : gIx (dNet b os') (.int 0) = some (.dat (.int b)) := rfl
  refine wp_step (s1 := ⟨[some (.dat (dNet b os)), some (.dat (dNet b os'))], m0⟩) (by simp [e1]) ?_
  exact wp_ret (we_ok (a := .bool true) (s1 := ⟨[some (.dat (dNet b os)), some (.dat (dNet b os'))], m0⟩) (by simp [e2, e5, e6, gEq_int]) rfl)
theorem need_menu_ok {b : Nat} {ms : List (List (List Nat))} (h : VMenu b ms) : fn_need_menu [dMenu b ms] = .ok .none := by
  have hl := h.len
  have hl0 : 0 < ms.length := List.length_pos_iff.mpr h.ne
  have t1 : isiD .tuple (dMenu b ms) = true := rfl
  have t2 : tyOk (dMenu b ms) = true := rfl
  have t3 : gLen [dMenu b ms] = some (.dat (.int (ms.length : Nat))) := by simp [dMenu, gLen]
  have w1 : (1 : Int) ≤ ms.length := by omega
  have w2 : (ms.length : Int) ≤ 8 := by omega
  have g0 : gIx (dMenu b ms) (.int 0) = some (.dat (dNet b (ms.getD 0 []))) := by
    obtain ⟨o, r, rfl⟩ : ∃ o r, ms = o :: r := by
      cases ms with
      | nil => exact absurd rfl h.ne
      | cons o r => exact ⟨o, r, rfl⟩
    show (atI ((o :: r).map (dNet b)) 0).map RV.dat = _
    unfold atI
    rw [show (0 : Int) = ((0 : Nat) : Int) from rfl, ixN_nat (by simp)]
    rfl
  refine fn_wp ?_
  unfold den_need_menu
  refine wp_step (s1 := ⟨[some (.dat (dMenu b ms)), none, none], m0⟩) (by simp [t1, t2, t3, w1, w2]) ?_
  refine wp_for (ds := enumD 0 (ms.map (dNet b))) (s1 := ⟨[some (.dat (dMenu b ms)), none, none], m0⟩) (fun _ s => ∃ x1 x2, s = ⟨[some (.dat (dMenu b ms)), x1, x2], m0⟩) (by simp [iEnum0, dMenu, starD]) ⟨_, _, rfl⟩ ?_ (fun s _ => rfl)
  rintro j d s hj ⟨x1, x2, rfl⟩
  obtain ⟨y, hy, rfl⟩ := enum_at hj
  obtain ⟨os, ho, rfl⟩ := map_at hy
  have hm := h.ok os (List.mem_of_getElem? ho)
  refine ⟨_, rfl, ?_⟩
  have q1 := is_like_ok (os' := os) hm.1 hm.2
  have q2 := is_like_ok (os' := ms.getD 0 []) hm.1 hm.2
  generalize dNet b (ms.getD 0 []) = N0 at g0 q2
  refine wp_nx (s1 := ⟨[some (.dat (dMenu b ms)), some (.dat (.int j)), some (.dat (dNet b os))], m0⟩) ?_ ⟨_, _, rfl⟩
  by_cases hj0 : j = 0
  · subst hj0
    simp [gEq_int, q1]
  · have : ¬ (j : Int) = 0 := by omega
    simp [gEq_int, this, hj0, g0, q2]
theorem need_log_ok {b : Nat} {ms : List (List (List Nat))} {lg : List LogI} (h : VMenu b ms) (hg : VLog b lg) : fn_need_log [dMenu b ms, dLog lg] = .ok .none := by
  have hl := hg.len
  have t1 : isiD .tuple (dLog lg) = true := rfl
  have t2 : tyOk (dLog lg) = true := rfl
  have t3 : gLen [dLog lg] = some (.dat (.int (lg.length : Nat))) := by simp [dLog, gLen]
  have w2 : ¬ (30 : Int) < lg.length := by omega
  have g0 : gIx (dMenu b ms) (.int 0) = some (.dat (dNet b (ms.getD 0 []))) := by
    obtain ⟨o, r, rfl⟩ : ∃ o r, ms = o :: r := by
      cases ms with
      | nil => exact absurd rfl h.ne
      | cons o r => exact ⟨o, r, rfl⟩
    show (atI ((o :: r).map (dNet b)) 0).map RV.dat = _
    unfold atI
    rw [show (0 : Int) = ((0 : Nat) : Int) from rfl, ixN_nat (by simp)]
    rfl
  have hm0 := (h.ok _ (getD_mem3 (i := 0) (List.length_pos_iff.mpr h.ne))).1
  refine fn_wp ?_
  unfold den_need_log
  refine wp_step (s1 := ⟨[some (.dat (dMenu b ms)), some (.dat (dLog lg)), none, none], m0⟩) (by simp [t1, t2, t3, w2]) ?_
  refine wp_for (ds := enumD 0 (lg.map dLi)) (s1 := ⟨[some (.dat (dMenu b ms)), some (.dat (dLog lg)), none, none], m0⟩) (fun _ s => ∃ x1 x2, s = ⟨[some (.dat (dMenu b ms)), some (.dat (dLog lg)), x1, x2], m0⟩) (by simp [iEnum0, dLog, starD]) ⟨_, _, rfl⟩ ?_ (fun s _ => rfl)
  rintro j d s hj ⟨x1, x2, rfl⟩
  obtain ⟨y, hy, rfl⟩ := enum_at hj
  obtain ⟨x, hx, rfl⟩ := map_at hy
  have hm := hg.ok x (List.mem_of_getElem? hx)
  refine ⟨_, rfl, ?_⟩
  have q1 := wrong_in_demands_ok hm0 hm
  have u1 : isiD .tuple (dLi x) = true := rfl
  have u2 : tyOk (dLi x) = true := rfl
  have u3 : gLen [dLi x] = some (.dat (.int 2)) := rfl
  have u4 : gIx (dLi x) (.int 1) = some (.dat (.bool x.2)) := rfl
  have u5 : gIx (dLi x) (.int 0) = some (.dat (dDem x.1)) := rfl
  have u6 : ∀ c, isiD .bool (.bool c) = true := fun _ => rfl
  have u7 : ∀ c, tyOk (.bool c) = true := fun _ => rfl
  have u8 : gNe (.list []) (.list []) = some (.dat (.bool false)) := rfl
  generalize dNet b (ms.getD 0 []) = N0 at g0 q1
  refine wp_step (s1 := ⟨[some (.dat (dMenu b ms)), some (.dat (dLog lg)), some (.dat (.int j)), some (.dat (dLi x))], m0⟩) (by simp [u1, u2, u3, u4, u6, u7, gNe_int]) ?_
  exact wp_nx (s1 := ⟨[some (.dat (dMenu b ms)), some (.dat (dLog lg)), some (.dat (.int j)), some (.dat (dLi x))], m0⟩) (by simp [g0, u5, q1, u8]) ⟨_, _, rfl⟩
end G

namespace G
open PySem PySem.Spec PyProof.Rows L2 VL
theorem like_same {d : PyData} (h : okR d = true) : fn_q_like [d, d] = .ok (.bool true) := by
  simp [fn_q_like, fnOfD, den_q_like, gRepr_ok h, gEq_str]
theorem q_of_ok {B : Nat} {m : DS} {ds : List PyData} (hg : Good (B + 1) m) (h0 : 0 < ds.length) (h1 : ds.length ≤ 1000) : ∃ d m', fn_q_of m [.list ds] = .ok d m' ∧ d ∈ ds ∧ Good B m' := by
  obtain ⟨r, m', e, hr, hg'⟩ := drawQ (L := (ds.length : Int)) hg (by omega) (by omega)
  have hr' : r < ds.length := by omega
  have a : atI ds (r : Int) = some ds[r] := by
    unfold atI
    rw [ixN_nat hr']
    exact List.getElem?_eq_getElem hr'
  refine ⟨ds[r], m', ?_, List.getElem_mem hr', hg'⟩
  obtain ⟨d, m2, e2, rfl, rfl⟩ := fnM_wp (n := 2) (den := den_q_of) (m := m) (ds := [.list ds]) (P := fun d m2 => d = ds[r] ∧ m2 = m') (by
    unfold den_q_of
    exact wp_ret (we_ok (s1 := ⟨[some .drw, some (.dat (.list ds))], m'⟩) (by simp [e, a]) ⟨rfl, rfl⟩))
  exact e2
/-- n things drawn of a list -/
theorem ofs_lc {B k v j n : Nat} {g : List (Option VB)} {m : DS} {ds : List PyData} (hd : g[k]? = some (some .drw)) (hv : g[v]? = some none) (hj : g[j]? = some (some (.dat (.list ds)))) (hjk : k ≠ v) (hjv : j ≠ v) (hn : n ≤ 1000) (hg : Good (B + n) m) (h0 : 0 < ds.length) (h1 : ds.length ≤ 1000) :
    ∃ es m', dLc [v] (VL.iRng1 (dC (.int (n : Nat)))) (VL.gN v) tdYes (dFrz (dCallM fn_q_of k (ddCons (dFrz (dVar j)) ddNil))) ⟨g, m⟩ = .ok (.tmp es) ⟨g, m'⟩ ∧ (∀ d ∈ es, d ∈ ds) ∧ Good B m' := by
  obtain ⟨r, s2, e, es, m', h1, h2, h3, h4⟩ := (we_lc1 (vs := [v]) (it := VL.iRng1 (dC (.int (n : Nat)))) (tgt := VL.gN v) (elt := dFrz (dCallM fn_q_of k (ddCons (dFrz (dVar j)) ddNil))) (s := ⟨g, m⟩) (s1 := ⟨g, m⟩) (ds := (List.range n).map dN)
    (Q := fun r s => ∃ es m', r = .tmp es ∧ s = ⟨g, m'⟩ ∧ (∀ d ∈ es, d ∈ ds) ∧ Good B m') (fun t acc s => ∃ m', s = ⟨g, m'⟩ ∧ (∀ d ∈ acc, d ∈ ds) ∧ Good (B + (n - t)) m') (iRng_ok rfl hn) (by simp [noOwn, hv]) (by simp; omega)
    ⟨m, wipe1 hv, (fun d hd => by cases hd), hg⟩ (fun t d acc s ht hs => by
      obtain ⟨m1, rfl, ha, hg1⟩ := hs
      have htn : t < n := by have := (List.getElem?_eq_some_iff.mp ht).1; simpa using this
      obtain ⟨x, m2, e2, hx, hg2⟩ := q_of_ok (B := B + (n - (t + 1))) (m := m1) (ds := ds) (hg1.less (by omega)) h0 h1
      have lv : v < g.length := (List.getElem?_eq_some_iff.mp hv).1
      have e3 : dFrz (dCallM fn_q_of k (ddCons (dFrz (dVar j)) ddNil)) ⟨g.set v (some (.dat d)), m1⟩ = .ok x ⟨g.set v (some (.dat d)), m2⟩ := by
        refine frz_callM (s1 := ⟨g.set v (some (.dat d)), m1⟩) (ds := [.list ds]) ?_ ?_ e2
        · unfold isDrw
          rw [List.getElem?_set_ne (Ne.symm hjk), hd]
        · have : (g.set v (some (VB.dat d)))[j]? = some (some (.dat (.list ds))) := by rw [List.getElem?_set_ne (Ne.symm hjv), hj]
          simp [this]
      exact ⟨_, rfl, we_ok e3 ⟨m2, wipe1s hv, fun y hy => by
        rcases List.mem_append.mp hy with hy | hy
        · exact ha y hy
        · rw [List.mem_singleton.mp hy]; exact hx, hg2⟩⟩) (fun es s2 hs => by
      obtain ⟨m', rfl, ha, hg'⟩ := hs
      rw [List.length_map, List.length_range] at hg'
      exact ⟨es, m', rfl, back1 hv, ha, hg'.less (by omega)⟩)).okE
  rw [h1, h2] at e
  exact ⟨es, m', e, h3, h4⟩
theorem q_order_ok {B n : Nat} {m : DS} (hg : Good (B + n) m) (hn : n ≤ 16) : ∃ p m', fn_q_order m [.int n] = .ok (dO p) m' ∧ IsP n p ∧ Good B m' := by
  obtain ⟨d, m', e, p, rfl, hp, hg'⟩ := fnM_wp (n := 5) (den := den_q_order) (m := m) (ds := [.int n]) (P := fun d m' => ∃ p, d = dO p ∧ IsP n p ∧ Good B m') (by
    unfold den_q_order
    refine wp_step (s1 := orS n [] none none m) (by simp [orS]) ?_
    refine wp_seq (wp_for (ds := (List.range n).map dN) (s1 := orS n [] none none m) (fun j s => ∃ fs x3 x4 m, s = orS n fs x3 x4 m ∧ fs.Perm (List.range j) ∧ Good (B + (n - j)) m) (iRng_ok rfl (by omega)) ⟨[], none, none, m, rfl, List.Perm.refl _, hg.less (by omega)⟩ ?_ ?_)
    · rintro j d s hj ⟨fs, x3, x4, m1, rfl, hp, hg1⟩
      obtain ⟨r, hr, rfl⟩ := map_at hj
      obtain ⟨h1, h2⟩ := List.getElem?_eq_some_iff.mp hr
      simp at h1 h2
      subst h2
      obtain ⟨sp, m2, e2, hr2, hg2⟩ := drawQ (B := B + (n - (j + 1))) (L := (j : Int) + 1) (hg1.less (by omega)) (by omega) (by omega)
      refine ⟨_, rfl, ?_⟩
      refine wp_step (s1 := orS n fs (some (.dat (dN j))) (some (.dat (.int sp))) m2) (by simp [orS, dN, e2]) ?_
      have k1 := cut_to (fs.map dN) sp
      have k2 := cut_from (fs.map dN) sp
      have hl : fs.length = j := by rw [hp.length_eq, List.length_range]
      refine wp_nx (s1 := orS n (fs.take sp ++ [j] ++ fs.drop sp) (some (.dat (dN j))) (some (.dat (.int sp))) m2) ?_ ⟨_, _, _, m2, rfl, ?_, hg2⟩
      · have l1 : min sp fs.length + 1 ≤ 16777216 := by omega
        have l2 : min sp fs.length + 1 + (fs.length - sp) ≤ 16777216 := by omega
        simp [orS, dN, k1, k2, l1, l2]
      · rw [List.range_succ]
        have a : (fs.take sp ++ [j] ++ fs.drop sp).Perm (fs ++ [j]) := by
          rw [List.append_assoc]
          refine List.Perm.trans (List.Perm.append_left _ List.perm_append_comm) ?_
          rw [← List.append_assoc, List.take_append_drop]
        exact a.trans (hp.append_right [j])
    · rintro s ⟨fs, x3, x4, m1, rfl, hp, hg1⟩
      rw [List.length_map, List.length_range] at hp hg1
      exact wp_ret (we_ok (a := dO fs) (s1 := orS n fs x3 x4 m1) (by simp [orS, dO]) ⟨fs, rfl, perm_isP hp, hg1.less (by omega)⟩))
  exact ⟨p, m', e, hp, hg'⟩
theorem q_halving_ok {b : Nat} (h1 : 1 ≤ b) (h4 : b ≤ 4) : fn_q_halving [.int b] = .ok (dNet b (plainB b)) := by
  match b, h1, h4 with
  | 1, _, _ => kernel_rfl
  | 2, _, _ => kernel_rfl
  | 3, _, _ => kernel_rfl
  | 4, _, _ => kernel_rfl
theorem q_banyan_ok {B b : Nat} {m : DS} (h1 : 1 ≤ b) (h4 : b ≤ 4) (hg : Good (B + 200) m) : ∃ os m', fn_q_banyan m [.int b] = .ok (dNet b os) m' ∧ VNet b os ∧ os.length = b - 1 ∧ Ban b os ∧ Good B m' := by
  have h16 := pow16 h4
  have hV := plainV h1 h4
  have hrl := plain_rows h1 h4
  obtain ⟨k, ek⟩ : ∃ k, k = 2 ^ (b - 1) := ⟨_, rfl⟩
  have h2k : 2 * k = 2 ^ b := by
    rw [ek]
    conv => rhs; rw [show b = b - 1 + 1 by omega, Nat.pow_succ]
    omega
  have hk8 : k ≤ 8 := by omega
  have hsh : gShl (.int 1) (.int ((b : Int) - 1)) = some (.dat (.int (k : Nat))) := by
    have e1 : (b : Int) - 1 = ((b - 1 : Nat) : Int) := by omega
    rw [e1]
    have e2 : ((b - 1 : Nat) : Int) ≤ 1000 := by omega
    have e3 : (0 : Int) ≤ ((b - 1 : Nat) : Int) := by omega
    rw [ek, e_gShl, if_pos ⟨e3, e2, by decide⟩]
    simp
  obtain ⟨d, m', e, os, rfl, hv, hl, hbn, hg'⟩ := fnM_wp (n := 16) (den := den_q_banyan) (m := m) (ds := [.int b]) (P := fun d m' => ∃ os, d = dNet b os ∧ VNet b os ∧ os.length = b - 1 ∧ Ban b os ∧ Good B m') (by
    unfold den_q_banyan
    refine wp_step (s1 := bn0 b k none none m) (by simp [-e_gShl, bn0, q_halving_ok h1 h4, hsh]) ?_
    -- names
    refine wp_seq (wp_set (we_lc1 (s1 := bn0 b k none none m) (ds := (List.range b).map dN)
      (fun j acc s => ∃ sp m, acc = sp.map dO ∧ s = bn0 b k none none m ∧ sp.length = j ∧ (∀ p ∈ sp, IsP k p) ∧ Good (B + 100 + (b - j) * 8) m)
      (iRng_ok rfl (by omega)) rfl (by simp; omega) ⟨[], m, rfl, rfl, rfl, fun p h => (by cases h), hg.less (by omega)⟩ ?_ ?_))
    · rintro j d acc s hj ⟨sp, m1, rfl, rfl, hl, hsp, hg1⟩
      have hjn : j < b := by have := (List.getElem?_eq_some_iff.mp hj).1; simpa using this
      obtain ⟨p, m2, e2, hp2, hg2⟩ := q_order_ok (B := B + 100 + (b - (j + 1)) * 8) (n := k) (m := m1) (hg1.less (by omega)) (by omega)
      refine ⟨_, rfl, ?_⟩
      refine we_ok (a := dO p) (s1 := ⟨(bn0 b k none none m1).g.set 4 (some (.dat d)), m2⟩) (frz_callM (s1 := ⟨(bn0 b k none none m1).g.set 4 (some (.dat d)), m1⟩) rfl rfl e2) ⟨sp ++ [p], m2, by simp, rfl, by simp [hl], fun q hq => ?_, hg2⟩
      rcases List.mem_append.mp hq with h | h
      · exact hsp q h
      · rw [List.mem_singleton.mp h]; exact hp2
    rintro es s ⟨sp, m1, rfl, rfl, hspl, hsp, hg1⟩
    rw [List.length_map, List.length_range] at hspl hg1
    refine .nx ?_
    refine wp_step (s1 := bnS b k sp [] none none none none none none none none none m1) (by simp [bn0, bnS, backX, backG]) ?_
    refine wp_seq (wp_for (ds := (List.range (b - 1)).map dN) (s1 := bnS b k sp [] none none none none none none none none none m1)
      (fun j s => ∃ fs x4 x7 x8 x9 x10 x11 x12 x13 x14 m, s = bnS b k sp fs x4 x7 x8 x9 x10 x11 x12 x13 x14 m ∧ (∀ y, x10 = some y → y.isDat = true) ∧ fs.length = j ∧ (∀ o ∈ fs, IsP (2 * k) o) ∧ (∀ r, r < j → ∃ T T', ∀ w, w < 2 * k → (fs.getD r []).getD (A_ (sp.getD r []) T w) 0 = A_ (sp.getD (r + 1) []) T' (((plainB b).getD r []).getD w 0)) ∧ Good (B + (b - 1 - j) * 16) m)
      (iRng_ok (by have e1 : (b : Int) - 1 = ((b - 1 : Nat) : Int) := by omega
                   simp [bnS, e1]) (by omega)) ⟨[], none, none, none, none, none, none, none, none, none, m1, rfl, (fun x z => by cases z), rfl, (fun o h => by cases h), (fun r hr => absurd hr (by omega)), hg1.less (by omega)⟩ ?_ ?_)
    · rintro j d s hj ⟨fs, x4, x7, x8, x9, x10, x11, x12, x13, x14, m2, rfl, hx10, hfl, hf, hRn, hg2⟩
      obtain ⟨r, hr, rfl⟩ := map_at hj
      obtain ⟨hj1, hj2⟩ := List.getElem?_eq_some_iff.mp hr
      simp at hj1 hj2
      subst hj2
      refine ⟨_, rfl, ?_⟩
      -- near and far
      have drw2 : ∀ (B' : Nat) (m3 : DS) (Q : RV → Sx → Prop), Good (B' + k) m3 → (∀ (xs : List Nat) (m' : DS), xs.length = k → Good B' m' → Q (.tmp (xs.map dN)) (bnS b k sp fs (some (.dat (dN j))) x7 x8 x9 x10 x11 x12 x13 x14 m')) →
          We (dLc [15] (VL.iRng1 (dVar 6)) (VL.gN 15) tdYes (dFrz (dCallM drawFn 0 (ddCons (dFrz (dC (.int 2))) ddNil))) (bnS b k sp fs (some (.dat (dN j))) x7 x8 x9 x10 x11 x12 x13 x14 m3)) Q := fun B' m3 Q hg3 hq => by
        refine draws_lc (B := B') (n := k) (L := 2) (k := 0) (v := 15) (g := (bnS b k sp fs (some (.dat (dN j))) x7 x8 x9 x10 x11 x12 x13 x14 m3).g) (m := m3) (fi := dVar 6) rfl rfl rfl (by omega) hg3 (by decide) (by decide) ?_
        intro xs m' h1 _ h3
        exact hq xs m' h1 h3
      refine wp_seq (wp_toS (we_bind ?_))
      refine drw2 (B + (b - 1 - (j + 1)) * 16 + k) m2 _ (hg2.less (by omega)) ?_
      intro T m3 hT hg3
      refine we_bind (.ok (we_bind (we_bind ?_)))
      refine drw2 (B + (b - 1 - (j + 1)) * 16) m3 _ hg3 ?_
      intro T' m4 hT' hg4
      refine we_bind (.ok (we_bind (.ok (.ok (.ok ?_)))))
      simp only [List.length_cons, List.length_nil, if_true]
      refine .nx ?_
      refine wp_step (s1 := bnS b k sp fs (some (.dat (dN j))) (some (.dk [])) (some (.own (T.map dN))) (some (.own (T'.map dN))) x10 x11 x12 x13 x14 m4) (by simp [bnS]) ?_
      obtain ⟨o, eo⟩ : ∃ o, (plainB b).getD j [] = o := ⟨_, rfl⟩
      have hjl : j < (plainB b).length := by omega
      have ho : (plainB b).getD j [] ∈ plainB b := by
        rw [List.getD_eq_getElem?_getD, List.getElem?_eq_getElem hjl]
        exact List.getElem_mem _
      have hoP : IsP (2 * k) o := by rw [h2k, ← eo]; exact hV.ok _ ho
      have a0 : atI ((plainB b).map dO) (j : Int) = some (dO o) := by rw [← eo]; exact atI_dO rfl hjl
      obtain ⟨S, eS⟩ : ∃ S, sp.getD j [] = S := ⟨_, rfl⟩
      obtain ⟨S', eS'⟩ : ∃ S, sp.getD (j + 1) [] = S := ⟨_, rfl⟩
      have gm : ∀ (l : List (List Nat)) (i : Nat), i < l.length → l.getD i [] ∈ l := fun l i hi => by
        rw [List.getD_eq_getElem?_getD, List.getElem?_eq_getElem hi]
        exact List.getElem_mem hi
      have hS : IsP k S := by rw [← eS]; exact hsp _ (gm sp j (by omega))
      have hS' : IsP k S' := by rw [← eS']; exact hsp _ (gm sp (j + 1) (by omega))
      have a1 : atI (sp.map dO) (j : Int) = some (dO S) := by rw [← eS]; exact atI_dO rfl (by omega)
      have a2 : atI (sp.map dO) ((j : Int) + 1) = some (dO S') := by rw [← eS']; exact atI_dO (by omega) (by omega)
      refine wp_seq (wp_for (ds := enumD 0 (o.map dN)) (s1 := bnS b k sp fs (some (.dat (dN j))) (some (.dk [])) (some (.own (T.map dN))) (some (.own (T'.map dN))) x10 x11 x12 x13 x14 m4)
        (fun i s => ∃ kvs x10 x11 x12 x13 x14, s = bnS b k sp fs (some (.dat (dN j))) (some (.dk kvs)) (some (.own (T.map dN))) (some (.own (T'.map dN))) x10 x11 x12 x13 x14 m4 ∧ (∀ y, x10 = some y → y.isDat = true) ∧ kvs.length ≤ i ∧ ∀ w, w < i → valD kvs (.inl ((A_ S T w : Nat) : Int)) = some (dN (A_ S' T' (o.getD w 0))))
        (by simp [bnS, iEnum0, dNet, dOs, dN, a0]; simp [dO, starD, dN]) ⟨[], x10, x11, x12, x13, x14, rfl, hx10, Nat.le_refl _, fun w hw => absurd hw (by omega)⟩ ?_ ?_)
      · rintro i d s hi ⟨kvs, x10, x11, x12, x13, x14, rfl, _, hkl, hkv⟩
        obtain ⟨y, hy, rfl⟩ := enum_at hi
        obtain ⟨p, hpo, rfl⟩ := map_at hy
        have hil : i < 2 * k := by rw [← hoP.len]; exact (List.getElem?_eq_some_iff.mp hpo).1
        have hpl : p < 2 * k := hoP.lt p (List.mem_of_getElem? hpo)
        have eo2 : o.getD i 0 = p := by rw [List.getD_eq_getElem?_getD, hpo]; rfl
        have gI : ∀ (l : List Nat) (z : Nat), z / 2 < l.length → atI (l.map dN) ((z : Int) / 2) = some (.int (l.getD (z / 2) 0 : Nat)) := fun l z hz => atI_dN (j := z / 2) (by omega) hz
        have gT : ∀ (l : List Nat) (z : Nat), z / 2 < l.length → gIx (dO l) (.int ((z : Int) / 2)) = some (.dat (.int (l.getD (z / 2) 0 : Nat))) := fun l z hz => by
          show (atI (l.map dN) _).map RV.dat = _
          rw [atI_dN (j := z / 2) (by omega) hz]
          rfl
        have b1 := gT S i (by rw [hS.len]; omega)
        have b2 := gI T i (by rw [hT]; omega)
        have b3 := gT S' p (by rw [hS'.len]; omega)
        have b4 := gI T' p (by rw [hT']; omega)
        have c1 : 2 * ((S.getD (i / 2) 0 : Nat) : Int) + ((i : Int) + (T.getD (i / 2) 0 : Nat)) % 2 = ((A_ S T i : Nat) : Int) := by unfold A_; omega
        have c3 : 2 * ((S'.getD (p / 2) 0 : Nat) : Int) + ((p : Int) + (T'.getD (p / 2) 0 : Nat)) % 2 = ((A_ S' T' p : Nat) : Int) := by unfold A_; omega
        generalize T'.getD (p / 2) 0 = t4 at b4 c3
        generalize S'.getD (p / 2) 0 = t3 at b3 c3
        generalize T.getD (i / 2) 0 = t2 at b2 c1
        generalize S.getD (i / 2) 0 = t1 at b1 c1
        have e4 : ∀ z : Nat, gMulT (.int 2) (.int (z : Int)) = some (.dat (.int (2 * (z : Int)))) := fun z => by simp [gMulT, gMul, mulOk]
        refine ⟨_, rfl, ?_⟩
        refine wp_step (s1 := bnS b k sp fs (some (.dat (dN j))) (some (.dk kvs)) (some (.own (T.map dN))) (some (.own (T'.map dN))) (some (.dat (.int i))) (some (.dat (dN p))) x12 (some (.dat (.int ((i : Int) / 2)))) (some (.dat (.int ((p : Int) / 2)))) m4) (by simp [bnS, dN]) ?_
        refine wp_step (s1 := bnS b k sp fs (some (.dat (dN j))) (some (.dk kvs)) (some (.own (T.map dN))) (some (.own (T'.map dN))) (some (.dat (.int i))) (some (.dat (dN p))) (some (.dat (.int (A_ S T i : Nat)))) (some (.dat (.int ((i : Int) / 2)))) (some (.dat (.int ((p : Int) / 2)))) m4) ?_ ?_
        · rw [← c1]
          simp [bnS, dN, a1, b1, b2, e4]
        refine wp_nx (s1 := bnS b k sp fs (some (.dat (dN j))) (some (.dk (putKD kvs (.inl ((A_ S T i : Nat) : Int)) (dN (A_ S' T' p))))) (some (.own (T.map dN))) (some (.own (T'.map dN))) (some (.dat (.int i))) (some (.dat (dN p))) (some (.dat (.int (A_ S T i : Nat)))) (some (.dat (.int ((i : Int) / 2)))) (some (.dat (.int ((p : Int) / 2)))) m4) ?_ ⟨_, _, _, _, _, _, rfl, (fun y z => by cases z; rfl), ?_, fun w hw => ?_⟩
        · have hkl2 : kvs.length < 1000000 := by omega
          simp only [dN]
          rw [← c3]
          generalize A_ S T i = ai
          simp [bnS, dN, a2, b3, b4, e4, hkl2]
        · have := putKD_len kvs (.inl ((A_ S T i : Nat) : Int)) (dN (A_ S' T' p))
          omega
        · rw [valD_put]
          by_cases hwi : w = i
          · subst hwi
            rw [if_pos rfl, eo2]
          · have hne : ¬ A_ S T i = A_ S T w := fun z => hwi (A_inj hS (by omega) (by omega) z.symm)
            have hne2 : ¬ (Sum.inl ((A_ S T i : Nat) : Int) : Key) = Sum.inl ((A_ S T w : Nat) : Int) := fun z => hne (by injection z with z; omega)
            rw [if_neg hne2]
            exact hkv w (by omega)
      · rintro s ⟨kvs, x10, x11, x12, x13, x14, rfl, hx10', hkl, hkv⟩
        rw [enumD_len, List.length_map, hoP.len] at hkv
        have hval : ∀ x, x < 2 * k → ∃ v, valD kvs (.inl ((x : Nat) : Int)) = some (dN v) := fun x hx => by
          obtain ⟨w, hw, rfl⟩ := A_surj (T := T) hS hx
          exact ⟨_, hkv w hw⟩
        obtain ⟨vf, hvf⟩ : ∃ vf : Nat → Nat, ∀ x, x < 2 * k → valD kvs (.inl ((x : Nat) : Int)) = some (dN (vf x)) :=
          ⟨fun x => if hx : x < 2 * k then (hval x hx).choose else 0, fun x hx => by simp only [dif_pos hx]; exact (hval x hx).choose_spec⟩
        have mk2 : gMulT (.int 2) (.int (k : Int)) = some (.dat (.int ((2 * k : Nat) : Int))) := by simp [gMulT, gMul, mulOk]
        have lc : dLc [10] (VL.iRng1 (dOp gMulT (dC (.int 2)) (dVar 6))) (VL.gN 10) tdYes (dFrz (dGetK 7 (dVar 10))) (bnS b k sp fs (some (.dat (dN j))) (some (.dk kvs)) (some (.own (T.map dN))) (some (.own (T'.map dN))) x10 x11 x12 x13 x14 m4)
            = .ok (.tmp (((List.range (2 * k)).map vf).map dN)) (bnS b k sp fs (some (.dat (dN j))) (some (.dk kvs)) (some (.own (T.map dN))) (some (.own (T'.map dN))) x10 x11 x12 x13 x14 m4) := by
          rw [List.map_map]
          refine lc_map (l := List.range (2 * k)) (en := dN) (fun x => dN (vf x)) (bnS b k sp fs (some (.dat (dN j))) (some (.dk kvs)) (some (.own (T.map dN))) (some (.own (T'.map dN))) none x11 x12 x13 x14 m4) (iRng_ok (by simp [bnS, mk2]) (by omega)) rfl rfl ?_ (by simp; omega) (fun x hx => ?_)
          · cases x10 with
            | none => rfl
            | some y =>
              have := hx10' y rfl
              simp [noOwn, bnS, this]
          · have q := hvf x (List.mem_range.mp hx)
            exact ⟨_, ⟨(bnS b k sp fs (some (.dat (dN j))) (some (.dk kvs)) (some (.own (T.map dN))) (some (.own (T'.map dN))) none x11 x12 x13 x14 m4).g.set 10 (some (.dat (dN x))), m4⟩, rfl, by simp only [dN] at q; simp [bnS, dN, q], rfl⟩
        have hFw : ∀ w, w < 2 * k → ((List.range (2 * k)).map vf)[A_ S T w]? = some (A_ S' T' (o.getD w 0)) := (fun w hw => by
          have hA := A_lt (T := T) hS hw
          rw [List.getElem?_map, List.getElem?_range hA]
          have q1 := hvf _ hA
          rw [hkv w hw] at q1
          have q2 : ((A_ S' T' (o.getD w 0) : Nat) : Int) = ((vf (A_ S T w) : Nat) : Int) := by
            have q3 := Option.some.inj q1
            unfold dN at q3
            injection q3
          have q4 : vf (A_ S T w) = A_ S' T' (o.getD w 0) := by omega
          show some (vf (A_ S T w)) = _
          rw [q4])
        have hF : IsP (2 * k) ((List.range (2 * k)).map vf) := fresh_isP (T := T) (T' := T') hS hS' hoP (by simp) hFw
        generalize (List.range (2 * k)).map vf = F at hF lc hFw
        refine wp_nx (s1 := bnS b k sp (fs ++ [F]) (some (.dat (dN j))) (some (.dk kvs)) (some (.own (T.map dN))) (some (.own (T'.map dN))) x10 x11 x12 x13 x14 m4) ?_ ⟨_, _, _, _, _, _, _, _, _, _, m4, rfl, hx10', by simp [hfl], fun q hq => ?_, fun r hr => ?_, hg4⟩
        · have hf2 : fs.length < 1000000 := by omega
          have own1 : ∀ m4, ownAt (bnS b k sp fs (some (.dat (dN j))) (some (.dk kvs)) (some (.own (T.map dN))) (some (.own (T'.map dN))) x10 x11 x12 x13 x14 m4) 3 = some (fs.map dO) := fun _ => rfl
          simp only [sApp, own1, dFrz, dCall, daCons, daNil, lc, e_bind_ok, e_finN, e_resAll_cons, e_res_tmp, e_resAll_nil, e_gTuple_list, e_frz_dat, e_toS_ok, List.length_map, hf2, if_true]
          simp [bnS, dO]
        · rcases List.mem_append.mp hq with hq | hq
          · exact hf q hq
          · rw [List.mem_singleton.mp hq]; exact hF
        · by_cases hrj : r = j
          · refine ⟨T, T', fun w hw => ?_⟩
            have e1 : (fs ++ [F]).getD r [] = F := by
              rw [List.getD_eq_getElem?_getD, List.getElem?_append_right (by omega), hrj, hfl]
              simp
            rw [e1, hrj, eS, eS', eo, List.getD_eq_getElem?_getD, hFw w hw]
            rfl
          · obtain ⟨T0, T0', h0⟩ := hRn r (by omega)
            refine ⟨T0, T0', fun w hw => ?_⟩
            have e1 : (fs ++ [F]).getD r [] = fs.getD r [] := by
              rw [List.getD_eq_getElem?_getD, List.getElem?_append_left (by omega), List.getD_eq_getElem?_getD]
            rw [e1]
            exact h0 w hw
    · rintro s ⟨fs, x4, x7, x8, x9, x10, x11, x12, x13, x14, m2, rfl, _, hfl, hf, hRn, hg2⟩
      rw [List.length_map, List.length_range] at hfl hg2 hRn
      have hban : Ban b fs := Ren.ban h2k ⟨by rw [hfl, hrl], by rw [hspl, hrl]; omega, hsp, fun r hr => hRn r (by omega)⟩ (by rw [h2k]; exact hV.ok) (plain_ban h1 h4)
      refine wp_ret (we_ok (a := dNet b fs) (s1 := bnS b k sp fs x4 x7 x8 x9 x10 x11 x12 x13 x14 m2) ?_ ⟨fs, rfl, ⟨h1, h4, by omega, by rw [← h2k]; exact hf⟩, hfl, hban, hg2.less (by omega)⟩)
      simp [bnS, dNet, dOs])
  exact ⟨os, m', e, hv, hl, hbn, hg'⟩
theorem q_ringed_ok : fn_q_ringed [] = .ok (dNet 3 ringB) := by kernel_rfl
theorem q_ways_ok {b i : Nat} {os : List (List Nat)} (h : VNet b os) (hi : i < 2 ^ b) : fn_q_ways [dNet b os, .int i] = .ok (.list ((sortN (allW os i os.length)).map dO)) := by
  have hrows := h.rows
  have h16 := pow16 h.b4
  have hlen : ∀ k, k ≤ os.length → (allW os i k).length ≤ 128 := fun k hk => by
    rw [allW_len]
    have : 2 ^ (k + 1) ≤ 2 ^ 7 := Nat.pow_le_pow_right (by decide) (by omega)
    exact this
  have m2 : ∀ z : Nat, gMulT (.int 2) (.int ((z : Int) / 2)) = some (.dat (.int (fstW z : Nat))) := fun z => by
    have e : 2 * ((z : Int) / 2) = ((fstW z : Nat) : Int) := by unfold fstW; omega
    simp [gMulT, gMul, mulOk, e]
  refine fn_wp ?_
  unfold den_q_ways
  refine wp_step (s1 := qwS b os i none none none none none) (by simp [qwS, m2]) ?_
  refine wp_step (s1 := qwS b os i (some (.own ((allW os i 0).map dO))) none none none none) (by simp [qwS, allW, dO, dN]) ?_
  refine wp_seq (wp_for (ds := os.map dO) (s1 := qwS b os i (some (.own ((allW os i 0).map dO))) none none none none) (fun j s => ∃ x3 x4 x5 x6 x7, s = qwS b os i x3 x4 x5 x6 x7 ∧ isL x3 ((allW os i j).map dO)) (by simp [qwS, iSeq, dNet, dOs, asSeq, starD]) ⟨_, _, _, _, _, rfl, .inl rfl⟩ ?_ ?_)
  · rintro j d s hj ⟨x3, x4, x5, x6, x7, rfl, hx3⟩
    obtain ⟨o, ho, rfl⟩ := map_at hj
    have hjl : j < os.length := (List.getElem?_eq_some_iff.mp ho).1
    have eo : os.getD j [] = o := by rw [List.getD_eq_getElem?_getD, ho]; rfl
    have hoP := h.ok o (List.mem_of_getElem? ho)
    have hW := ways_lt h hi (Nat.le_of_lt hjl)
    refine ⟨_, rfl, ?_⟩
    refine wp_step (s1 := qwS b os i x3 (some (.dat (dO o))) (some (.own [])) x6 x7) (by simp [qwS]) ?_
    refine wp_seq (wp_for (ds := (allW os i j).map dO) (s1 := qwS b os i (some (.dat (.list ((allW os i j).map dO)))) (some (.dat (dO o))) (some (.own [])) x6 x7)
      (fun k s => ∃ x6 x7, s = qwS b os i (some (.dat (.list ((allW os i j).map dO)))) (some (.dat (dO o))) (some (.own ((((allW os i j).take k).flatMap fun way => (nextW os j (lastW way)).map fun w => way ++ [w]).map dO))) x6 x7) ?_ ⟨x6, x7, rfl⟩ ?_ ?_)
    · rcases hx3 with rfl | rfl
      · simp [qwS, iSeq, asSeq, starD]
      · simp [qwS, iSeq, asSeq, starD]
    · rintro k d s hk ⟨x6, x7, rfl⟩
      obtain ⟨way, hway, rfl⟩ := map_at hk
      have w := hW way (List.mem_of_getElem? hway)
      have hkl : k < (allW os i j).length := (List.getElem?_eq_some_iff.mp hway).1
      have hll := hlen j (Nat.le_of_lt hjl)
      have gl := gIx_last w.len
      have g1 := gIx_dO (o := o) (r := lastW way) (by rw [hoP.len]; exact w.last)
      refine ⟨_, rfl, ?_⟩
      refine wp_step (s1 := qwS b os i (some (.dat (.list ((allW os i j).map dO)))) (some (.dat (dO o))) (some (.own ((((allW os i j).take k).flatMap fun way => (nextW os j (lastW way)).map fun w => way ++ [w]).map dO))) (some (.dat (dO way))) (some (.dat (.int (fstW (o.getD (lastW way) 0) : Nat))))) ?_ ?_
      · generalize lastW way = y at gl g1
        generalize o.getD y 0 = z at g1
        simp [qwS, gl, g1, m2]
      have en : nextW os j (lastW way) = [fstW (o.getD (lastW way) 0), fstW (o.getD (lastW way) 0) + 1] := by
        unfold nextW
        rw [eo]
      refine wp_nx (s1 := qwS b os i (some (.dat (.list ((allW os i j).map dO)))) (some (.dat (dO o))) (some (.own ((((allW os i j).take (k + 1)).flatMap fun way => (nextW os j (lastW way)).map fun w => way ++ [w]).map dO))) (some (.dat (dO way))) (some (.dat (.int (fstW (o.getD (lastW way) 0) : Nat))))) ?_ ⟨_, _, rfl⟩
      rw [List.take_add_one, hway, List.flatMap_append, List.map_append]
      have e2 : ((some way).toList.flatMap fun way => (nextW os j (lastW way)).map fun w => way ++ [w]).map dO = [dO (way ++ [fstW (o.getD (lastW way) 0)]), dO (way ++ [fstW (o.getD (lastW way) 0) + 1])] := by
        simp only [Option.toList_some, List.flatMap_cons, List.flatMap_nil, List.append_nil, en, List.map_cons, List.map_nil]
      rw [e2]
      have hq : ((((allW os i j).take k).flatMap fun way => (nextW os j (lastW way)).map fun w => way ++ [w]).map dO).length + 2 ≤ 16777216 := by
        rw [List.length_map, List.length_flatMap]
        have : (fun way : List Nat => ((nextW os j (lastW way)).map fun w => way ++ [w]).length) = fun _ => 2 := by funext way; simp [nextW]
        rw [this, List.map_const', List.sum_replicate_nat, List.length_take]
        have := Nat.min_le_left k (allW os i j).length
        omega
      generalize (((allW os i j).take k).flatMap fun way => (nextW os j (lastW way)).map fun w => way ++ [w]).map dO = acc at hq
      generalize fstW (o.getD (lastW way) 0) = f
      have hl : way.length + 1 ≤ 16777216 := by have := w.len; omega
      simp [qwS, dO, hl, hq, dN]
    · rintro s ⟨x6, x7, rfl⟩
      rw [List.length_map, List.take_length]
      refine wp_nx (s1 := qwS b os i (some (.dat (.list ((allW os i (j + 1)).map dO)))) (some (.dat (dO o))) (some (.dat (.list ((allW os i (j + 1)).map dO)))) x6 x7) ?_ ⟨_, _, _, _, _, rfl, .inr rfl⟩
      show sSet 3 (dVar 5) (qwS b os i (some (.dat (.list ((allW os i j).map dO)))) (some (.dat (dO o))) (some (.own ((allW os i (j + 1)).map dO))) x6 x7) = _
      simp [qwS]
  · rintro s ⟨x3, x4, x5, x6, x7, rfl, hx3⟩
    rw [List.length_map] at hx3
    have hW := ways_lt h hi (Nat.le_refl _)
    have so : sortOk ((allW os i os.length).map dO) = true := sortOk_dO (fun w hw => by
      have q := hW w hw
      have := q.len
      exact ⟨(fun z => by rw [z] at this; simp at this), fun x hx => by have := q.lt x hx; omega, by omega⟩) (by have := hlen _ (Nat.le_refl os.length); omega)
    have gs : gSorted [.list ((allW os i os.length).map dO)] = some (.tmp ((sortN (allW os i os.length)).map dO)) := by
      rw [sortN_map]
      show (if sortOk _ = true then _ else _) = _
      rw [if_pos so]
    refine wp_ret (we_ok (s1 := qwS b os i x3 x4 x5 x6 x7) ?_ rfl)
    rcases hx3 with rfl | rfl
    · simp [-List.map_map, qwS, gs]
    · simp [-List.map_map, qwS, gs]
theorem q_apart_ok {way : List Nat} {ws : List (List Nat)} (h : ∀ o ∈ ws, way.length = o.length) (hl : way.length ≤ 1000) (hws : ws.length ≤ 100) : fn_q_apart [dO way, .list (ws.map dO)] = .ok (.bool (apart way ws)) := by
  have lc1 : ∀ o ∈ ws, dLc [3, 4] (iZip0 (ddCons (dFrz (dVar 0)) (ddCons (dFrz (dVar 2)) ddNil))) (gTup0 2 (gCons0 (VL.gN 3) (gCons0 (VL.gN 4) gNil0))) (dTest (dOp gEq (dVar 3) (dVar 4))) (dFrz (dC (.int 1))) (qaS way ws (some (.dat (dO o))))
      = .ok (.tmp (((List.range way.length).filter fun r => way.getD r 0 == o.getD r 0).map fun _ => PyData.int 1)) (qaS way ws (some (.dat (dO o)))) := fun o ho => by
    refine lc_fil (l := List.range way.length) (en := fun r => PyData.tuple [dN (way.getD r 0), dN (o.getD r 0)]) (fun _ => PyData.int 1) (fun r => way.getD r 0 == o.getD r 0) (qaS way ws (some (.dat (dO o)))) ?_ rfl rfl rfl (by simp; omega) ?_
    · rw [← zip_range way o (h o ho)]
      simp [qaS, iZip0, dO]
    · intro r hr
      generalize way.getD r 0 = x
      generalize o.getD r 0 = y
      refine ⟨_, ⟨((qaS way ws (some (.dat (dO o)))).g.set 3 (some (.dat (dN x)))).set 4 (some (.dat (dN y))), m0⟩, ⟨((qaS way ws (some (.dat (dO o)))).g.set 3 (some (.dat (dN x)))).set 4 (some (.dat (dN y))), m0⟩, rfl, ?_, rfl, fun _ => ⟨rfl, rfl⟩⟩
      by_cases hxy : x = y
      · simp [qaS, dN, hxy]
      · have : ¬ (x : Int) = y := by omega
        simp [qaS, dN, hxy, this]
  have lc2 : dLc [2] (iSeq (dFrz (dVar 1))) (VL.gN 2) (dTest (dOp gNe (dLc [3, 4] (iZip0 (ddCons (dFrz (dVar 0)) (ddCons (dFrz (dVar 2)) ddNil))) (gTup0 2 (gCons0 (VL.gN 3) (gCons0 (VL.gN 4) gNil0))) (dTest (dOp gEq (dVar 3) (dVar 4))) (dFrz (dC (.int 1)))) (dLst ddNil))) (dFrz (dC (.int 1))) (qaS way ws none)
      = .ok (.tmp ((ws.filter fun o => !((List.range way.length).filter fun r => way.getD r 0 == o.getD r 0).isEmpty).map fun _ => PyData.int 1)) (qaS way ws none) := by
    refine lc_fil (l := ws) (en := dO) (fun _ => PyData.int 1) (fun o => !((List.range way.length).filter fun r => way.getD r 0 == o.getD r 0).isEmpty) (qaS way ws none) (by simp [qaS, iSeq, asSeq, starD]) rfl rfl rfl (by omega) ?_
    intro o ho
    refine ⟨_, qaS way ws (some (.dat (dO o))), qaS way ws (some (.dat (dO o))), rfl, ?_, rfl, fun _ => ⟨rfl, rfl⟩⟩
    have n1 := gNe_nil (ones_shaped ((List.range way.length).filter fun r => way.getD r 0 == o.getD r 0))
    rw [List.isEmpty_map] at n1
    have q := lc1 o ho
    generalize ((List.range way.length).filter fun r => way.getD r 0 == o.getD r 0) = A at n1 q
    show dTest (dOp gNe _ _) (qaS way ws (some (.dat (dO o)))) = _
    simp only [dTest, dOp, q, e_bind_ok, e_lst, e_ddNil, List.length_nil, Nat.zero_le, if_true, e_fin2, e_res_tmp, n1, e_bl_, e_asB, e_res_dat]
  have n2 := gEq_nil (ones_shaped (ws.filter fun o => !((List.range way.length).filter fun r => way.getD r 0 == o.getD r 0).isEmpty))
  have e0 : startS 5 [dO way, PyData.list (ws.map dO)] = qaS way ws none := rfl
  have e3 : ((ws.filter fun o => !((List.range way.length).filter fun r => way.getD r 0 == o.getD r 0).isEmpty).map fun _ => PyData.int 1).isEmpty = apart way ws := by
    rw [List.isEmpty_map]
    unfold apart
    rw [Bool.eq_iff_iff, List.isEmpty_iff, List.filter_eq_nil_iff, List.all_eq_true]
    refine forall_congr' fun o => forall_congr' fun ho => ?_
    simp
  rw [e3] at n2
  refine fn_wp ?_
  unfold den_q_apart
  rw [e0]
  refine wp_ret (we_ok (s1 := qaS way ws none) ?_ rfl)
  simp only [dFrz, dOp, lc2, e_bind_ok, e_lst, e_ddNil, List.length_nil, Nat.zero_le, if_true, e_fin2, e_res_tmp, n2, e_bl_, e_frz_dat]
def dmS (b : Nat) (os : List (List Nat)) (t : Nat) (cs : List (Nat × Nat)) (x3 x6 x7 : Option VB) (m : DS) : Sx := ⟨[some .drw, some (.dat (dNet b os)), some (.dat (.int t)), x3, some (.dk (kvP cs)), some (.dk (kvP (cs.map flipP))), x6, x7], m⟩
theorem q_demands_ok {B b t : Nat} {os : List (List Nat)} {m : DS} (h : VNet b os) (ht : t ≤ 100) (hg : Good (B + t * 2) m) : ∃ ds m', fn_q_demands m [dNet b os, .int t] = .ok (dDem ds) m' ∧ VDem (2 ^ b) ds ∧ Good B m' := by
  have h16 := pow16 h.b4
  have hpos : 0 < 2 ^ b := Nat.pow_pos (by decide)
  have hsh : gShl (.int 1) (.int (b : Int)) = some (.dat (.int ((2 ^ b : Nat) : Int))) := by
    have h1 : (b : Int) ≤ 1000 := by have := h.b4; omega
    simp [h1]
  have g0 : gIx (dNet b os) (.int 0) = some (.dat (.int b)) := by simp [dNet]
  obtain ⟨n, en⟩ : ∃ n, n = 2 ^ b := ⟨_, rfl⟩
  rw [← en] at hsh hpos h16 ⊢
  obtain ⟨d, m', e, st, rfl, hv, hg'⟩ := fnM_wp (n := 8) (den := den_q_demands) (m := m) (ds := [dNet b os, .int t]) (P := fun d m' => ∃ ds, d = dDem ds ∧ VDem n ds ∧ Good B m') (by
    unfold den_q_demands
    refine wp_step (s1 := dmS b os t [] none none none m) (by simp [dmS, kvP, norm, putD]) ?_
    refine wp_seq (wp_for (ds := (List.range t).map dN) (s1 := dmS b os t [] none none none m) (fun j s => ∃ cs x3 x6 x7 m, s = dmS b os t cs x3 x6 x7 m ∧ PreDem n cs ∧ Good (B + (t - j) * 2) m) (iRng_ok rfl (by omega)) ⟨[], none, none, none, m, rfl, ⟨(fun c h => by cases h), List.nodup_nil, List.nodup_nil⟩, hg.less (by omega)⟩ ?_ ?_)
    · rintro j d s hj ⟨cs, x3, x6, x7, m1, rfl, hcs, hg1⟩
      have hjt : j < t := by have := (List.getElem?_eq_some_iff.mp hj).1; simpa using this
      have hcl := hcs.len
      obtain ⟨i, m2, e2, hi2, hg2⟩ := drawQ (B := B + (t - (j + 1)) * 2 + 1) (L := ((n : Nat) : Int)) (hg1.less (by omega)) (by omega) (by omega)
      obtain ⟨k, m3, e3, hk2, hg3⟩ := drawQ (B := B + (t - (j + 1)) * 2) (L := ((n : Nat) : Int)) hg2 (by omega) (by omega)
      refine ⟨_, rfl, ?_⟩
      refine wp_step (s1 := dmS b os t cs (some (.dat d)) (some (.dat (.int i))) (some (.dat (.int k))) m3) (by simp [-e_gShl, dmS, g0, hsh, e2, e3]) ?_
      cases q1 : (cs.map (·.1)).contains i with
      | true =>
        have hin := kvP_val cs i
        rw [q1] at hin
        obtain ⟨v, hv⟩ := Option.isSome_iff_exists.mp hin
        exact wp_ifF (s1 := dmS b os t cs (some (.dat d)) (some (.dat (.int i))) (some (.dat (.int k))) m3) (by simp [dmS, hv]) (.nx ⟨cs, _, _, _, m3, rfl, hcs, hg3⟩)
      | false =>
        have hn := kvP_none q1
        have q0 : ((cs.map flipP).map (·.1)) = cs.map (·.2) := by simp [flipP, Function.comp_def]
        cases q2 : ((cs.map flipP).map (·.1)).contains k with
        | true =>
          have hin := kvP_val (cs.map flipP) k
          rw [q2] at hin
          obtain ⟨v, hv⟩ := Option.isSome_iff_exists.mp hin
          exact wp_ifF (s1 := dmS b os t cs (some (.dat d)) (some (.dat (.int i))) (some (.dat (.int k))) m3) (by simp [dmS, hv, hn]) (.nx ⟨cs, _, _, _, m3, rfl, hcs, hg3⟩)
        | false =>
          have hn2 := kvP_none q2
          refine wp_ifT (s1 := dmS b os t cs (some (.dat d)) (some (.dat (.int i))) (some (.dat (.int k))) m3) (by simp [dmS, hn2, hn]) ?_
          have hp := kvP_put cs (i, k) q1
          have hp2 := kvP_put (cs.map flipP) (k, i) q2
          have hl : (kvP cs).length < 1000000 := by simp [kvP]; omega
          have hl2 : (kvP (cs.map flipP)).length < 1000000 := by simp [kvP]; omega
          refine wp_nx (s1 := dmS b os t (cs ++ [(i, k)]) (some (.dat d)) (some (.dat (.int i))) (some (.dat (.int k))) m3) ?_ ⟨_, _, _, _, m3, rfl, ⟨fun c hc => ?_, ?_, ?_⟩, hg3⟩
          · simp only [List.map_append, List.map_cons, List.map_nil, flipP] at hp hp2 ⊢
            simp [dmS, hl, hl2, hp, hp2, flipP]
          · rcases List.mem_append.mp hc with hc | hc
            · exact hcs.lt c hc
            · rw [List.mem_singleton.mp hc]
              exact ⟨by omega, by omega⟩
          · rw [List.map_append]
            refine List.nodup_append.mpr ⟨hcs.n1, by simp, fun a ha c hc z => ?_⟩
            rw [List.map_cons, List.map_nil, List.mem_singleton] at hc
            subst hc z
            have : (cs.map (·.1)).contains a = true := by simpa using ha
            rw [this] at q1
            cases q1
          · rw [List.map_append]
            refine List.nodup_append.mpr ⟨hcs.n2, by simp, fun a ha c hc z => ?_⟩
            rw [List.map_cons, List.map_nil, List.mem_singleton] at hc
            subst hc z
            have : ((cs.map flipP).map (·.1)).contains a = true := by rw [q0]; simpa using ha
            rw [this] at q2
            cases q2
    · rintro s ⟨cs, x3, x6, x7, m1, rfl, hcs, hg1⟩
      rw [List.length_map, List.length_range] at hg1
      have hcl := hcs.len
      have so : sortOk (cs.map dPr) = true := sortOk_prs (fun p hp => by have := hcs.lt p hp; omega) (by omega)
      have it : (kvP cs).map (fun kv => PyData.tuple [keyD kv.1, kv.2]) = cs.map dPr := by
        simp [kvP, Function.comp_def, keyD, dPr]
      refine wp_ret (we_ok (a := dDem (sortB dPr cs)) (s1 := dmS b os t cs x3 x6 x7 m1) ?_ ⟨_, rfl, hcs.sort, hg1.less (by omega)⟩)
      have sm := sortB_map dPr cs
      simp [dmS, it, gSorted, so, dDem, sm])
  exact ⟨st, m', e, hv, hg'⟩
def paS (b : Nat) (os : List (List Nat)) (ds : List (Nat × Nat)) (x2 x3 x4 x5 : Option VB) : Sx := ⟨[some (.dat (dNet b os)), some (.dat (dDem ds)), x2, x3, x4, x5, none], m0⟩
theorem q_passes_ok {b : Nat} {os : List (List Nat)} {ds : List (Nat × Nat)} (h : VNet b os) (hb : Ban b os) (hd : VDem (2 ^ b) ds) : fn_q_passes [dNet b os, dDem ds] = .ok (.bool (passB os ds)) := by
  have h16 := pow16 h.b4
  have hrows := h.rows
  have hdl := hd.len
  refine fn_wp ?_
  unfold den_q_passes
  refine wp_step (s1 := paS b os ds (some (.own [])) none none none) (by simp [paS]) ?_
  have wl : ∀ p, p ∈ ds → (wayP os p).length = os.length + 1 := fun p hp => (hb.isW h (hd.lt p hp).1 (hd.lt p hp).2).len
  have gd : ∀ j, j < ds.length → ds[j]? = some (ds.getD j (0, 0)) := fun j hj => by rw [List.getD_eq_getElem?_getD, List.getElem?_eq_getElem hj]; rfl
  refine wp_seq (wp_for (ds := ds.map dPr) (s1 := paS b os ds (some (.own [])) none none none)
    (fun j s => (∀ k, k < j → failAt os ds k = none) ∧ ∃ x2 x3 x4 x5, s = paS b os ds x2 x3 x4 x5 ∧ x2 = some (.own (((ds.take j).map (wayP os)).map dO))) (by simp [paS, dDem]) ⟨fun k hk => absurd hk (by omega), _, _, _, _, rfl, rfl⟩ ?_ ?_)
  · rintro j d s hj ⟨hf, x2, x3, x4, x5, rfl, hx2⟩
    obtain ⟨p, hp, rfl⟩ := map_at hj
    have hjl := (List.getElem?_eq_some_iff.mp hp).1
    have hpm := List.mem_of_getElem? hp
    have hpl := hd.lt p hpm
    have ep : ds.getD j (0, 0) = p := by rw [List.getD_eq_getElem?_getD, hp]; rfl
    refine ⟨_, rfl, ?_⟩
    have hq := q_ways_ok h hpl.1
    have hWs := ways_lt h hpl.1 (Nat.le_refl _)
    have hone : (sortN (allW os p.1 os.length)).filter (fun w => lastW w == p.2) = [wayP os p] := by
      have pm : ((sortN (allW os p.1 os.length)).filter (fun w => lastW w == p.2)).Perm (waysTo os p.1 p.2) := (sortN_perm _).filter _
      rw [hb.one hpl.1 hpl.2] at pm
      exact List.perm_singleton.mp pm
    have hal : (sortN (allW os p.1 os.length)).length ≤ 128 := by
      rw [(sortN_perm _).length_eq, allW_len]
      have : 2 ^ (os.length + 1) ≤ 2 ^ 7 := Nat.pow_le_pow_right (by decide) (by omega)
      exact this
    have lc : dLc [6] (iSeq (dFrz (dCallF fn_q_ways (ddCons (dFrz (dVar 0)) (ddCons (dFrz (dVar 3)) ddNil))))) (VL.gN 6) (dTest (dOp gEq (dOp gIx (dVar 6) (dUn gNeg (dC (.int 1)))) (dVar 4))) (dFrz (dVar 6)) (paS b os ds x2 (some (.dat (.int p.1))) (some (.dat (.int p.2))) x5)
        = .ok (.tmp [dO (wayP os p)]) (paS b os ds x2 (some (.dat (.int p.1))) (some (.dat (.int p.2))) x5) := by
      have := lc_fil (l := sortN (allW os p.1 os.length)) (en := dO) (it := iSeq (dFrz (dCallF fn_q_ways (ddCons (dFrz (dVar 0)) (ddCons (dFrz (dVar 3)) ddNil))))) (tgt := VL.gN 6) (test := dTest (dOp gEq (dOp gIx (dVar 6) (dUn gNeg (dC (.int 1)))) (dVar 4))) (elt := dFrz (dVar 6)) (vs := [6]) (s := paS b os ds x2 (some (.dat (.int p.1))) (some (.dat (.int p.2))) x5) (s1 := paS b os ds x2 (some (.dat (.int p.1))) (some (.dat (.int p.2))) x5) dO (fun w => lastW w == p.2) (paS b os ds x2 (some (.dat (.int p.1))) (some (.dat (.int p.2))) x5) (by simp [paS, hq]) rfl rfl rfl (by omega) (fun w hw => by
        have a2 := gIx_last (hWs w ((sortN_perm _).mem_iff.mp hw)).len
        refine ⟨_, ⟨(paS b os ds x2 (some (.dat (.int p.1))) (some (.dat (.int p.2))) x5).g.set 6 (some (.dat (dO w))), m0⟩, ⟨(paS b os ds x2 (some (.dat (.int p.1))) (some (.dat (.int p.2))) x5).g.set 6 (some (.dat (dO w))), m0⟩, rfl, ?_, rfl, fun _ => ⟨by simp [paS], rfl⟩⟩
        simp only [e_test, e_op, e_var, e_un, e_c, e_fin1, e_gNeg, a2, e_bind_ok, e_fin2, e_res_dat, paS]
        simp [gEq_int, a2]
        by_cases hy : lastW w = p.2
        · simp [hy]
        · have : ¬ (lastW w : Int) = p.2 := by omega
          simp [hy, this])
      rw [hone] at this
      exact this
    refine wp_step (s1 := paS b os ds x2 (some (.dat (.int p.1))) (some (.dat (.int p.2))) (some (.dat (dO (wayP os p))))) ?_ ?_
    · show sSet 5 _ (paS b os ds x2 (some (.dat (.int p.1))) (some (.dat (.int p.2))) x5) = _
      have a0 : atI [dO (wayP os p)] 0 = some (dO (wayP os p)) := rfl
      rw [sSet, e_op, lc]
      simp [paS, a0]
    · subst hx2
      have ha := q_apart_ok (way := wayP os p) (ws := (ds.take j).map (wayP os)) (fun o ho => by
        obtain ⟨c, hc, rfl⟩ := List.mem_map.mp ho
        rw [wl p hpm, wl c (List.mem_of_mem_take hc)]) (by rw [wl p hpm]; omega) (by rw [List.length_map, List.length_take]; omega)
      have hfj : failAt os ds j = if apart (wayP os p) ((ds.take j).map (wayP os)) = true then none else some () := by unfold failAt; rw [ep]
      have et : (tdNot (dTest (dCallN fn_q_apart (daCons (dVar 5) (daCons (dVar 2) daNil))))) (paS b os ds (some (.own (((ds.take j).map (wayP os)).map dO))) (some (.dat (.int p.1))) (some (.dat (.int p.2))) (some (.dat (dO (wayP os p))))) = .ok (!apart (wayP os p) ((ds.take j).map (wayP os))) (paS b os ds (some (.own (((ds.take j).map (wayP os)).map dO))) (some (.dat (.int p.1))) (some (.dat (.int p.2))) (some (.dat (dO (wayP os p))))) := by
        simp [-List.map_map, -List.map_take, paS, ha]
      cases q : apart (wayP os p) ((ds.take j).map (wayP os)) with
      | false =>
        rw [q] at et hfj
        refine wp_seq (wp_ifT et (wp_ret (we_ok (a := .bool false) rfl ?_)))
        unfold passB
        cases z : (List.range ds.length).findSome? (failAt os ds) with
        | some y => rfl
        | none =>
          have := List.findSome?_eq_none_iff.mp z j (List.mem_range.mpr hjl)
          rw [hfj] at this
          cases this
      | true =>
        rw [q] at et hfj
        refine wp_step (s1 := paS b os ds (some (.own (((ds.take j).map (wayP os)).map dO))) (some (.dat (.int p.1))) (some (.dat (.int p.2))) (some (.dat (dO (wayP os p))))) (by rw [e_if, et]; rfl) ?_
        have hl : (((ds.take j).map (wayP os)).map dO).length < 1000000 := by rw [List.length_map, List.length_map, List.length_take]; omega
        refine wp_nx (s1 := paS b os ds (some (.own (((ds.take (j + 1)).map (wayP os)).map dO))) (some (.dat (.int p.1))) (some (.dat (.int p.2))) (some (.dat (dO (wayP os p))))) ?_ ⟨fun k hk => ?_, _, _, _, _, rfl, rfl⟩
        · have e1 : ((ds.take (j + 1)).map (wayP os)).map dO = ((ds.take j).map (wayP os)).map dO ++ [dO (wayP os p)] := by
            rw [List.take_add_one, hp]
            simp
          rw [e1]
          generalize ((ds.take j).map (wayP os)).map dO = l at hl
          simp [paS, hl]
        · by_cases hk2 : k = j
          · subst hk2
            rw [hfj]
            rfl
          · exact hf k (by omega)
  · rintro s ⟨hf, x2, x3, x4, x5, rfl, hx2⟩
    refine wp_ret (we_ok (a := .bool true) rfl ?_)
    rw [List.length_map] at hf
    unfold passB
    rw [List.findSome?_eq_none_iff.mpr (fun k hk => hf k (List.mem_range.mp hk))]
    rfl
end G

namespace G
open PySem PySem.Spec PyProof.Rows L2 VL
theorem does_pass_by_ok {b : Nat} {os : List (List Nat)} {ps ds : List (Nat × Nat)} (h : VNet b os) (hb : Ban b os) (hp : IsTab (2 ^ b) ps) (hd : VDem (2 ^ b) ds) : fn_does_pass_by [tabD os ps, dDem ds] = .ok (.bool (passB os ds)) := by
  have h16 := pow16 h.b4
  have hrows := h.rows
  have hdl := hd.len
  have lc : dLc [2] (iSeq (dFrz (dVar 1))) (VL.gN 2) tdYes (dFrz (dOp gDGet (dVar 0) (dVar 2))) ⟨[some (.dat (tabD os ps)), some (.dat (dDem ds)), none], m0⟩
      = .ok (.tmp (ds.map fun p => dO (wayP os p))) ⟨[some (.dat (tabD os ps)), some (.dat (dDem ds)), none], m0⟩ := by
    refine lc_map (l := ds) (en := dPr) (fun p => dO (wayP os p)) ⟨[some (.dat (tabD os ps)), some (.dat (dDem ds)), none], m0⟩ (by simp [dDem]) rfl rfl rfl (by omega) (fun p hpm => ?_)
    have hpl := hd.lt p hpm
    have t1 := tab_get (os := os) hp hpl.1 hpl.2
    exact ⟨_, ⟨[some (.dat (tabD os ps)), some (.dat (dDem ds)), some (.dat (dPr p))], m0⟩, rfl, by simp [t1, wayP], rfl⟩
  have k1 := do_keep_apart_ok (k := os.length + 1) (ws := ds.map (wayP os)) (fun o ho => by
    obtain ⟨p, hp2, rfl⟩ := List.mem_map.mp ho
    exact (hb.isW h (hd.lt p hp2).1 (hd.lt p hp2).2).len) (by omega) (by rw [List.length_map]; omega)
  rw [keepB_pass, List.map_map] at k1
  refine fn_wp ?_
  unfold den_does_pass_by
  refine wp_ret (we_ok (a := .bool (passB os ds)) (s1 := ⟨[some (.dat (tabD os ps)), some (.dat (dDem ds)), none], m0⟩) ?_ rfl)
  have es : startS 3 [tabD os ps, dDem ds] = ⟨[some (.dat (tabD os ps)), some (.dat (dDem ds)), none], m0⟩ := rfl
  have k1' : fn_do_keep_apart [.list (ds.map fun p => dO (wayP os p))] = .ok (.bool (passB os ds)) := k1
  rw [es]
  simp only [dFrz, dCallN, daCons, daNil, lc, e_bind_ok, e_resAll_cons, e_res_tmp, e_resAll_nil, k1', e_flat_bool, if_true, e_frz_dat]
def fiS2 (b : Nat) (ms : List (List (List Nat))) (lg : List LogI) (fs : List Nat) (x3 x4 x5 : Option VB) : Sx := ⟨[some (.dat (dMenu b ms)), some (.dat (dLog lg)), some (.own (fs.map dN)), x3, x4, x5, none, none], m0⟩
theorem fitting_in_ok {b : Nat} {ms : List (List (List Nat))} {lg : List LogI} (h : VMenu b ms) (hg : VLog b lg) : fn_fitting_in [dMenu b ms, dLog lg] = .ok (.list ((going ms lg).map dN)) := by
  have hl := h.len
  have hgl := hg.len
  refine fn_wp ?_
  unfold den_fitting_in
  refine wp_step (s1 := fiS2 b ms lg [] none none none) (by simp [fiS2]) ?_
  refine wp_seq (wp_for (ds := enumD 0 (ms.map (dNet b))) (s1 := fiS2 b ms lg [] none none none)
    (fun j s => ∃ x3 x4 x5, s = fiS2 b ms lg ((List.range j).filter fun i => goes (ms.getD i []) lg) x3 x4 x5) (by simp [fiS2, iEnum0, dMenu, starD]) ⟨_, _, _, rfl⟩ ?_ ?_)
  · rintro j d s hj ⟨x3, x4, x5, rfl⟩
    obtain ⟨y, hy, rfl⟩ := enum_at hj
    obtain ⟨os, ho, rfl⟩ := map_at hy
    have hjl := (List.getElem?_eq_some_iff.mp ho).1
    have hm := h.ok os (List.mem_of_getElem? ho)
    have eo : ms.getD j [] = os := by rw [List.getD_eq_getElem?_getD, ho]; rfl
    obtain ⟨ps, ep, hp⟩ := ways_table_ok hm.1 hm.2
    obtain ⟨fs, ef⟩ : ∃ fs, fs = (List.range j).filter fun i => goes (ms.getD i []) lg := ⟨_, rfl⟩
    have hfl : fs.length ≤ 8 := by
      rw [ef]
      have := List.length_filter_le (fun i => goes (ms.getD i []) lg) (List.range j)
      simp at this ⊢
      omega
    have e1 : ((List.range (j + 1)).filter fun i => goes (ms.getD i []) lg) = fs ++ (if goes os lg = true then [j] else []) := by
      rw [List.range_succ, List.filter_append, ← ef]
      congr 1
      rw [List.filter_cons, eo]
      split <;> rfl
    rw [← ef]
    refine ⟨_, rfl, ?_⟩
    refine Wp.mono (Q := fun s => ∃ x3 x4 x5, s = fiS2 b ms lg (fs ++ (if goes os lg = true then [j] else [])) x3 x4 x5) ?_ (fun s hs => by rw [e1]; exact hs) (fun _ _ z => z)
    refine wp_step (s1 := fiS2 b ms lg fs (some (.dat (.int j))) (some (.dat (dNet b os))) (some (.dat (tabD os ps)))) (by simp [fiS2, ep]) ?_
    have lc : dLc [6, 7] (iSeq (dFrz (dVar 1))) (gTup0 2 (gCons0 (VL.gN 6) (gCons0 (VL.gN 7) gNil0))) tdYes (dFrz (dOp gEq (dCallF fn_does_pass_by (ddCons (dFrz (dVar 5)) (ddCons (dFrz (dVar 6)) ddNil))) (dVar 7))) (fiS2 b ms lg fs (some (.dat (.int j))) (some (.dat (dNet b os))) (some (.dat (tabD os ps))))
        = .ok (.tmp (lg.map fun x => PyData.bool (passB os x.1 == x.2))) (fiS2 b ms lg fs (some (.dat (.int j))) (some (.dat (dNet b os))) (some (.dat (tabD os ps)))) := by
      refine lc_map (l := lg) (en := dLi) (fun x => PyData.bool (passB os x.1 == x.2)) (fiS2 b ms lg fs (some (.dat (.int j))) (some (.dat (dNet b os))) (some (.dat (tabD os ps)))) (by simp [fiS2, dLog]) rfl rfl rfl (by omega) (fun x hx => ?_)
      have q := does_pass_by_ok hm.1 hm.2 hp (hg.ok x hx)
      exact ⟨_, ⟨((fiS2 b ms lg fs (some (.dat (.int j))) (some (.dat (dNet b os))) (some (.dat (tabD os ps)))).g.set 6 (some (.dat (dDem x.1)))).set 7 (some (.dat (.bool x.2))), m0⟩, rfl, by simp [fiS2, q, gEq_bool], rfl⟩
    have bb : boolsD (lg.map fun x => PyData.bool (passB os x.1 == x.2)) = some (lg.map fun x => passB os x.1 == x.2) := by
      have := boolsD_map (lg.map fun x => passB os x.1 == x.2)
      rw [List.map_map] at this
      exact this
    have et : dTest (dCall gAll (daCons (dLc [6, 7] (iSeq (dFrz (dVar 1))) (gTup0 2 (gCons0 (VL.gN 6) (gCons0 (VL.gN 7) gNil0))) tdYes (dFrz (dOp gEq (dCallF fn_does_pass_by (ddCons (dFrz (dVar 5)) (ddCons (dFrz (dVar 6)) ddNil))) (dVar 7)))) daNil)) (fiS2 b ms lg fs (some (.dat (.int j))) (some (.dat (dNet b os))) (some (.dat (tabD os ps))))
        = .ok (goes os lg) (fiS2 b ms lg fs (some (.dat (.int j))) (some (.dat (dNet b os))) (some (.dat (tabD os ps)))) := by
      simp only [dTest, dCall, daCons, daNil, lc, e_bind_ok, e_finN, e_resAll_cons, e_res_tmp, e_resAll_nil, gAll, bb, Option.map_some, e_bl_, e_asB, e_res_dat, goes, List.all_map]
      rfl
    refine wp_if et (fun z => ?_) (fun z => ?_)
    · rw [if_pos z]
      refine wp_nx (s1 := fiS2 b ms lg (fs ++ [j]) (some (.dat (.int j))) (some (.dat (dNet b os))) (some (.dat (tabD os ps)))) ?_ ⟨_, _, _, rfl⟩
      have : fs.length < 1000000 := by omega
      simp [fiS2, this, dN]
    · rw [z]
      refine .nx ⟨some (.dat (.int j)), some (.dat (dNet b os)), some (.dat (tabD os ps)), ?_⟩
      simp
  · rintro s ⟨x3, x4, x5, rfl⟩
    rw [enumD_len, List.length_map]
    exact wp_ret (we_ok (a := .list ((going ms lg).map dN)) rfl rfl)
theorem fitting_nets_ok {b : Nat} {ms : List (List (List Nat))} {lg : List LogI} (h : VMenu b ms) (hg : VLog b lg) : fn_fitting_nets [dMenu b ms, dLog lg] = .ok (.tuple ((going ms lg).map dN)) := by
  refine fn_wp ?_
  unfold den_fitting_nets
  have e1 := need_menu_ok h
  have e2 := need_log_ok h hg
  have e3 := fitting_in_ok h hg
  refine wp_step (s1 := ⟨[some (.dat (dMenu b ms)), some (.dat (dLog lg))], m0⟩) (by simp [e1]) ?_
  refine wp_step (s1 := ⟨[some (.dat (dMenu b ms)), some (.dat (dLog lg))], m0⟩) (by simp [e2]) ?_
  exact wp_ret (we_ok (a := .tuple ((going ms lg).map dN)) (s1 := ⟨[some (.dat (dMenu b ms)), some (.dat (dLog lg))], m0⟩) (by simp [e3]) rfl)
theorem first_false_ok {b : Nat} {ms : List (List (List Nat))} {lg : List LogI} (h : VMenu b ms) (hg : VLog b lg) : fn_first_false [dMenu b ms, dLog lg] = .ok (dOpt (firstBad ms lg)) := by
  have hl := h.len
  have hgl := hg.len
  have e1 := need_menu_ok h
  have e2 := need_log_ok h hg
  have t3 : gLen [dLog lg] = some (.dat (.int (lg.length : Nat))) := by simp [dLog, gLen]
  refine fn_wp ?_
  unfold den_first_false
  refine wp_step (s1 := ⟨[some (.dat (dMenu b ms)), some (.dat (dLog lg)), none], m0⟩) (by simp [e1]) ?_
  refine wp_step (s1 := ⟨[some (.dat (dMenu b ms)), some (.dat (dLog lg)), none], m0⟩) (by simp [e2]) ?_
  refine wp_seq (wp_search (l := List.range lg.length) (en := dN) (g := badAt ms lg) (out := fun k => PyData.int (k : Nat)) (s1 := ⟨[some (.dat (dMenu b ms)), some (.dat (dLog lg)), none], m0⟩) (fun s => ∃ x2, s = ⟨[some (.dat (dMenu b ms)), some (.dat (dLog lg)), x2], m0⟩)
    (iRng_ok (by simp [t3]) (by omega)) ⟨_, rfl⟩ ?_ ?_ ?_)
  · rintro k hk s ⟨x2, rfl⟩
    refine ⟨_, rfl, ?_⟩
    have q := fitting_in_ok h (hg.take (k + 1))
    have c := cut_to (lg.map dLi) (k + 1)
    rw [← List.map_take] at c
    have e3 : (((k + 1 : Nat)) : Int) = (k : Int) + 1 := by omega
    rw [e3] at c
    have cs : gSl (dLog lg) none (some ((k : Int) + 1)) = some (.dat (dLog (lg.take (k + 1)))) := by
      show some (RV.dat (.tuple (VL.cutD (lg.map dLi) none (some ((k : Int) + 1))))) = _
      rw [c]
      rfl
    have sh : SeqAt.shaped (.list ((going ms (lg.take (k + 1))).map dN)) = true := (nats_sz (n := 8) (fun x hx => by have := going_lt x hx; omega) (by have := going_len ms (lg.take (k + 1)); omega)).shaped (by decide)
    have ge := gEq_nil sh
    rw [isEmpty_map'] at ge
    refine wp_if (b := (going ms (lg.take (k + 1))).isEmpty) (s1 := ⟨[some (.dat (dMenu b ms)), some (.dat (dLog lg)), some (.dat (dN k))], m0⟩) (by
      generalize (going ms (lg.take (k + 1))).map dN = L at q ge
      simp [dN, dSl, dPart, dNo, cs, q, ge]) (fun z => ?_) (fun z => ?_)
    · exact wp_ret (we_ok (a := .int (k : Nat)) rfl ⟨k, by unfold badAt; rw [if_pos z], rfl⟩)
    · exact .nx ⟨by unfold badAt; rw [z]; rfl, _, rfl⟩
  · rintro s z ⟨x2, rfl⟩
    refine wp_ret (we_ok (a := .none) rfl ?_)
    unfold firstBad
    rw [z]
    rfl
  · intro y s z
    unfold firstBad
    rw [z]
    rfl
def goS (b : Nat) (ms : List (List (List Nat))) (lg : List LogI) (fs : List Nat) (x3 x4 x5 : Option VB) : Sx := ⟨[some (.dat (dMenu b ms)), some (.dat (dLog lg)), some (.dat (dO fs)), x3, x4, x5, none, none], m0⟩
theorem q_going_ok {b : Nat} {ms : List (List (List Nat))} {lg : List LogI} (h : VMenu b ms) (hg : VLog b lg) : fn_q_going [dMenu b ms, dLog lg] = .ok (.tuple ((going ms lg).map dN)) := by
  have hl := h.len
  have hgl := hg.len
  refine fn_wp ?_
  unfold den_q_going
  refine wp_step (s1 := goS b ms lg [] none none none) (by simp [goS, dO]) ?_
  refine wp_seq (wp_for (ds := enumD 0 (ms.map (dNet b))) (s1 := goS b ms lg [] none none none)
    (fun j s => ∃ x3 x4 x5, s = goS b ms lg ((List.range j).filter fun i => goes (ms.getD i []) lg) x3 x4 x5) (by simp [goS, iEnum0, dMenu, starD]) ⟨_, _, _, rfl⟩ ?_ ?_)
  · rintro j d s hj ⟨x3, x4, x5, rfl⟩
    obtain ⟨y, hy, rfl⟩ := enum_at hj
    obtain ⟨os, ho, rfl⟩ := map_at hy
    have hjl := (List.getElem?_eq_some_iff.mp ho).1
    have hm := h.ok os (List.mem_of_getElem? ho)
    have eo : ms.getD j [] = os := by rw [List.getD_eq_getElem?_getD, ho]; rfl
    obtain ⟨fs, ef⟩ : ∃ fs, fs = (List.range j).filter fun i => goes (ms.getD i []) lg := ⟨_, rfl⟩
    have hfl : fs.length ≤ 8 := by
      rw [ef]
      have := List.length_filter_le (fun i => goes (ms.getD i []) lg) (List.range j)
      simp at this ⊢
      omega
    have e1 : ((List.range (j + 1)).filter fun i => goes (ms.getD i []) lg) = fs ++ (if goes os lg = true then [j] else []) := by
      rw [List.range_succ, List.filter_append, ← ef]
      congr 1
      rw [List.filter_cons, eo]
      split <;> rfl
    rw [← ef]
    refine ⟨_, rfl, ?_⟩
    refine Wp.mono (Q := fun s => ∃ x3 x4 x5, s = goS b ms lg (fs ++ (if goes os lg = true then [j] else [])) x3 x4 x5) ?_ (fun s hs => by rw [e1]; exact hs) (fun _ _ z => z)
    have lc : dLc [6, 7] (iSeq (dFrz (dVar 1))) (gTup0 2 (gCons0 (VL.gN 6) (gCons0 (VL.gN 7) gNil0))) (dTest (dOp gNe (dCallF fn_q_passes (ddCons (dFrz (dVar 4)) (ddCons (dFrz (dVar 6)) ddNil))) (dVar 7))) (dFrz (dC (.int 1))) (goS b ms lg fs (some (.dat (.int j))) (some (.dat (dNet b os))) x5)
        = .ok (.tmp ((lg.filter fun x => passB os x.1 != x.2).map fun _ => PyData.int 1)) (goS b ms lg fs (some (.dat (.int j))) (some (.dat (dNet b os))) x5) := by
      refine lc_fil (l := lg) (en := dLi) (fun _ => PyData.int 1) (fun x => passB os x.1 != x.2) (goS b ms lg fs (some (.dat (.int j))) (some (.dat (dNet b os))) x5) (by simp [goS, dLog]) rfl rfl rfl (by omega) (fun x hx => ?_)
      have q := q_passes_ok hm.1 hm.2 (hg.ok x hx)
      exact ⟨_, ⟨((goS b ms lg fs (some (.dat (.int j))) (some (.dat (dNet b os))) x5).g.set 6 (some (.dat (dDem x.1)))).set 7 (some (.dat (.bool x.2))), m0⟩, ⟨((goS b ms lg fs (some (.dat (.int j))) (some (.dat (dNet b os))) x5).g.set 6 (some (.dat (dDem x.1)))).set 7 (some (.dat (.bool x.2))), m0⟩, rfl, by simp [goS, q, gNe_bool], rfl, fun _ => ⟨rfl, rfl⟩⟩
    have hem : ((lg.filter fun x => passB os x.1 != x.2).map fun _ => PyData.int 1).isEmpty = goes os lg := by
      rw [isEmpty_map']
      unfold goes
      cases e : lg.filter fun x => passB os x.1 != x.2 with
      | nil =>
        have := List.filter_eq_nil_iff.mp e
        refine (List.all_eq_true.mpr fun x hx => ?_).symm
        have := this x hx
        simpa using this
      | cons x r =>
        have hx : x ∈ lg.filter fun x => passB os x.1 != x.2 := by rw [e]; exact List.mem_cons_self
        obtain ⟨h1, h2⟩ := List.mem_filter.mp hx
        cases q : lg.all fun x => passB os x.1 == x.2 with
        | false => rfl
        | true =>
          have := List.all_eq_true.mp q x h1
          simp at h2 this
          exact absurd this h2
    have ge := gEq_nil (ones_shaped (lg.filter fun x => passB os x.1 != x.2))
    rw [hem] at ge
    refine wp_step (s1 := goS b ms lg fs (some (.dat (.int j))) (some (.dat (dNet b os))) (some (.own ((lg.filter fun x => passB os x.1 != x.2).map fun _ => PyData.int 1)))) ?_ ?_
    · show sSet 5 _ (goS b ms lg fs (some (.dat (.int j))) (some (.dat (dNet b os))) x5) = _
      rw [sSet, lc]
      rfl
    generalize (lg.filter fun x => passB os x.1 != x.2).map (fun _ => PyData.int 1) = W at ge
    refine wp_nx (s1 := goS b ms lg (fs ++ (if goes os lg = true then [j] else [])) (some (.dat (.int j))) (some (.dat (dNet b os))) (some (.own W))) ?_ ⟨_, _, _, rfl⟩
    have hl1 : fs.length + 1 ≤ 16777216 := by omega
    have hl2 : fs.length ≤ 16777216 := by omega
    cases q : goes os lg with
    | true => rw [q] at ge; simp [goS, dO, ge, hl1, dN]
    | false => rw [q] at ge; simp [goS, dO, ge, hl2]
  · rintro s ⟨x3, x4, x5, rfl⟩
    rw [enumD_len, List.length_map]
    exact wp_ret (we_ok (a := .tuple ((going ms lg).map dN)) rfl rfl)
end G

namespace G
open PySem PySem.Spec PyProof.Rows L2 VL
def log88 : DSt := (sFor (VL.iRng1 (dCallM drawFn 1 (ddCons (dFrz (dC (.int 9))) ddNil))) (VL.gN 8) (sSeq (sSet 17 (dCallM fn_q_demands 1 (ddCons (dFrz (dVar 15)) (ddCons (dFrz (dOp gAdd (dC (.int 1)) (dCallM drawFn 1 (ddCons (dFrz (dC (.int 4))) ddNil)))) ddNil)))) (sSeq (sSet 18 (dCallF fn_q_passes (ddCons (dFrz (dVar 15)) (ddCons (dFrz (dVar 17)) ddNil)))) (sSet 4 (dOp gAdd (dVar 4) (dTup (ddCons (dFrz (dTup (ddCons (dFrz (dVar 17)) (ddCons (dFrz (dIf (dTest (dOp gGt (dCallM drawFn 1 (ddCons (dFrz (dC (.int 8))) ddNil)) (dC (.int 0)))) (dVar 18) (dNot (dVar 18)))) ddNil)))) ddNil)))))))
def wrong88 : DSt := (sFor (VL.iRng1 (dCall gLen (daCons (dVar 4) daNil))) (VL.gN 8) (sIf (tdAnd (dTest (dOp gIs (dVar 16) (dC .none))) (dTest (dOp gEq (dCallF fn_q_going (ddCons (dFrz (dVar 7)) (ddCons (dFrz (dSl (dVar 4) dNo (dPart (dOp gAdd (dVar 8) (dC (.int 1)))))) ddNil))) (dTup ddNil)))) (sSet 16 (dVar 8)) sNext))
def rest88 : DSt := (sSeq (sSet 9 (dCall gRepr (daCons (dLst (ddCons (dFrz (dVar 7)) (ddCons (dFrz (dVar 4)) ddNil))) daNil))) (sSeq (sFor (VL.iRng1 (dCall gLen (daCons (dVar 4) daNil))) (VL.gN 8) (sIf (tdAnd (dTest (dOp gIs (dVar 16) (dC .none))) (dTest (dOp gEq (dCallF fn_q_going (ddCons (dFrz (dVar 7)) (ddCons (dFrz (dSl (dVar 4) dNo (dPart (dOp gAdd (dVar 8) (dC (.int 1)))))) ddNil))) (dTup ddNil)))) (sSet 16 (dVar 8)) sNext)) (sSeq (sSet 10 (dLst (ddCons (dFrz (dCallF fn_q_going (ddCons (dFrz (dVar 7)) (ddCons (dFrz (dVar 4)) ddNil)))) (ddCons (dFrz (dVar 16)) ddNil)))) (sSeq (sSet 3 (dLst (ddCons (dFrz (dCallF fn_fitting_nets (ddCons (dFrz (dVar 7)) (ddCons (dFrz (dVar 4)) ddNil)))) (ddCons (dFrz (dCallF fn_first_false (ddCons (dFrz (dVar 7)) (ddCons (dFrz (dVar 4)) ddNil)))) ddNil)))) (sSeq (sSet 3 (dOp gAdd (dVar 3) (dLst (ddCons (dFrz (dCallF fn_fitting_nets (ddCons (dFrz (dVar 7)) (ddCons (dFrz (dVar 4)) ddNil)))) (ddCons (dFrz (dCallF fn_first_false (ddCons (dFrz (dVar 7)) (ddCons (dFrz (dVar 4)) ddNil)))) ddNil))))) (sIf (tdOr (tdNot (dTest (dCallF fn_q_like (ddCons (dFrz (dVar 3)) (ddCons (dFrz (dOp gMulT (dVar 10) (dC (.int 2)))) ddNil))))) (dTest (dOp gNe (dCall gRepr (daCons (dLst (ddCons (dFrz (dVar 7)) (ddCons (dFrz (dVar 4)) ddNil))) daNil)) (dVar 9)))) (sRet (dFrz (dC (.bool false)))) sNext))))))
def tail88 : DSt := (sSeq (sPar [11, 12] (dpCons (dCallF fn_q_halving (ddCons (dFrz (dC (.int 4))) ddNil)) (dpCons (dTup (ddCons (dFrz (dTup (ddCons (dFrz (dC (.int 2))) (ddCons (dFrz (dTup (ddCons (dFrz (dTup (ddCons (dFrz (dC (.int 0))) (ddCons (dFrz (dC (.int 2))) (ddCons (dFrz (dC (.int 1))) (ddCons (dFrz (dC (.int 3))) ddNil)))))) ddNil))) ddNil)))) (ddCons (dFrz (dTup (ddCons (dFrz (dC (.int 2))) (ddCons (dFrz (dTup (ddCons (dFrz (dTup (ddCons (dFrz (dC (.int 2))) (ddCons (dFrz (dC (.int 0))) (ddCons (dFrz (dC (.int 1))) (ddCons (dFrz (dC (.int 3))) ddNil)))))) ddNil))) ddNil)))) ddNil))) dpNil))) (sSeq (sSet 3 (dLst (ddCons (dFrz (dCallF fn_fitting_nets (ddCons (dFrz (dVar 12)) (ddCons (dFrz (dTup (ddCons (dFrz (dTup (ddCons (dFrz (dTup ddNil)) (ddCons (dFrz (dC (.bool true))) ddNil)))) ddNil))) ddNil)))) (ddCons (dFrz (dCallF fn_fitting_nets (ddCons (dFrz (dVar 12)) (ddCons (dFrz (dTup (ddCons (dFrz (dTup (ddCons (dFrz (dTup ddNil)) (ddCons (dFrz (dC (.bool false))) ddNil)))) ddNil))) ddNil)))) ddNil)))) (sSeq (sSet 3 (dOp gAdd (dVar 3) (dLst (ddCons (dFrz (dCallF fn_first_false (ddCons (dFrz (dVar 12)) (ddCons (dFrz (dTup (ddCons (dFrz (dTup (ddCons (dFrz (dTup ddNil)) (ddCons (dFrz (dC (.bool true))) ddNil)))) (ddCons (dFrz (dTup (ddCons (dFrz (dTup ddNil)) (ddCons (dFrz (dC (.bool false))) ddNil)))) (ddCons (dFrz (dTup (ddCons (dFrz (dTup ddNil)) (ddCons (dFrz (dC (.bool true))) ddNil)))) ddNil))))) ddNil)))) (ddCons (dFrz (dCallF fn_first_false (ddCons (dFrz (dVar 12)) (ddCons (dFrz (dTup ddNil)) ddNil)))) ddNil))))) (sSeq (sIf (tdNot (dTest (dCallF fn_q_like (ddCons (dFrz (dVar 3)) (ddCons (dFrz (dLst (ddCons (dFrz (dTup (ddCons (dFrz (dC (.int 0))) (ddCons (dFrz (dC (.int 1))) ddNil)))) (ddCons (dFrz (dTup ddNil)) (ddCons (dFrz (dC (.int 1))) (ddCons (dFrz (dC .none)) ddNil)))))) ddNil))))) (sRet (dFrz (dC (.bool false)))) sNext) (sSeq (sSet 4 (dTup (ddCons (dFrz (dTup (ddCons (dFrz (dTup (ddCons (dFrz (dTup (ddCons (dFrz (dC (.int 8))) (ddCons (dFrz (dC (.int 0))) ddNil)))) (ddCons (dFrz (dTup (ddCons (dFrz (dC (.int 9))) (ddCons (dFrz (dC (.int 1))) ddNil)))) ddNil)))) (ddCons (dFrz (dC (.bool false))) ddNil)))) (ddCons (dFrz (dTup (ddCons (dFrz (dTup (ddCons (dFrz (dTup (ddCons (dFrz (dC (.int 8))) (ddCons (dFrz (dC (.int 0))) ddNil)))) (ddCons (dFrz (dTup (ddCons (dFrz (dC (.int 9))) (ddCons (dFrz (dC (.int 15))) ddNil)))) ddNil)))) (ddCons (dFrz (dC (.bool true))) ddNil)))) ddNil)))) (sSeq (sIf (tdNot (dTest (dCallF fn_q_like (ddCons (dFrz (dLst (ddCons (dFrz (dCallF fn_fitting_nets (ddCons (dFrz (dTup (ddCons (dFrz (dVar 11)) ddNil))) (ddCons (dFrz (dVar 4)) ddNil)))) (ddCons (dFrz (dCallF fn_first_false (ddCons (dFrz (dTup (ddCons (dFrz (dVar 11)) ddNil))) (ddCons (dFrz (dVar 4)) ddNil)))) ddNil)))) (ddCons (dFrz (dLst (ddCons (dFrz (dTup (ddCons (dFrz (dC (.int 0))) ddNil))) (ddCons (dFrz (dC .none)) ddNil)))) ddNil))))) (sRet (dFrz (dC (.bool false)))) sNext) (sSeq (sPar [13, 14] (dpCons (dCallF fn_q_halving (ddCons (dFrz (dC (.int 2))) ddNil)) (dpCons (dTup (ddCons (dFrz (dC (.int 2))) (ddCons (dFrz (dTup (ddCons (dFrz (dTup (ddCons (dFrz (dC (.int 0))) (ddCons (dFrz (dC (.int 2))) (ddCons (dFrz (dC (.int 3))) (ddCons (dFrz (dC (.int 1))) ddNil)))))) ddNil))) ddNil))) dpNil))) (sSeq (sSet 5 (dTup (ddCons (dFrz (dC (.int 2))) (ddCons (dFrz (dTup (ddCons (dFrz (dTup (ddCons (dFrz (dC (.int 2))) (ddCons (dFrz (dC (.int 0))) (ddCons (dFrz (dC (.int 1))) (ddCons (dFrz (dC (.int 3))) ddNil)))))) ddNil))) ddNil)))) (sSeq (sSet 4 (dOp gMulT (dTup (ddCons (dFrz (dTup (ddCons (dFrz (dTup (ddCons (dFrz (dTup (ddCons (dFrz (dC (.int 0))) (ddCons (dFrz (dC (.int 0))) ddNil)))) (ddCons (dFrz (dTup (ddCons (dFrz (dC (.int 1))) (ddCons (dFrz (dC (.int 1))) ddNil)))) ddNil)))) (ddCons (dFrz (dC (.bool false))) ddNil)))) (ddCons (dFrz (dTup (ddCons (dFrz (dTup (ddCons (dFrz (dTup (ddCons (dFrz (dC (.int 0))) (ddCons (dFrz (dC (.int 0))) ddNil)))) (ddCons (dFrz (dTup (ddCons (dFrz (dC (.int 2))) (ddCons (dFrz (dC (.int 1))) ddNil)))) ddNil)))) (ddCons (dFrz (dC (.bool true))) ddNil)))) ddNil))) (dC (.int 15)))) (sSeq (sSet 3 (dLst (ddCons (dFrz (dCallF fn_fitting_nets (ddCons (dFrz (dOp gAdd (dOp gMulT (dTup (ddCons (dFrz (dVar 13)) (ddCons (dFrz (dVar 14)) (ddCons (dFrz (dVar 5)) ddNil)))) (dC (.int 2))) (dOp gMulT (dTup (ddCons (dFrz (dVar 13)) ddNil)) (dC (.int 2))))) (ddCons (dFrz (dVar 4)) ddNil)))) (ddCons (dFrz (dCallF fn_first_false (ddCons (dFrz (dTup (ddCons (dFrz (dVar 13)) ddNil))) (ddCons (dFrz (dVar 4)) ddNil)))) ddNil)))) (sSeq (sApp 3 (dFrz (dCallF fn_first_false (ddCons (dFrz (dTup (ddCons (dFrz (dVar 13)) (ddCons (dFrz (dVar 5)) ddNil)))) (ddCons (dFrz (dTup (ddCons (dFrz (dTup (ddCons (dFrz (dTup (ddCons (dFrz (dTup (ddCons (dFrz (dC (.int 0))) (ddCons (dFrz (dC (.int 0))) ddNil)))) (ddCons (dFrz (dTup (ddCons (dFrz (dC (.int 1))) (ddCons (dFrz (dC (.int 1))) ddNil)))) ddNil)))) (ddCons (dFrz (dC (.bool true))) ddNil)))) ddNil))) ddNil))))) (sRet (dFrz (dCallF fn_q_like (ddCons (dFrz (dVar 3)) (ddCons (dFrz (dLst (ddCons (dFrz (dTup (ddCons (dFrz (dC (.int 0))) (ddCons (dFrz (dC (.int 1))) (ddCons (dFrz (dC (.int 2))) (ddCons (dFrz (dC (.int 3))) (ddCons (dFrz (dC (.int 4))) (ddCons (dFrz (dC (.int 5))) (ddCons (dFrz (dC (.int 6))) (ddCons (dFrz (dC (.int 7))) ddNil)))))))))) (ddCons (dFrz (dC .none)) (ddCons (dFrz (dC (.int 0))) ddNil))))) ddNil))))))))))))))))
def lgS (sd : PyData) (x2 x3 x4 x5 x6 x7 : Option VB) (x8 : Option PyData) (x9 x10 x11 x12 x13 x14 x15 x16 x17 x18 : Option VB) (m : DS) : Sx := ⟨[some (.dat sd), some .drw, x2, x3, x4, x5, x6, x7, x8.map VB.dat, x9, x10, x11, x12, x13, x14, x15, x16, x17, x18], m⟩
theorem sz_menu {b : Nat} {ms : List (List (List Nat))} (h : VMenu b ms) : Sz 4 12933 (dMenu b ms) := (Sz.tup (k := 3) (t := 979) (n := 8) (fun d hd => by
  obtain ⟨os, ho, rfl⟩ := List.mem_map.mp hd
  exact sz_net (h.ok os ho).1) (by rw [List.length_map]; exact h.len)).le (by decide) (by decide)
theorem sz_log {b : Nat} {lg : List LogI} (hb : b ≤ 4) (h : VLog b lg) : Sz 4 12933 (dLog lg) := Sz.tup (k := 3) (t := 429) (n := 30) (fun d hd => by
  obtain ⟨x, hx, rfl⟩ := List.mem_map.mp hd
  have z1 := sz_dem (h.ok x hx) (pow16 hb)
  have z2 : Sz 2 211 (.bool x.2) := (sz_bool _).le (by decide) (by decide)
  exact Sz.tup (k := 2) (t := 211) (n := 2) (fun e he => by
    rcases List.mem_cons.mp he with rfl | he
    · exact z1
    · rw [List.mem_singleton.mp he]; exact z2) (by simp)) (by rw [List.length_map]; exact h.len)
theorem log88_ok {B b : Nat} {sd : PyData} {x2 x3 x5 x6 x7 x9 x10 x11 x12 x13 x14 x16 x17 x18 : Option VB} {x8 : Option PyData} {os : List (List Nat)} {m : DS} (h : VNet b os) (hb : Ban b os) (hg : Good (B + 100) m) :
    Wp (log88 (lgS sd x2 x3 (some (.dat (dLog []))) x5 x6 x7 x8 x9 x10 x11 x12 x13 x14 (some (.dat (dNet b os))) x16 x17 x18 m))
      (fun s => ∃ lg y8 y17 y18 m', s = lgS sd x2 x3 (some (.dat (dLog lg))) x5 x6 x7 y8 x9 x10 x11 x12 x13 x14 (some (.dat (dNet b os))) x16 y17 y18 m' ∧ VLog b lg ∧ Good B m') (fun d _ => d = .bool true) := by
  obtain ⟨k, m1, e1, hk1, hg1⟩ := drawQ (B := B + 99) (L := 9) hg (by decide) (by decide)
  unfold log88
  refine wp_for (ds := (List.range k).map dN) (s1 := lgS sd x2 x3 (some (.dat (dLog []))) x5 x6 x7 x8 x9 x10 x11 x12 x13 x14 (some (.dat (dNet b os))) x16 x17 x18 m1)
    (fun j s => ∃ lg y8 y17 y18 m', s = lgS sd x2 x3 (some (.dat (dLog lg))) x5 x6 x7 y8 x9 x10 x11 x12 x13 x14 (some (.dat (dNet b os))) x16 y17 y18 m' ∧ lg.length = j ∧ (∀ x ∈ lg, VDem (2 ^ b) x.1) ∧ Good (B + (9 - j) * 10) m') (iRng_ok (by simp [lgS, e1]) (by omega)) ⟨[], _, _, _, _, rfl, rfl, (fun x hx => by cases hx), hg1.less (by omega)⟩ ?_ ?_
  · rintro j d s hj ⟨lg, y8, y17, y18, m2, rfl, hl, hlg, hg2⟩
    have hjk : j < k := by have := (List.getElem?_eq_some_iff.mp hj).1; simpa using this
    obtain ⟨t, m3, e3, ht3, hg3⟩ := drawQ (B := B + (9 - (j + 1)) * 10 + 9) (L := 4) (hg2.less (by omega)) (by decide) (by decide)
    obtain ⟨ds, m4, e4, hd, hg4⟩ := q_demands_ok (B := B + (9 - (j + 1)) * 10 + 1) (t := 1 + t) (m := m3) h (by omega) (hg3.less (by omega))
    have hct : ((1 + t : Nat) : Int) = 1 + (t : Int) := by omega
    rw [hct] at e4
    obtain ⟨q, m5, e5, hq5, hg5⟩ := drawQ (L := 8) hg4 (by decide) (by decide)
    have p1 := q_passes_ok h hb hd
    refine ⟨_, rfl, ?_⟩
    refine wp_step (s1 := lgS sd x2 x3 (some (.dat (dLog lg))) x5 x6 x7 (some d) x9 x10 x11 x12 x13 x14 (some (.dat (dNet b os))) x16 (some (.dat (dDem ds))) y18 m4) (set_callM (s1 := lgS sd x2 x3 (some (.dat (dLog lg))) x5 x6 x7 (some d) x9 x10 x11 x12 x13 x14 (some (.dat (dNet b os))) x16 y17 y18 m3) rfl (by simp [lgS, e3]) e4) ?_
    refine wp_step (s1 := lgS sd x2 x3 (some (.dat (dLog lg))) x5 x6 x7 (some d) x9 x10 x11 x12 x13 x14 (some (.dat (dNet b os))) x16 (some (.dat (dDem ds))) (some (.dat (.bool (passB os ds)))) m4) (by simp [lgS, p1]) ?_
    obtain ⟨c, ec⟩ : ∃ c, c = if 0 < q then passB os ds else !passB os ds := ⟨_, rfl⟩
    refine wp_nx (s1 := lgS sd x2 x3 (some (.dat (dLog (lg ++ [(ds, c)])))) x5 x6 x7 (some d) x9 x10 x11 x12 x13 x14 (some (.dat (dNet b os))) x16 (some (.dat (dDem ds))) (some (.dat (.bool (passB os ds)))) m5) ?_ ⟨_, _, _, _, _, rfl, by simp [hl], fun x hx => ?_, hg5⟩
    · have a1 : gAdd (dLog lg) (.tuple [.tuple [dDem ds, .bool c]]) = some (.dat (dLog (lg ++ [(ds, c)]))) := by
        show gAdd (.tuple (lg.map dLi)) _ = _
        rw [e_gAdd_tup, if_pos (by simp; omega)]
        simp [dLog, dLi]
      by_cases hq : 0 < q
      · rw [if_pos hq] at ec
        subst ec
        simp [lgS, e5, hq, a1]
      · rw [if_neg hq] at ec
        subst ec
        simp [lgS, e5, hq, a1]
    · rcases List.mem_append.mp hx with hx | hx
      · exact hlg x hx
      · rw [List.mem_singleton.mp hx]; exact hd
  · rintro s ⟨lg, y8, y17, y18, m2, rfl, hl, hlg, hg2⟩
    rw [List.length_map, List.length_range] at hl hg2
    exact ⟨lg, y8, y17, y18, m2, rfl, ⟨by omega, hlg⟩, hg2.less (by omega)⟩
theorem gEq_ttnil {l : List PyData} (h : SeqAt.shaped (.tuple l) = true) : gEq (.tuple l) (.tuple []) = some (.dat (.bool l.isEmpty)) := by
  show (if SeqAt.shaped (.tuple l) = true ∧ SeqAt.shaped (.tuple []) = true then some (bl_ (PyData.eqv (.tuple l) (.tuple []))) else none) = _
  rw [if_pos ⟨h, rfl⟩]
  cases l <;> rfl
theorem wrong88_ok {b : Nat} {sd : PyData} {x2 x3 x5 x6 x9 x10 x11 x12 x13 x14 x15 x17 x18 : Option VB} {x8 : Option PyData} {ms : List (List (List Nat))} {lg : List LogI} {m : DS} (h : VMenu b ms) (hlg : VLog b lg) {Q : Sx → Prop} {R : PyData → Sx → Prop}
    (hq : ∀ y8, Q (lgS sd x2 x3 (some (.dat (dLog lg))) x5 x6 (some (.dat (dMenu b ms))) y8 x9 x10 x11 x12 x13 x14 x15 (some (.dat (dOpt (firstBad ms lg)))) x17 x18 m)) :
    Wp (wrong88 (lgS sd x2 x3 (some (.dat (dLog lg))) x5 x6 (some (.dat (dMenu b ms))) x8 x9 x10 x11 x12 x13 x14 x15 (some (.dat .none)) x17 x18 m)) Q R := by
  have hl := h.len
  have hgl := hlg.len
  have t3 : gLen [dLog lg] = some (.dat (.int (lg.length : Nat))) := by simp [dLog, gLen]
  unfold wrong88
  refine wp_for (ds := (List.range lg.length).map dN) (s1 := lgS sd x2 x3 (some (.dat (dLog lg))) x5 x6 (some (.dat (dMenu b ms))) x8 x9 x10 x11 x12 x13 x14 x15 (some (.dat .none)) x17 x18 m)
    (fun j s => ∃ y8, s = lgS sd x2 x3 (some (.dat (dLog lg))) x5 x6 (some (.dat (dMenu b ms))) y8 x9 x10 x11 x12 x13 x14 x15 (some (.dat (dOpt ((List.range j).findSome? (badAt ms lg))))) x17 x18 m) (iRng_ok (by simp [lgS, t3]) (by omega)) ⟨_, rfl⟩ ?_ ?_
  · rintro j d s hj ⟨y8, rfl⟩
    obtain ⟨r, hr, rfl⟩ := map_at hj
    obtain ⟨hj1, hj2⟩ := List.getElem?_eq_some_iff.mp hr
    simp at hj1 hj2
    subst hj2
    refine ⟨_, rfl, ?_⟩
    have es : (List.range (j + 1)).findSome? (badAt ms lg) = ((List.range j).findSome? (badAt ms lg)).or (badAt ms lg j) := by
      rw [List.range_succ, List.findSome?_append]
      congr 1
      rw [List.findSome?_cons]
      cases badAt ms lg j <;> rfl
    rw [es]
    cases q : (List.range j).findSome? (badAt ms lg) with
    | some y =>
      have gi : gIs (dOpt (some y)) .none = some (.dat (.bool false)) := rfl
      exact wp_ifF (s1 := lgS sd x2 x3 (some (.dat (dLog lg))) x5 x6 (some (.dat (dMenu b ms))) (some (dN j)) x9 x10 x11 x12 x13 x14 x15 (some (.dat (dOpt (some y)))) x17 x18 m) (by simp [lgS, gi]) (.nx ⟨_, rfl⟩)
    | none =>
      have gi : gIs (dOpt none) .none = some (.dat (.bool true)) := rfl
      have qg := q_going_ok h (hlg.take (j + 1))
      have c := cut_to (lg.map dLi) (j + 1)
      rw [← List.map_take] at c
      have e3 : (((j + 1 : Nat)) : Int) = (j : Int) + 1 := by omega
      rw [e3] at c
      have cs : gSl (dLog lg) none (some ((j : Int) + 1)) = some (.dat (dLog (lg.take (j + 1)))) := by
        show some (RV.dat (.tuple (VL.cutD (lg.map dLi) none (some ((j : Int) + 1))))) = _
        rw [c]
        rfl
      have sh : SeqAt.shaped (.tuple ((going ms (lg.take (j + 1))).map dN)) = true := (sz_dO (o := going ms (lg.take (j + 1))) (fun x hx => by have := going_lt x hx; omega) (by have := going_len ms (lg.take (j + 1)); omega)).shaped (by decide)
      have ge := gEq_ttnil sh
      rw [isEmpty_map'] at ge
      refine wp_if (b := (going ms (lg.take (j + 1))).isEmpty) (s1 := lgS sd x2 x3 (some (.dat (dLog lg))) x5 x6 (some (.dat (dMenu b ms))) (some (dN j)) x9 x10 x11 x12 x13 x14 x15 (some (.dat (dOpt none))) x17 x18 m) (by
        generalize (going ms (lg.take (j + 1))).map dN = L at qg ge
        simp [lgS, gi, dN, dSl, dPart, dNo, cs, qg, ge]) (fun z => ?_) (fun z => ?_)
      · have : badAt ms lg j = some j := by unfold badAt; rw [if_pos z]
        rw [this]
        exact wp_nx (s1 := lgS sd x2 x3 (some (.dat (dLog lg))) x5 x6 (some (.dat (dMenu b ms))) (some (dN j)) x9 x10 x11 x12 x13 x14 x15 (some (.dat (dOpt (some j)))) x17 x18 m) rfl ⟨_, rfl⟩
      · have : badAt ms lg j = none := by unfold badAt; rw [z]; rfl
        rw [this]
        exact .nx ⟨_, rfl⟩
  · rintro s ⟨y8, rfl⟩
    rw [List.length_map, List.length_range]
    exact hq y8
end G

namespace G
open PySem PySem.Spec PyProof.Rows L2 VL
theorem rest88_ok {b : Nat} {sd : PyData} {x2 x3 x5 x6 x9 x10 x11 x12 x13 x14 x15 x17 x18 : Option VB} {x8 : Option PyData} {ms : List (List (List Nat))} {lg : List LogI} {m : DS} (hb4 : b ≤ 4) (h : VMenu b ms) (hlg : VLog b lg) :
    Wp (rest88 (lgS sd x2 x3 (some (.dat (dLog lg))) x5 x6 (some (.dat (dMenu b ms))) x8 x9 x10 x11 x12 x13 x14 x15 (some (.dat .none)) x17 x18 m))
      (fun s => ∃ y3 y8 y9 y10, s = lgS sd x2 y3 (some (.dat (dLog lg))) x5 x6 (some (.dat (dMenu b ms))) y8 y9 y10 x11 x12 x13 x14 x15 (some (.dat (dOpt (firstBad ms lg)))) x17 x18 m) (fun d _ => d = .bool true) := by
  have hl := h.len
  have r1 : gRepr [.list [dMenu b ms, dLog lg]] = some (.dat (.str (PyData.list [dMenu b ms, dLog lg]).shown)) := gRepr_ok ((sz_l2 (sz_menu h) (sz_log hb4 hlg)).okR (by decide) (by decide))
  have q1 := q_going_ok h hlg
  have f1 := fitting_nets_ok h hlg
  have f2 := first_false_ok h hlg
  have zg : Sz 1 67 (.tuple ((going ms lg).map dN)) := sz_dO (o := going ms lg) (fun x hx => by have := going_lt x hx; omega) (by have := going_len ms lg; omega)
  have zf : Sz 1 67 (dOpt (firstBad ms lg)) := by
    cases e : firstBad ms lg with
    | none => exact sz_none.le (by decide) (by decide)
    | some k =>
      obtain ⟨j, hj, h2⟩ := List.exists_of_findSome?_eq_some e
      have hj := List.mem_range.mp hj
      unfold badAt at h2
      split at h2
      · cases h2
        exact (sz_nat (by have := hlg.len; omega)).le (by decide) (by decide)
      · cases h2
  obtain ⟨Gd, eG⟩ : ∃ Gd, Gd = PyData.tuple ((going ms lg).map dN) := ⟨_, rfl⟩
  obtain ⟨Wd, eW⟩ : ∃ Wd, Wd = dOpt (firstBad ms lg) := ⟨_, rfl⟩
  rw [← eG] at q1 f1 zg
  rw [← eW] at f2 zf
  have lk := like_same ((sz_l4 zg zf zg zf).okR (by decide) (by decide))
  have m2 : gMulT (.list [Gd, Wd]) (.int 2) = some (.tmp [Gd, Wd, Gd, Wd]) := rfl
  generalize (PyData.list [dMenu b ms, dLog lg]).shown = shw at r1
  unfold rest88
  refine wp_step (s1 := lgS sd x2 x3 (some (.dat (dLog lg))) x5 x6 (some (.dat (dMenu b ms))) x8 (some (.dat (.str shw))) x10 x11 x12 x13 x14 x15 (some (.dat .none)) x17 x18 m) (by simp [lgS, r1]) ?_
  refine wp_seq (wrong88_ok h hlg fun y8 => ?_)
  rw [← eW]
  refine wp_step (s1 := lgS sd x2 x3 (some (.dat (dLog lg))) x5 x6 (some (.dat (dMenu b ms))) y8 (some (.dat (.str shw))) (some (.own [Gd, Wd])) x11 x12 x13 x14 x15 (some (.dat Wd)) x17 x18 m) (by simp [lgS, q1]) ?_
  refine wp_step (s1 := lgS sd x2 (some (.own [Gd, Wd])) (some (.dat (dLog lg))) x5 x6 (some (.dat (dMenu b ms))) y8 (some (.dat (.str shw))) (some (.own [Gd, Wd])) x11 x12 x13 x14 x15 (some (.dat Wd)) x17 x18 m) (by simp [lgS, f1, f2]) ?_
  refine wp_step (s1 := lgS sd x2 (some (.own [Gd, Wd, Gd, Wd])) (some (.dat (dLog lg))) x5 x6 (some (.dat (dMenu b ms))) y8 (some (.dat (.str shw))) (some (.own [Gd, Wd])) x11 x12 x13 x14 x15 (some (.dat Wd)) x17 x18 m) (by simp [lgS, f1, f2]) ?_
  exact wp_ifF (s1 := lgS sd x2 (some (.dat (.list [Gd, Wd, Gd, Wd]))) (some (.dat (dLog lg))) x5 x6 (some (.dat (dMenu b ms))) y8 (some (.dat (.str shw))) (some (.own [Gd, Wd])) x11 x12 x13 x14 x15 (some (.dat Wd)) x17 x18 m) (by simp [lgS, m2, lk, r1, gNe_str]) (.nx ⟨_, _, _, _, rfl⟩)
def nA : List (List Nat) := [[0, 2, 1, 3]]
def nB : List (List Nat) := [[2, 0, 1, 3]]
def nC : List (List Nat) := [[0, 2, 3, 1]]
theorem isVm {b : Nat} {ms : List (List (List Nat))} (h1 : 1 ≤ b) (h4 : b ≤ 4) (h : ms ≠ [] ∧ ms.length ≤ 8 ∧ ∀ os ∈ ms, os.length ≤ 6 ∧ (∀ o ∈ os, o.length = 2 ^ b ∧ (∀ x ∈ o, x < 2 ^ b) ∧ o.Nodup) ∧ Ban b os) : VMenu b ms :=
  ⟨h.1, h.2.1, fun os ho => ⟨⟨h1, h4, (h.2.2 os ho).1, fun o hoo => isP_dec _ _ ((h.2.2 os ho).2.1 o hoo)⟩, (h.2.2 os ho).2.2⟩⟩
theorem isVl {b : Nat} {lg : List LogI} (h : lg.length ≤ 30 ∧ ∀ x ∈ lg, (∀ p ∈ x.1, p.1 < 2 ^ b ∧ p.2 < 2 ^ b) ∧ x.1.Pairwise fun p q => p.1 < q.1 ∧ p.2 ≠ q.2) : VLog b lg := ⟨h.1, fun x hx => ⟨(h.2 x hx).1, (h.2 x hx).2⟩⟩
def lgA : List LogI := (List.replicate 15 [([(0, 0), (1, 1)], false), ([(0, 0), (2, 1)], true)]).flatten
def lgF : List LogI := [([(8, 0), (9, 1)], false), ([(8, 0), (9, 15)], true)]
theorem tail88_ok {sd : PyData} {x2 x3 x4 x5 x6 x7 x9 x10 x11 x12 x13 x14 x15 x16 x17 x18 : Option VB} {x8 : Option PyData} {m : DS} : Wp (tail88 (lgS sd x2 x3 x4 x5 x6 x7 x8 x9 x10 x11 x12 x13 x14 x15 x16 x17 x18 m)) (fun _ => False) (fun d _ => d = .bool true) := by
  have hAB : VMenu 2 [nA, nB] := isVm (by decide) (by decide) (by decide +kernel)
  have h4m : VMenu 4 [plainB 4] := isVm (by decide) (by decide) (by decide +kernel)
  have h8 : VMenu 2 [nA, nC, nB, nA, nC, nB, nA, nA] := isVm (by decide) (by decide) (by decide +kernel)
  have hA : VMenu 2 [nA] := isVm (by decide) (by decide) (by decide +kernel)
  have h4 : fn_q_halving [.int 4] = .ok (dNet 4 (plainB 4)) := q_halving_ok (b := 4) (by decide) (by decide)
  have h2 : fn_q_halving [.int 2] = .ok (dNet 2 nA) := q_halving_ok (b := 2) (by decide) (by decide)
  have a1 : fn_fitting_nets [dMenu 2 [nA, nB], .tuple [.tuple [.tuple [], .bool true]]] = .ok (.tuple [.int 0, .int 1]) := by
    have := fitting_nets_ok (lg := [([], true)]) hAB (isVl (by decide))
    rw [show going [nA, nB] [([], true)] = [0, 1] by decide +kernel] at this
    exact this
  have a2 : fn_fitting_nets [dMenu 2 [nA, nB], .tuple [.tuple [.tuple [], .bool false]]] = .ok (.tuple []) := by
    have := fitting_nets_ok (lg := [([], false)]) hAB (isVl (by decide))
    rw [show going [nA, nB] [([], false)] = [] by decide +kernel] at this
    exact this
  have a3 : fn_first_false [dMenu 2 [nA, nB], .tuple [.tuple [.tuple [], .bool true], .tuple [.tuple [], .bool false], .tuple [.tuple [], .bool true]]] = .ok (.int 1) := by
    have := first_false_ok (lg := [([], true), ([], false), ([], true)]) hAB (isVl (by decide))
    rw [show firstBad [nA, nB] [([], true), ([], false), ([], true)] = some 1 by decide +kernel] at this
    exact this
  have a4 : fn_first_false [dMenu 2 [nA, nB], .tuple []] = .ok .none := by
    have := first_false_ok (lg := []) hAB (isVl (by decide))
    rw [show firstBad [nA, nB] [] = none by decide +kernel] at this
    exact this
  have a5 : fn_fitting_nets [.tuple [dNet 4 (plainB 4)], dLog lgF] = .ok (.tuple [.int 0]) := by
    have := fitting_nets_ok (lg := lgF) h4m (isVl (by decide))
    rw [show going [plainB 4] lgF = [0] by decide +kernel] at this
    exact this
  have a6 : fn_first_false [.tuple [dNet 4 (plainB 4)], dLog lgF] = .ok .none := by
    have := first_false_ok (lg := lgF) h4m (isVl (by decide))
    rw [show firstBad [plainB 4] lgF = none by decide +kernel] at this
    exact this
  have a7 : fn_fitting_nets [.tuple [dNet 2 nA, dNet 2 nC, dNet 2 nB, dNet 2 nA, dNet 2 nC, dNet 2 nB, dNet 2 nA, dNet 2 nA], dLog lgA] = .ok (.tuple [.int 0, .int 1, .int 2, .int 3, .int 4, .int 5, .int 6, .int 7]) := by
    have := fitting_nets_ok (lg := lgA) h8 (isVl (by decide +kernel))
    rw [show going [nA, nC, nB, nA, nC, nB, nA, nA] lgA = [0, 1, 2, 3, 4, 5, 6, 7] by decide +kernel] at this
    exact this
  have a8 : fn_first_false [.tuple [dNet 2 nA], dLog lgA] = .ok .none := by
    have := first_false_ok (lg := lgA) hA (isVl (by decide +kernel))
    rw [show firstBad [nA] lgA = none by decide +kernel] at this
    exact this
  have a9 : fn_first_false [.tuple [dNet 2 nA, dNet 2 nB], .tuple [.tuple [.tuple [.tuple [.int 0, .int 0], .tuple [.int 1, .int 1]], .bool true]]] = .ok (.int 0) := by
    have := first_false_ok (lg := [([(0, 0), (1, 1)], true)]) hAB (isVl (by decide))
    rw [show firstBad [nA, nB] [([(0, 0), (1, 1)], true)] = some 0 by decide +kernel] at this
    exact this
  have l1 : fn_q_like [.list [.tuple [.int 0, .int 1], .tuple [], .int 1, .none], .list [.tuple [.int 0, .int 1], .tuple [], .int 1, .none]] = .ok (.bool true) := by kernel_rfl
  have l2 : fn_q_like [.list [.tuple [.int 0], .none], .list [.tuple [.int 0], .none]] = .ok (.bool true) := by kernel_rfl
  have l3 : fn_q_like [.list [.tuple [.int 0, .int 1, .int 2, .int 3, .int 4, .int 5, .int 6, .int 7], .none, .int 0], .list [.tuple [.int 0, .int 1, .int 2, .int 3, .int 4, .int 5, .int 6, .int 7], .none, .int 0]] = .ok (.bool true) := by kernel_rfl
  have eM : PyData.tuple [.tuple [.int 2, .tuple [.tuple [.int 0, .int 2, .int 1, .int 3]]], .tuple [.int 2, .tuple [.tuple [.int 2, .int 0, .int 1, .int 3]]]] = dMenu 2 [nA, nB] := rfl
  have eF : PyData.tuple [.tuple [.tuple [.tuple [.int 8, .int 0], .tuple [.int 9, .int 1]], .bool false], .tuple [.tuple [.tuple [.int 8, .int 0], .tuple [.int 9, .int 15]], .bool true]] = dLog lgF := rfl
  have eC : PyData.tuple [.int 2, .tuple [.tuple [.int 0, .int 2, .int 3, .int 1]]] = dNet 2 nC := rfl
  have eB : PyData.tuple [.int 2, .tuple [.tuple [.int 2, .int 0, .int 1, .int 3]]] = dNet 2 nB := rfl
  have eA : gMulT (.tuple [.tuple [.tuple [.tuple [.int 0, .int 0], .tuple [.int 1, .int 1]], .bool false], .tuple [.tuple [.tuple [.int 0, .int 0], .tuple [.int 2, .int 1]], .bool true]]) (.int 15) = some (.dat (dLog lgA)) := rfl
  have e8 : gAdd (.tuple [dNet 2 nA, dNet 2 nC, dNet 2 nB, dNet 2 nA, dNet 2 nC, dNet 2 nB]) (.tuple [dNet 2 nA, dNet 2 nA]) = some (.dat (.tuple [dNet 2 nA, dNet 2 nC, dNet 2 nB, dNet 2 nA, dNet 2 nC, dNet 2 nB, dNet 2 nA, dNet 2 nA])) := rfl
  have e9 : gMulT (.tuple [dNet 2 nA, dNet 2 nC, dNet 2 nB]) (.int 2) = some (.dat (.tuple [dNet 2 nA, dNet 2 nC, dNet 2 nB, dNet 2 nA, dNet 2 nC, dNet 2 nB])) := rfl
  have e10 : gMulT (.tuple [dNet 2 nA]) (.int 2) = some (.dat (.tuple [dNet 2 nA, dNet 2 nA])) := rfl
  generalize dMenu 2 [nA, nB] = MM at a1 a2 a3 a4 eM
  generalize dNet 4 (plainB 4) = N4 at h4 a5 a6
  generalize dLog lgF = LF at a5 a6 eF
  generalize dLog lgA = LA at a7 a8 eA
  generalize dNet 2 nA = NA at h2 a7 a8 a9 e8 e9 e10
  generalize dNet 2 nB = NB at a7 a9 eB e8 e9
  generalize dNet 2 nC = NC at a7 eC e8 e9
  unfold tail88
  refine wp_step (s1 := lgS sd x2 x3 x4 x5 x6 x7 x8 x9 x10 (some (.dat N4)) (some (.dat MM)) x13 x14 x15 x16 x17 x18 m) (by simp [lgS, h4, eM]) ?_
  refine wp_step (s1 := lgS sd x2 (some (.own [.tuple [.int 0, .int 1], .tuple []])) x4 x5 x6 x7 x8 x9 x10 (some (.dat N4)) (some (.dat MM)) x13 x14 x15 x16 x17 x18 m) (by simp [lgS, a1, a2]) ?_
  refine wp_step (s1 := lgS sd x2 (some (.own [.tuple [.int 0, .int 1], .tuple [], .int 1, .none])) x4 x5 x6 x7 x8 x9 x10 (some (.dat N4)) (some (.dat MM)) x13 x14 x15 x16 x17 x18 m) (by simp [lgS, a3, a4]) ?_
  refine wp_step (s1 := lgS sd x2 (some (.dat (.list [.tuple [.int 0, .int 1], .tuple [], .int 1, .none]))) x4 x5 x6 x7 x8 x9 x10 (some (.dat N4)) (some (.dat MM)) x13 x14 x15 x16 x17 x18 m) (by simp [lgS, l1]) ?_
  refine wp_step (s1 := lgS sd x2 (some (.dat (.list [.tuple [.int 0, .int 1], .tuple [], .int 1, .none]))) (some (.dat LF)) x5 x6 x7 x8 x9 x10 (some (.dat N4)) (some (.dat MM)) x13 x14 x15 x16 x17 x18 m) (by simp [lgS, eF]) ?_
  refine wp_step (s1 := lgS sd x2 (some (.dat (.list [.tuple [.int 0, .int 1], .tuple [], .int 1, .none]))) (some (.dat LF)) x5 x6 x7 x8 x9 x10 (some (.dat N4)) (some (.dat MM)) x13 x14 x15 x16 x17 x18 m) (by simp [lgS, a5, a6, l2]) ?_
  refine wp_step (s1 := lgS sd x2 (some (.dat (.list [.tuple [.int 0, .int 1], .tuple [], .int 1, .none]))) (some (.dat LF)) x5 x6 x7 x8 x9 x10 (some (.dat N4)) (some (.dat MM)) (some (.dat NA)) (some (.dat NC)) x15 x16 x17 x18 m) (by simp [lgS, h2, eC]) ?_
  refine wp_step (s1 := lgS sd x2 (some (.dat (.list [.tuple [.int 0, .int 1], .tuple [], .int 1, .none]))) (some (.dat LF)) (some (.dat NB)) x6 x7 x8 x9 x10 (some (.dat N4)) (some (.dat MM)) (some (.dat NA)) (some (.dat NC)) x15 x16 x17 x18 m) (by simp [lgS, eB]) ?_
  refine wp_step (s1 := lgS sd x2 (some (.dat (.list [.tuple [.int 0, .int 1], .tuple [], .int 1, .none]))) (some (.dat LA)) (some (.dat NB)) x6 x7 x8 x9 x10 (some (.dat N4)) (some (.dat MM)) (some (.dat NA)) (some (.dat NC)) x15 x16 x17 x18 m) (by simp [lgS, eA]) ?_
  refine wp_step (s1 := lgS sd x2 (some (.own [.tuple [.int 0, .int 1, .int 2, .int 3, .int 4, .int 5, .int 6, .int 7], .none])) (some (.dat LA)) (some (.dat NB)) x6 x7 x8 x9 x10 (some (.dat N4)) (some (.dat MM)) (some (.dat NA)) (some (.dat NC)) x15 x16 x17 x18 m) (by simp [-e_gAdd_tup, lgS, e9, e10, e8, a7, a8]) ?_
  refine wp_step (s1 := lgS sd x2 (some (.own [.tuple [.int 0, .int 1, .int 2, .int 3, .int 4, .int 5, .int 6, .int 7], .none, .int 0])) (some (.dat LA)) (some (.dat NB)) x6 x7 x8 x9 x10 (some (.dat N4)) (some (.dat MM)) (some (.dat NA)) (some (.dat NC)) x15 x16 x17 x18 m) (by simp [lgS, a9]) ?_
  exact wp_ret (we_ok (a := .bool true) (s1 := lgS sd x2 (some (.dat (.list [.tuple [.int 0, .int 1, .int 2, .int 3, .int 4, .int 5, .int 6, .int 7], .none, .int 0]))) (some (.dat LA)) (some (.dat NB)) x6 x7 x8 x9 x10 (some (.dat N4)) (some (.dat MM)) (some (.dat NA)) (some (.dat NC)) x15 x16 x17 x18 m) (by simp [lgS, l3]) rfl)
end G

namespace G
open PySem PySem.Spec PyProof.Rows L2 VL
theorem law_true (ns : List Int) (hn : ns.length ≤ 63) : fn_law [VL.scrD ns] = some (.bool true) := by
  obtain ⟨c, g, eb, hc⟩ := begun_ok (fn := fn_q_folded) (ff := ff_begun) (fc := fc_begun) rfl rfl rfl ns (by omega)
  have hg : Good 30000 (⟨c, g, 0⟩ : DS) := ⟨Int.le_refl _, by show (0 : Int) + ((30000 : Nat) : Int) ≤ 1152921504606846976; omega, hc⟩
  generalize (⟨c, g, 0⟩ : DS) = m at eb hg
  show lawD fn_q_begun 19 den_law [scrD ns] = some (.bool true)
  refine lawD_ok (m := m) eb ?_
  have key : Wp (den_law (startL 19 m (scrD ns))) (fun _ => False) (fun d _ => d = .bool true) := by
    have e0 : startL 19 m (scrD ns) = lgS (scrD ns) none none none none none none none none none none none none none none none none none m := rfl
    have hlen : gLenS (scrD ns) = some (.dat (.int (ns.length : Nat))) := by
      show ((starS (scrD ns)).map fun ds => int_ ds.length) = _
      simp [starS, scrD, int_]
    rw [e0]
    generalize scrD ns = sd at hlen
    unfold den_law
    have it : VL.iRng1 (dOp gAdd (dC (.int 3)) (dCall gMin2 (daCons (dC (.int 5)) (daCons (dUn gLenS (dVar 0)) daNil)))) (lgS sd none none none none none none none none none none none none none none none none none m) = .ok ((List.range (3 + min 5 ns.length)).map dN) (lgS sd none none none none none none none none none none none none none none none none none m) := by
      refine iRng_ok (n := 3 + min 5 ns.length) ?_ (by omega)
      have gm : gMin2 [.int 5, .int (ns.length : Nat)] = some (.dat (.int (min 5 ns.length : Nat))) := by
        show some (int_ (if (ns.length : Int) < 5 then (ns.length : Int) else 5)) = _
        split
        · rw [show min 5 ns.length = ns.length by omega]; rfl
        · rw [show min 5 ns.length = 5 by omega]; rfl
      generalize min 5 ns.length = k at gm
      simp [lgS, hlen, gm]
    refine wp_seq (wp_for (ds := (List.range (3 + min 5 ns.length)).map dN) (s1 := lgS sd none none none none none none none none none none none none none none none none none m)
      (fun j s => ∃ x2 x3 x4 x5 x6 x7 x8 x9 x10 x11 x12 x13 x14 x15 x16 x17 x18 m, s = lgS sd x2 x3 x4 x5 x6 x7 x8 x9 x10 x11 x12 x13 x14 x15 x16 x17 x18 m ∧ Good ((20 - j) * 1300) m) it ⟨_, _, _, _, _, _, _, _, _, _, _, _, _, _, _, _, _, _, rfl, hg.less (by omega)⟩ ?_ ?_)
    · rintro j d s hj ⟨x2, x3, x4, x5, x6, x7, x8, x9, x10, x11, x12, x13, x14, x15, x16, x17, x18, m1, rfl, hg1⟩
      have hj9 : j < 8 := by have := (List.getElem?_eq_some_iff.mp hj).1; simp at this; omega
      refine ⟨_, rfl, ?_⟩
      obtain ⟨r, m2, e2, hr2, hg2⟩ := drawQ (B := (20 - (j + 1)) * 1300 + 1200) (L := 3) (hg1.less (by omega)) (by decide) (by decide)
      refine wp_step (s1 := lgS sd (some (.dat d)) x3 x4 x5 (some (.dat (.int ((1 + r : Nat) : Int)))) x7 x8 x9 x10 x11 x12 x13 x14 x15 x16 x17 x18 m2) (by simp [lgS, e2]) ?_
      obtain ⟨b, eb⟩ : ∃ b, b = 1 + r := ⟨_, rfl⟩
      rw [← eb]
      have b1 : 1 ≤ b := by omega
      have b3 : b ≤ 3 := by omega
      -- the menu
      obtain ⟨t, m3, e3, ht3, hg3⟩ := drawQ (B := (20 - (j + 1)) * 1300 + 1190) (L := 5) (hg2.less (by omega)) (by decide) (by decide)
      have fi : (dOp gAdd (dC (.int 1)) (dCallM drawFn 1 (ddCons (dFrz (dC (.int 5))) ddNil))) (lgS sd (some (.dat d)) x3 x4 x5 (some (.dat (.int (b : Int)))) x7 x8 x9 x10 x11 x12 x13 x14 x15 x16 x17 x18 m2) = .ok (.dat (.int ((1 + t : Nat) : Int))) (lgS sd (some (.dat d)) x3 x4 x5 (some (.dat (.int (b : Int)))) x7 x8 x9 x10 x11 x12 x13 x14 x15 x16 x17 x18 m3) := by simp [lgS, e3]
      refine wp_seq (wp_set (we_bind (we_bind ?_)))
      refine we_lc1 (s1 := lgS sd (some (.dat d)) x3 x4 x5 (some (.dat (.int (b : Int)))) x7 x8 x9 x10 x11 x12 x13 x14 x15 x16 x17 x18 m3) (ds := (List.range (1 + t)).map dN)
        (fun i acc s => ∃ ms m, acc = ms.map (dNet b) ∧ s = lgS sd (some (.dat d)) x3 x4 x5 (some (.dat (.int (b : Int)))) x7 none x9 x10 x11 x12 x13 x14 x15 x16 x17 x18 m ∧ ms.length = i ∧ (∀ os ∈ ms, VNet b os ∧ Ban b os) ∧ Good ((20 - (j + 1)) * 1300 + 150 + (5 - i) * 200) m)
        (iRng_ok fi (by omega)) (by cases x8 <;> rfl) (by simp; omega) ⟨[], m3, rfl, by cases x8 <;> rfl, rfl, fun p h => (by cases h), hg3.less (by omega)⟩ ?_ ?_
      · rintro i d' acc s hi ⟨ms, m4, rfl, rfl, hl, hms, hg4⟩
        have hin : i < 1 + t := by have := (List.getElem?_eq_some_iff.mp hi).1; simpa using this
        obtain ⟨os, m5, e5, hv, _, hb, hg5⟩ := q_banyan_ok (B := (20 - (j + 1)) * 1300 + 150 + (5 - (i + 1)) * 200) (m := m4) b1 (by omega) (hg4.less (by omega))
        refine ⟨_, rfl, ?_⟩
        refine we_ok (a := dNet b os) (s1 := lgS sd (some (.dat d)) x3 x4 x5 (some (.dat (.int (b : Int)))) x7 (some d') x9 x10 x11 x12 x13 x14 x15 x16 x17 x18 m5) (frz_callM (s1 := lgS sd (some (.dat d)) x3 x4 x5 (some (.dat (.int (b : Int)))) x7 (some d') x9 x10 x11 x12 x13 x14 x15 x16 x17 x18 m4) rfl rfl e5) ⟨ms ++ [os], m5, by simp, rfl, by simp [hl], fun q hq => ?_, hg5⟩
        rcases List.mem_append.mp hq with h | h
        · exact hms q h
        · rw [List.mem_singleton.mp h]; exact ⟨hv, hb⟩
      rintro es s ⟨ms0, m4, rfl, rfl, hl0, hms0, hg4⟩
      rw [List.length_map, List.length_range] at hl0 hg4
      have eb8 : backX [8] (lgS sd (some (.dat d)) x3 x4 x5 (some (.dat (.int (b : Int)))) x7 x8 x9 x10 x11 x12 x13 x14 x15 x16 x17 x18 m3) (lgS sd (some (.dat d)) x3 x4 x5 (some (.dat (.int (b : Int)))) x7 none x9 x10 x11 x12 x13 x14 x15 x16 x17 x18 m4) = lgS sd (some (.dat d)) x3 x4 x5 (some (.dat (.int (b : Int)))) x7 x8 x9 x10 x11 x12 x13 x14 x15 x16 x17 x18 m4 := by cases x8 <;> rfl
      rw [eb8]
      refine we_bind (.ok (.ok ?_))
      refine we_ok (a := .dat (dMenu b ms0)) (s1 := lgS sd (some (.dat d)) x3 x4 x5 (some (.dat (.int (b : Int)))) x7 x8 x9 x10 x11 x12 x13 x14 x15 x16 x17 x18 m4) rfl ?_
      refine .nx ?_
      show Wp _ _ _
      -- the ring
      have ring : ∃ ms m5, (sIf (tdAnd (dTest (dOp gEq (dVar 6) (dC (.int 3)))) (dTest (dOp gEq (dCallM drawFn 1 (ddCons (dFrz (dC (.int 2))) ddNil)) (dC (.int 0))))) (sSet 7 (dOp gAdd (dVar 7) (dTup (ddCons (dFrz (dCallF0 fn_q_ringed)) ddNil)))) sNext) (lgS sd (some (.dat d)) x3 x4 x5 (some (.dat (.int (b : Int)))) (some (.dat (dMenu b ms0))) x8 x9 x10 x11 x12 x13 x14 x15 x16 x17 x18 m4)
          = .nx (lgS sd (some (.dat d)) x3 x4 x5 (some (.dat (.int (b : Int)))) (some (.dat (dMenu b ms))) x8 x9 x10 x11 x12 x13 x14 x15 x16 x17 x18 m5) ∧ VMenu b ms ∧ Good ((20 - (j + 1)) * 1300 + 140) m5 := by
        have vm0 : VMenu b ms0 := ⟨fun z => by rw [z] at hl0; simp at hl0; omega, by omega, hms0⟩
        by_cases hb3 : b = 3
        · subst hb3
          obtain ⟨q, m5, e5, hq5, hg5⟩ := drawQ (B := (20 - (j + 1)) * 1300 + 140) (L := 2) (m := m4) (hg4.less (by omega)) (by decide) (by decide)
          by_cases hq : q = 0
          · subst hq
            have rg := q_ringed_ok
            have a1 : gAdd (dMenu 3 ms0) (.tuple [dNet 3 ringB]) = some (.dat (dMenu 3 (ms0 ++ [ringB]))) := by
              show gAdd (.tuple (ms0.map (dNet 3))) _ = _
              rw [e_gAdd_tup, if_pos (by simp; omega)]
              simp [dMenu]
            refine ⟨ms0 ++ [ringB], m5, ?_, ⟨by simp, by simp; omega, fun os ho => ?_⟩, hg5⟩
            · generalize dNet 3 ringB = RB at rg a1
              simp [lgS, gEq_int, e5, rg, a1]
            · rcases List.mem_append.mp ho with ho | ho
              · exact hms0 os ho
              · rw [List.mem_singleton.mp ho]; exact ⟨ringV, ring_ban⟩
          · exact ⟨ms0, m5, by simp [lgS, gEq_int, e5, hq], vm0, hg5⟩
        · have : ¬ (b : Int) = 3 := by omega
          exact ⟨ms0, m4, by simp [lgS, gEq_int, this], vm0, hg4.less (by omega)⟩
      obtain ⟨ms, m5, e5, vm, hg5⟩ := ring
      refine wp_step e5 ?_
      -- one of them
      have hml := vm.len
      have hm0 : 0 < ms.length := List.length_pos_iff.mpr vm.ne
      obtain ⟨o0, m6, e6, ho6, hg6⟩ := q_of_ok (B := (20 - (j + 1)) * 1300 + 130) (m := m5) (ds := ms.map (dNet b)) (hg5.less (by omega)) (by simpa using hm0) (by rw [List.length_map]; omega)
      obtain ⟨os, ho, rfl⟩ := List.mem_map.mp ho6
      obtain ⟨hv, hb⟩ := vm.ok os ho
      refine wp_step (s1 := lgS sd (some (.dat d)) x3 (some (.dat (dLog []))) x5 (some (.dat (.int (b : Int)))) (some (.dat (dMenu b ms))) x8 x9 x10 x11 x12 x13 x14 (some (.dat (dNet b os))) (some (.dat .none)) x17 x18 m6) (by
        have gl : gList [dMenu b ms] = some (.tmp (ms.map (dNet b))) := rfl
        generalize ms.map (dNet b) = MB at gl e6
        simp [lgS, gl, e6, dLog]) ?_
      refine wp_seq (Wp.mono (log88_ok (B := (20 - (j + 1)) * 1300 + 10) hv hb (hg6.less (by omega))) (fun s hs => ?_) fun _ _ z => z)
      obtain ⟨lg, y8, y17, y18, m7, rfl, hlg, hg7⟩ := hs
      refine (rest88_ok (by omega) vm hlg).mono (fun s hs => ?_) fun _ _ z => z
      obtain ⟨y3, y8', y9, y10, rfl⟩ := hs
      exact ⟨_, _, _, _, _, _, _, _, _, _, _, _, _, _, _, _, _, _, rfl, hg7.less (by omega)⟩
    · rintro s ⟨x2, x3, x4, x5, x6, x7, x8, x9, x10, x11, x12, x13, x14, x15, x16, x17, x18, m1, rfl, hg1⟩
      exact tail88_ok
  exact key
end G

namespace G
open PySem PySem.Spec PyProof.Rows L2 VL
def topS (i : Nat) : Stmt := PySem.Challenge.pw_bitswitches_k88_whole_logs.main.body.getD i (.Pass ⟨0, 0, 0, 0⟩)
abbrev s_is_whole : Stmt := topS 8
theorem sc_is_whole : FnScope ["value", "least", "most"] ["value", "least", "most"] (defScope s_is_whole) := ⟨rfl, rfl, rfl, by decide +kernel, rfl, by decide +kernel, by decide +kernel⟩
abbrev s_is_order : Stmt := topS 9
theorem sc_is_order : FnScope ["value", "many", "one"] ["value", "many"] (defScope s_is_order) := ⟨rfl, rfl, rfl, by decide +kernel, rfl, by decide +kernel, by decide +kernel⟩
abbrev s_wires_of : Stmt := topS 11
theorem sc_wires_of : FnScope ["net"] ["net"] (defScope s_wires_of) := ⟨rfl, rfl, rfl, by decide +kernel, rfl, by decide +kernel, by decide +kernel⟩
abbrev s_need_net : Stmt := topS 10
theorem sc_need_net : FnScope ["net", "number", "order"] ["net"] (defScope s_need_net) := ⟨rfl, rfl, rfl, by decide +kernel, rfl, by decide +kernel, by decide +kernel⟩
abbrev s_next_wires : Stmt := topS 13
theorem sc_next_wires : FnScope ["net", "row", "wire", "place"] ["net", "row", "wire"] (defScope s_next_wires) := ⟨rfl, rfl, rfl, by decide +kernel, rfl, by decide +kernel, by decide +kernel⟩
abbrev s_counts_from : Stmt := topS 14
theorem sc_counts_from : FnScope ["net", "begin", "counts", "row", "later", "wire", "many", "far"] ["net", "begin"] (defScope s_counts_from) := ⟨rfl, rfl, rfl, by decide +kernel, rfl, by decide +kernel, by decide +kernel⟩
abbrev s_is_banyan_of : Stmt := topS 15
theorem sc_is_banyan_of : FnScope ["net", "wire"] ["net"] (defScope s_is_banyan_of) := ⟨rfl, rfl, rfl, by decide +kernel, rfl, by decide +kernel, by decide +kernel⟩
abbrev s_wrong_in_demands : Stmt := topS 17
theorem sc_wrong_in_demands : FnScope ["net", "value", "many", "last", "used", "number", "one"] ["net", "value"] (defScope s_wrong_in_demands) := ⟨rfl, rfl, rfl, by decide +kernel, rfl, by decide +kernel, by decide +kernel⟩
abbrev s_ways_table : Stmt := topS 19
theorem sc_ways_table : FnScope ["net", "found", "first", "rows", "row", "way", "wire"] ["net"] (defScope s_ways_table) := ⟨rfl, rfl, rfl, by decide +kernel, rfl, by decide +kernel, by decide +kernel⟩
abbrev s_is_apart : Stmt := topS 20
theorem sc_is_apart : FnScope ["way", "others", "other", "row", "wire"] ["way", "others"] (defScope s_is_apart) := ⟨rfl, rfl, rfl, by decide +kernel, rfl, by decide +kernel, by decide +kernel⟩
abbrev s_do_keep_apart : Stmt := topS 21
theorem sc_do_keep_apart : FnScope ["own", "number", "way"] ["own"] (defScope s_do_keep_apart) := ⟨rfl, rfl, rfl, by decide +kernel, rfl, by decide +kernel, by decide +kernel⟩
abbrev s_is_like : Stmt := topS 25
theorem sc_is_like : FnScope ["thing", "first"] ["thing", "first"] (defScope s_is_like) := ⟨rfl, rfl, rfl, by decide +kernel, rfl, by decide +kernel, by decide +kernel⟩
abbrev s_need_menu : Stmt := topS 26
theorem sc_need_menu : FnScope ["menu", "number", "thing"] ["menu"] (defScope s_need_menu) := ⟨rfl, rfl, rfl, by decide +kernel, rfl, by decide +kernel, by decide +kernel⟩
abbrev s_need_log : Stmt := topS 27
theorem sc_need_log : FnScope ["menu", "log", "number", "item"] ["menu", "log"] (defScope s_need_log) := ⟨rfl, rfl, rfl, by decide +kernel, rfl, by decide +kernel, by decide +kernel⟩
abbrev s_does_pass_by : Stmt := topS 28
theorem sc_does_pass_by : FnScope ["table", "demands", "pair"] ["table", "demands"] (defScope s_does_pass_by) := ⟨rfl, rfl, rfl, by decide +kernel, rfl, by decide +kernel, by decide +kernel⟩
abbrev s_fitting_in : Stmt := topS 29
theorem sc_fitting_in : FnScope ["menu", "log", "found", "number", "net", "table", "demands", "is_so"] ["menu", "log"] (defScope s_fitting_in) := ⟨rfl, rfl, rfl, by decide +kernel, rfl, by decide +kernel, by decide +kernel⟩
abbrev s_fitting_nets : Stmt := topS 30
theorem sc_fitting_nets : FnScope ["menu", "log"] ["menu", "log"] (defScope s_fitting_nets) := ⟨rfl, rfl, rfl, by decide +kernel, rfl, by decide +kernel, by decide +kernel⟩
abbrev s_first_false : Stmt := topS 31
theorem sc_first_false : FnScope ["menu", "log", "number"] ["menu", "log"] (defScope s_first_false) := ⟨rfl, rfl, rfl, by decide +kernel, rfl, by decide +kernel, by decide +kernel⟩
abbrev s_q_mixed : Stmt := topS 33
theorem sc_q_mixed : FnScope ["_law_cell", "_law_n", "_law_blend"] ["_law_cell", "_law_n"] (defScope s_q_mixed) := ⟨rfl, rfl, rfl, by decide +kernel, rfl, by decide +kernel, by decide +kernel⟩
abbrev s_q_folded : Stmt := topS 34
theorem sc_q_folded : FnScope ["_law_script", "_law_found", "_law_n", "_law_cell"] ["_law_script"] (defScope s_q_folded) := ⟨rfl, rfl, rfl, by decide +kernel, rfl, by decide +kernel, by decide +kernel⟩
abbrev s_q_draw : Stmt := topS 35
theorem sc_q_draw : FnScope ["_law_m", "_law_limit", "_law_n", "_law_lot", "_law_here", "_law_cell"] ["_law_m", "_law_limit"] (defScope s_q_draw) := ⟨rfl, rfl, rfl, by decide +kernel, rfl, by decide +kernel, by decide +kernel⟩
abbrev s_q_begun : Stmt := topS 36
theorem sc_q_begun : FnScope ["_law_script", "_law_m", "_law_cell"] ["_law_script"] (defScope s_q_begun) := ⟨rfl, rfl, rfl, by decide +kernel, rfl, by decide +kernel, by decide +kernel⟩
abbrev s_q_like : Stmt := topS 37
theorem sc_q_like : FnScope ["_law_answer", "_law_due"] ["_law_answer", "_law_due"] (defScope s_q_like) := ⟨rfl, rfl, rfl, by decide +kernel, rfl, by decide +kernel, by decide +kernel⟩
abbrev s_q_of : Stmt := topS 38
theorem sc_q_of : FnScope ["_law_m", "_law_some"] ["_law_m", "_law_some"] (defScope s_q_of) := ⟨rfl, rfl, rfl, by decide +kernel, rfl, by decide +kernel, by decide +kernel⟩
abbrev s_q_order : Stmt := topS 39
theorem sc_q_order : FnScope ["_law_m", "_law_many", "_law_found", "_law_number", "_law_spot"] ["_law_m", "_law_many"] (defScope s_q_order) := ⟨rfl, rfl, rfl, by decide +kernel, rfl, by decide +kernel, by decide +kernel⟩
abbrev s_q_halving : Stmt := topS 40
theorem sc_q_halving : FnScope ["_law_bits", "_law_rows", "_law_row", "_law_size", "_law_order_here", "_law_wire", "_law_front", "_law_back"] ["_law_bits"] (defScope s_q_halving) := ⟨rfl, rfl, rfl, by decide +kernel, rfl, by decide +kernel, by decide +kernel⟩
abbrev s_q_banyan : Stmt := topS 41
theorem sc_q_banyan : FnScope ["_law_m", "_law_bits", "_law_names", "_law_rows", "_law_row", "_law_base", "_law_half", "_law_order_here", "_law_near", "_law_far", "_law_wire", "_law_place", "_law_here", "_law_own", "_law_other", "_law_k"] ["_law_m", "_law_bits"] (defScope s_q_banyan) := ⟨rfl, rfl, rfl, by decide +kernel, rfl, by decide +kernel, by decide +kernel⟩
abbrev s_q_ringed : Stmt := topS 42
theorem sc_q_ringed : FnScope ["_law_first", "_law_last"] [] (defScope s_q_ringed) := ⟨rfl, rfl, rfl, by decide +kernel, rfl, by decide +kernel, by decide +kernel⟩
abbrev s_q_ways : Stmt := topS 43
theorem sc_q_ways : FnScope ["_law_net", "_law_begin", "_law_base", "_law_found", "_law_order_here", "_law_longer", "_law_way", "_law_place"] ["_law_net", "_law_begin"] (defScope s_q_ways) := ⟨rfl, rfl, rfl, by decide +kernel, rfl, by decide +kernel, by decide +kernel⟩
abbrev s_q_apart : Stmt := topS 44
theorem sc_q_apart : FnScope ["_law_way", "_law_others", "_law_other", "_law_one", "_law_two"] ["_law_way", "_law_others"] (defScope s_q_apart) := ⟨rfl, rfl, rfl, by decide +kernel, rfl, by decide +kernel, by decide +kernel⟩
abbrev s_q_demands : Stmt := topS 45
theorem sc_q_demands : FnScope ["_law_m", "_law_net", "_law_tries", "_law_turn", "_law_ins", "_law_outs", "_law_begin", "_law_end"] ["_law_m", "_law_net", "_law_tries"] (defScope s_q_demands) := ⟨rfl, rfl, rfl, by decide +kernel, rfl, by decide +kernel, by decide +kernel⟩
abbrev s_q_passes : Stmt := topS 46
theorem sc_q_passes : FnScope ["_law_net", "_law_some", "_law_own", "_law_begin", "_law_end", "_law_way", "_law_one"] ["_law_net", "_law_some"] (defScope s_q_passes) := ⟨rfl, rfl, rfl, by decide +kernel, rfl, by decide +kernel, by decide +kernel⟩
abbrev s_q_going : Stmt := topS 47
theorem sc_q_going : FnScope ["_law_menu_so", "_law_log_so", "_law_found", "_law_number", "_law_net", "_law_wrong", "_law_some", "_law_is_so"] ["_law_menu_so", "_law_log_so"] (defScope s_q_going) := ⟨rfl, rfl, rfl, by decide +kernel, rfl, by decide +kernel, by decide +kernel⟩
abbrev s_law : Stmt := topS 48
theorem sc_law : FnScope ["_law_script", "_law_m", "_law_turn", "_law_told_so", "_law_log_so", "_law_far_so", "_law_bits", "_law_menu_so", "_law_k", "_law_kept", "_law_due", "_law_four", "_law_less", "_law_two", "_law_side_so", "_law_true", "_law_wrong", "_law_some", "_law_is_so"] ["_law_script"] (defScope s_law) := ⟨rfl, rfl, rfl, by decide +kernel, rfl, by decide +kernel, by decide +kernel⟩
structure Wd (K : PySem.W.Frag) (mg : Str → Option Value) (ad : Nat → Addr) (fd : Nat → FuncData) : Prop where
  F_is_whole : Fun K "is_whole" "is_whole" s_is_whole (ad 0) (fd 0)
  g_is_whole : mg "is_whole" = some (.ref (ad 0))
  b_is_whole : Binds K (fd 0) ["value", "least", "most"] []
  F_is_order : Fun K "is_order" "is_order" s_is_order (ad 1) (fd 1)
  g_is_order : mg "is_order" = some (.ref (ad 1))
  b_is_order : Binds K (fd 1) ["value", "many"] []
  F_wires_of : Fun K "wires_of" "wires_of" s_wires_of (ad 2) (fd 2)
  g_wires_of : mg "wires_of" = some (.ref (ad 2))
  b_wires_of : Binds K (fd 2) ["net"] []
  F_need_net : Fun K "need_net" "need_net" s_need_net (ad 3) (fd 3)
  g_need_net : mg "need_net" = some (.ref (ad 3))
  b_need_net : Binds K (fd 3) ["net"] []
  F_next_wires : Fun K "next_wires" "next_wires" s_next_wires (ad 4) (fd 4)
  g_next_wires : mg "next_wires" = some (.ref (ad 4))
  b_next_wires : Binds K (fd 4) ["net", "row", "wire"] []
  F_counts_from : Fun K "counts_from" "counts_from" s_counts_from (ad 5) (fd 5)
  g_counts_from : mg "counts_from" = some (.ref (ad 5))
  b_counts_from : Binds K (fd 5) ["net", "begin"] []
  F_is_banyan_of : Fun K "is_banyan_of" "is_banyan_of" s_is_banyan_of (ad 6) (fd 6)
  g_is_banyan_of : mg "is_banyan_of" = some (.ref (ad 6))
  b_is_banyan_of : Binds K (fd 6) ["net"] []
  F_wrong_in_demands : Fun K "wrong_in_demands" "wrong_in_demands" s_wrong_in_demands (ad 7) (fd 7)
  g_wrong_in_demands : mg "wrong_in_demands" = some (.ref (ad 7))
  b_wrong_in_demands : Binds K (fd 7) ["net", "value"] []
  F_ways_table : Fun K "ways_table" "ways_table" s_ways_table (ad 8) (fd 8)
  g_ways_table : mg "ways_table" = some (.ref (ad 8))
  b_ways_table : Binds K (fd 8) ["net"] []
  F_is_apart : Fun K "is_apart" "is_apart" s_is_apart (ad 9) (fd 9)
  g_is_apart : mg "is_apart" = some (.ref (ad 9))
  b_is_apart : Binds K (fd 9) ["way", "others"] []
  F_do_keep_apart : Fun K "do_keep_apart" "do_keep_apart" s_do_keep_apart (ad 10) (fd 10)
  g_do_keep_apart : mg "do_keep_apart" = some (.ref (ad 10))
  b_do_keep_apart : Binds K (fd 10) ["own"] []
  F_is_like : Fun K "is_like" "is_like" s_is_like (ad 11) (fd 11)
  g_is_like : mg "is_like" = some (.ref (ad 11))
  b_is_like : Binds K (fd 11) ["thing", "first"] []
  F_need_menu : Fun K "need_menu" "need_menu" s_need_menu (ad 12) (fd 12)
  g_need_menu : mg "need_menu" = some (.ref (ad 12))
  b_need_menu : Binds K (fd 12) ["menu"] []
  F_need_log : Fun K "need_log" "need_log" s_need_log (ad 13) (fd 13)
  g_need_log : mg "need_log" = some (.ref (ad 13))
  b_need_log : Binds K (fd 13) ["menu", "log"] []
  F_does_pass_by : Fun K "does_pass_by" "does_pass_by" s_does_pass_by (ad 14) (fd 14)
  g_does_pass_by : mg "does_pass_by" = some (.ref (ad 14))
  b_does_pass_by : Binds K (fd 14) ["table", "demands"] []
  F_fitting_in : Fun K "fitting_in" "fitting_in" s_fitting_in (ad 15) (fd 15)
  g_fitting_in : mg "fitting_in" = some (.ref (ad 15))
  b_fitting_in : Binds K (fd 15) ["menu", "log"] []
  F_fitting_nets : Fun K "fitting_nets" "fitting_nets" s_fitting_nets (ad 16) (fd 16)
  g_fitting_nets : mg "fitting_nets" = some (.ref (ad 16))
  b_fitting_nets : Binds K (fd 16) ["menu", "log"] []
  F_first_false : Fun K "first_false" "first_false" s_first_false (ad 17) (fd 17)
  g_first_false : mg "first_false" = some (.ref (ad 17))
  b_first_false : Binds K (fd 17) ["menu", "log"] []
  F_q_mixed : Fun K "_law_mixed" "_law_mixed" s_q_mixed (ad 18) (fd 18)
  g_q_mixed : mg "_law_mixed" = some (.ref (ad 18))
  b_q_mixed : Binds K (fd 18) ["_law_cell", "_law_n"] []
  F_q_folded : Fun K "_law_folded" "_law_folded" s_q_folded (ad 19) (fd 19)
  g_q_folded : mg "_law_folded" = some (.ref (ad 19))
  b_q_folded : Binds K (fd 19) ["_law_script"] []
  F_q_draw : Fun K "_law_draw" "_law_draw" s_q_draw (ad 20) (fd 20)
  g_q_draw : mg "_law_draw" = some (.ref (ad 20))
  b_q_draw : Binds K (fd 20) ["_law_m", "_law_limit"] []
  F_q_begun : Fun K "_law_begun" "_law_begun" s_q_begun (ad 21) (fd 21)
  g_q_begun : mg "_law_begun" = some (.ref (ad 21))
  b_q_begun : Binds K (fd 21) ["_law_script"] []
  F_q_like : Fun K "_law_like" "_law_like" s_q_like (ad 22) (fd 22)
  g_q_like : mg "_law_like" = some (.ref (ad 22))
  b_q_like : Binds K (fd 22) ["_law_answer", "_law_due"] []
  F_q_of : Fun K "_law_of" "_law_of" s_q_of (ad 23) (fd 23)
  g_q_of : mg "_law_of" = some (.ref (ad 23))
  b_q_of : Binds K (fd 23) ["_law_m", "_law_some"] []
  F_q_order : Fun K "_law_order" "_law_order" s_q_order (ad 24) (fd 24)
  g_q_order : mg "_law_order" = some (.ref (ad 24))
  b_q_order : Binds K (fd 24) ["_law_m", "_law_many"] []
  F_q_halving : Fun K "_law_halving" "_law_halving" s_q_halving (ad 25) (fd 25)
  g_q_halving : mg "_law_halving" = some (.ref (ad 25))
  b_q_halving : Binds K (fd 25) ["_law_bits"] []
  F_q_banyan : Fun K "_law_banyan" "_law_banyan" s_q_banyan (ad 26) (fd 26)
  g_q_banyan : mg "_law_banyan" = some (.ref (ad 26))
  b_q_banyan : Binds K (fd 26) ["_law_m", "_law_bits"] []
  F_q_ringed : Fun K "_law_ringed" "_law_ringed" s_q_ringed (ad 27) (fd 27)
  g_q_ringed : mg "_law_ringed" = some (.ref (ad 27))
  b_q_ringed : Binds K (fd 27) [] []
  F_q_ways : Fun K "_law_ways" "_law_ways" s_q_ways (ad 28) (fd 28)
  g_q_ways : mg "_law_ways" = some (.ref (ad 28))
  b_q_ways : Binds K (fd 28) ["_law_net", "_law_begin"] []
  F_q_apart : Fun K "_law_apart" "_law_apart" s_q_apart (ad 29) (fd 29)
  g_q_apart : mg "_law_apart" = some (.ref (ad 29))
  b_q_apart : Binds K (fd 29) ["_law_way", "_law_others"] []
  F_q_demands : Fun K "_law_demands" "_law_demands" s_q_demands (ad 30) (fd 30)
  g_q_demands : mg "_law_demands" = some (.ref (ad 30))
  b_q_demands : Binds K (fd 30) ["_law_m", "_law_net", "_law_tries"] []
  F_q_passes : Fun K "_law_passes" "_law_passes" s_q_passes (ad 31) (fd 31)
  g_q_passes : mg "_law_passes" = some (.ref (ad 31))
  b_q_passes : Binds K (fd 31) ["_law_net", "_law_some"] []
  F_q_going : Fun K "_law_going" "_law_going" s_q_going (ad 32) (fd 32)
  g_q_going : mg "_law_going" = some (.ref (ad 32))
  b_q_going : Binds K (fd 32) ["_law_menu_so", "_law_log_so"] []
  F_law : Fun K "law" "law" s_law (ad 33) (fd 33)
  g_law : mg "law" = some (.ref (ad 33))
  b_law : Binds K (fd 33) ["_law_script"] []
  c_MOST_BITS : ∃ t, mg "MOST_BITS" = some (.int 4 t)
  c_MOST_LOG : ∃ t, mg "MOST_LOG" = some (.int 30 t)
  c_MOST_MENU : ∃ t, mg "MOST_MENU" = some (.int 8 t)
  c_MOST_ROWS : ∃ t, mg "MOST_ROWS" = some (.int 7 t)
  z_all : mg "all" = none
  z_any : mg "any" = none
  z_bool : mg "bool" = none
  z_enumerate : mg "enumerate" = none
  z_int : mg "int" = none
  z_isinstance : mg "isinstance" = none
  z_len : mg "len" = none
  z_list : mg "list" = none
  z_min : mg "min" = none
  z_range : mg "range" = none
  z_repr : mg "repr" = none
  z_set : mg "set" = none
  z_sorted : mg "sorted" = none
  z_tuple : mg "tuple" = none
  z_zip : mg "zip" = none
section
variable {P : Program} {w : World} {K : PySem.W.Frag} {mg : Str → Option Value} {base : Heap} {ad : Nat → Addr} {fd : Nat → FuncData}
theorem bd_is_whole (W : Wd K mg ad fd) : BodyOk P w K mg base ["value", "least", "most"] "is_whole" (ad 0) 0 (defScope s_is_whole) (defBody s_is_whole) den_is_whole :=
  fun cdv A outer s H E C hr hg => (vss_one (vs_ret (vd_of (ve_and (ve_isi .int (ve_var 0) W.z_isinstance W.z_int (by decide +kernel)) (ve_and (ve_not (ve_isi .bool (ve_var 0) W.z_isinstance W.z_bool (by decide +kernel))) (ve_one (ve_chain o_le o_le (ve_var 1) (ve_var 0) (ve_var 2))))))))
theorem ok_is_whole (W : Wd K mg ad fd) : FnG P w K mg base CX0 1 (ad 0) (fd 0) ["value", "least", "most"] (spP K 3 fn_is_whole) := okP W.F_is_whole sc_is_whole (bd_is_whole W)
theorem bd_is_order (W : Wd K mg ad fd) : BodyOk P w K mg base ["value", "many", "one"] "is_order" (ad 1) 1 (defScope s_is_order) (defBody s_is_order) den_is_order :=
  fun cdv A outer s H E C hr hg => (vss_cons (vs_if (vt_w (vw_or (vt_not (vt_val (ve_isi .tuple (ve_var 0) W.z_isinstance W.z_tuple (by decide +kernel)))) (vw_or (vt_cmp (o_ne (u64 hr)) (ve_callB c_len (va_cons (ve_var 0) va_nil) W.z_len (by decide +kernel)) (ve_var 1)) (vw_or1 (vt_not (vt_val (ve_callB (c_all rfl) (va_cons (ve_lc (own := [("one", 2)]) rfl sc_is_order.nd (vi_seq (vd_of (ve_var 0))) (blkOk_by (by kernel_rfl)) (by decide) (fun _ _ _ _ _ => (vg_name (i := 2) sc_is_order.nd)) (fun _ _ _ _ _ => vts_nil) (fun _ _ _ _ _ => (vd_of (ve_callN (ok_is_whole W) (hr.mono (by decide)) hg W.g_is_whole W.F_is_whole.kp W.b_is_whole (va_cons (ve_var 2) (va_cons ve_int (va_cons (ve_op o_sub (ve_var 1) ve_int) va_nil))) (fun s ds s' h => (LDA.cons (LDA.cons (LDA.cons LDA.nil))).lg h))))) va_nil) W.z_all (by decide +kernel)))))))) (vss_one (vs_ret (vd_of ve_bl))) vss_nil) (vss_one (vs_ret (vd_of (ve_cmp (o_eq (u64 hr)) (ve_lenset rfl (ve_var 0) W.z_len W.z_set) (ve_var 1))))))
theorem ok_is_order (W : Wd K mg ad fd) : FnG P w K mg base CX0 2 (ad 1) (fd 1) ["value", "many"] (spP K 2 fn_is_order) := okP W.F_is_order sc_is_order (bd_is_order W)
theorem bd_wires_of (W : Wd K mg ad fd) : BodyOk P w K mg base ["net"] "wires_of" (ad 2) 0 (defScope s_wires_of) (defBody s_wires_of) den_wires_of :=
  fun cdv A outer s H E C hr hg => (vss_one (vs_ret (vd_of (ve_op o_shl ve_int (ve_ix (ve_var 0) ve_int)))))
theorem ok_wires_of (W : Wd K mg ad fd) : FnG P w K mg base CX0 1 (ad 2) (fd 2) ["net"] (spP K 1 fn_wires_of) := okP W.F_wires_of sc_wires_of (bd_wires_of W)
theorem bd_need_net (W : Wd K mg ad fd) : BodyOk P w K mg base ["net", "number", "order"] "need_net" (ad 3) 2 (defScope s_need_net) (defBody s_need_net) den_need_net :=
  fun cdv A outer s H E C hr hg => (vss_cons (vs_if (vt_w (vw_or (vt_not (vt_val (ve_isi .tuple (ve_var 0) W.z_isinstance W.z_tuple (by decide +kernel)))) (vw_or1 (vt_cmp (o_ne (u64 hr)) (ve_callB c_len (va_cons (ve_var 0) va_nil) W.z_len (by decide +kernel)) ve_int)))) (vss_one vs_never) vss_nil) (vss_cons (vs_if (vt_not (vt_val (ve_callN (ok_is_whole W) (hr.mono (by decide)) hg W.g_is_whole W.F_is_whole.kp W.b_is_whole (va_cons (ve_ix (ve_var 0) ve_int) (va_cons ve_int (va_cons (ve_globIE W.c_MOST_BITS) va_nil))) (fun s ds s' h => (LDA.cons (LDA.cons (LDA.cons LDA.nil))).lg h)))) (vss_one vs_never) vss_nil) (vss_cons (vs_if (vt_w (vw_or (vt_not (vt_val (ve_isi .tuple (ve_ix (ve_var 0) ve_int) W.z_isinstance W.z_tuple (by decide +kernel)))) (vw_or1 (vt_cmp o_ge (ve_callB c_len (va_cons (ve_ix (ve_var 0) ve_int) va_nil) W.z_len (by decide +kernel)) (ve_globIE W.c_MOST_ROWS))))) (vss_one vs_never) vss_nil) (vss_cons (vs_for PassesOwn.never rfl (vi_enum (vds_cons (vd_of (ve_ix (ve_var 0) ve_int)) vds_nil) W.z_enumerate) (vg_tup (n := 2) rfl (vgs_cons (vg_name (i := 1) sc_need_net.nd) (vgs_cons (vg_name (i := 2) sc_need_net.nd) vgs_nil))) (vss_one (vs_if (vt_not (vt_val (ve_callN (ok_is_order W) (hr.mono (by decide)) hg W.g_is_order W.F_is_order.kp W.b_is_order (va_cons (ve_var 2) (va_cons (ve_callN (ok_wires_of W) (hr.mono (by decide)) hg W.g_wires_of W.F_wires_of.kp W.b_wires_of (va_cons (ve_var 0) va_nil) (fun s ds s' h => (LDA.cons LDA.nil).lg h)) va_nil)) (fun s ds s' h => (LDA.cons (LDA.cons LDA.nil)).lg h)))) (vss_one vs_never) vss_nil))) (vss_one (vs_ret (vd_of (ve_var 0))))))))
theorem ok_need_net (W : Wd K mg ad fd) : FnG P w K mg base CX0 3 (ad 3) (fd 3) ["net"] (spP K 1 fn_need_net) := okP W.F_need_net sc_need_net (bd_need_net W)
theorem bd_next_wires (W : Wd K mg ad fd) : BodyOk P w K mg base ["net", "row", "wire", "place"] "next_wires" (ad 4) 0 (defScope s_next_wires) (defBody s_next_wires) den_next_wires :=
  fun cdv A outer s H E C hr hg => (vss_cons (vs_set (i := 3) sc_next_wires.nd (ve_ix (ve_ix (ve_ix (ve_var 0) ve_int) (ve_var 1)) (ve_var 2))) (vss_one (vs_ret (vd_of (ve_lst (vds_cons (vd_of (ve_op o_sub (ve_var 3) (ve_op o_mod (ve_var 3) ve_int))) (vds_cons (vd_of (ve_op o_add (ve_op o_sub (ve_var 3) (ve_op o_mod (ve_var 3) ve_int)) ve_int)) vds_nil)))))))
theorem ok_next_wires (W : Wd K mg ad fd) : FnG P w K mg base CX0 1 (ad 4) (fd 4) ["net", "row", "wire"] (spP K 3 fn_next_wires) := okP W.F_next_wires sc_next_wires (bd_next_wires W)
theorem bd_counts_from (W : Wd K mg ad fd) : BodyOk P w K mg base ["net", "begin", "counts", "row", "later", "wire", "many", "far"] "counts_from" (ad 5) 1 (defScope s_counts_from) (defBody s_counts_from) den_counts_from :=
  fun cdv A outer s H E C hr hg => (vss_cons (vs_set (i := 2) sc_counts_from.nd (ve_op o_mulT (ve_lst (vds_cons (vd_of ve_int) vds_nil)) (ve_callN (ok_wires_of W) (hr.mono (by decide)) hg W.g_wires_of W.F_wires_of.kp W.b_wires_of (va_cons (ve_var 0) va_nil) (fun s ds s' h => (LDA.cons LDA.nil).lg h)))) (vss_cons (vs_seti2 (vd_of ve_int) (pg_sub (pv 2) (ve_op o_sub (ve_var 1) (ve_op o_mod (ve_var 1) ve_int)).run set_list) (pg_sub (pv 2) (ve_op o_add (ve_op o_sub (ve_var 1) (ve_op o_mod (ve_var 1) ve_int)) ve_int).run set_list)) (vss_cons (vs_for PassesOwn.never rfl (vi_rng1 (ve_callB c_len (va_cons (ve_ix (ve_var 0) ve_int) va_nil) W.z_len (by decide +kernel)) W.z_range) (vg_name (i := 3) sc_counts_from.nd) (vss_cons (vs_set (i := 4) sc_counts_from.nd (ve_op o_mulT (ve_lst (vds_cons (vd_of ve_int) vds_nil)) (ve_callN (ok_wires_of W) (hr.mono (by decide)) hg W.g_wires_of W.F_wires_of.kp W.b_wires_of (va_cons (ve_var 0) va_nil) (fun s ds s' h => (LDA.cons LDA.nil).lg h)))) (vss_cons (vs_for PassesOwn.never rfl (vi_enum (vds_cons (vd_of (ve_var 2)) vds_nil) W.z_enumerate) (vg_tup (n := 2) rfl (vgs_cons (vg_name (i := 5) sc_counts_from.nd) (vgs_cons (vg_name (i := 6) sc_counts_from.nd) vgs_nil))) (vss_one (vs_for PassesOwn.never rfl (vi_seq (vd_of (ve_callF (ok_next_wires W) (hr.mono (by decide)) hg W.g_next_wires W.F_next_wires.kp W.b_next_wires (vds_cons (vd_of (ve_var 0)) (vds_cons (vd_of (ve_var 3)) (vds_cons (vd_of (ve_var 5)) vds_nil))) (fun s ds s' h => (LDD.cons (LDD.cons (LDD.cons LDD.nil))).lg h)))) (vg_name (i := 7) sc_counts_from.nd) (vss_one (vs_augI (pv 4) (ve_var 7) (ve_var 6) ip_add))))) (vss_one (vs_set (i := 2) sc_counts_from.nd (ve_var 4)))))) (vss_one (vs_ret (vd_of (ve_var 2)))))))
theorem ok_counts_from (W : Wd K mg ad fd) : FnG P w K mg base CX0 2 (ad 5) (fd 5) ["net", "begin"] (spP K 2 fn_counts_from) := okP W.F_counts_from sc_counts_from (bd_counts_from W)
theorem bd_is_banyan_of (W : Wd K mg ad fd) : BodyOk P w K mg base ["net", "wire"] "is_banyan_of" (ad 6) 2 (defScope s_is_banyan_of) (defBody s_is_banyan_of) den_is_banyan_of :=
  fun cdv A outer s H E C hr hg => (vss_one (vs_ret (vd_of (ve_callB (c_all rfl) (va_cons (ve_lc (own := [("wire", 1)]) rfl sc_is_banyan_of.nd (vi_rng1 (ve_callN (ok_wires_of W) (hr.mono (by decide)) hg W.g_wires_of W.F_wires_of.kp W.b_wires_of (va_cons (ve_var 0) va_nil) (fun s ds s' h => (LDA.cons LDA.nil).lg h)) W.z_range) (blkOk_by (by kernel_rfl)) (by decide) (fun _ _ _ _ _ => (vg_name (i := 1) sc_is_banyan_of.nd)) (fun _ _ _ _ _ => vts_nil) (fun _ _ _ _ _ => (vd_of (ve_cmp (o_eq (u64 hr)) (ve_callF (ok_counts_from W) (hr.mono (by decide)) hg W.g_counts_from W.F_counts_from.kp W.b_counts_from (vds_cons (vd_of (ve_var 0)) (vds_cons (vd_of (ve_var 1)) vds_nil)) (fun s ds s' h => (LDD.cons (LDD.cons LDD.nil)).lg h)) (ve_op o_mulT (ve_lst (vds_cons (vd_of ve_int) vds_nil)) (ve_callN (ok_wires_of W) (hr.mono (by decide)) hg W.g_wires_of W.F_wires_of.kp W.b_wires_of (va_cons (ve_var 0) va_nil) (fun s ds s' h => (LDA.cons LDA.nil).lg h))))))) va_nil) W.z_all (by decide +kernel)))))
theorem ok_is_banyan_of (W : Wd K mg ad fd) : FnG P w K mg base CX0 3 (ad 6) (fd 6) ["net"] (spP K 1 fn_is_banyan_of) := okP W.F_is_banyan_of sc_is_banyan_of (bd_is_banyan_of W)
theorem bd_wrong_in_demands (W : Wd K mg ad fd) : BodyOk P w K mg base ["net", "value", "many", "last", "used", "number", "one"] "wrong_in_demands" (ad 7) 1 (defScope s_wrong_in_demands) (defBody s_wrong_in_demands) den_wrong_in_demands :=
  fun cdv A outer s H E C hr hg => (vss_cons (vs_if (vt_not (vt_val (ve_isi .tuple (ve_var 1) W.z_isinstance W.z_tuple (by decide +kernel)))) (vss_one (vs_ret (vd_of (ve_lst (vds_cons (vd_of ve_non) vds_nil))))) vss_nil) (vss_cons (vs_par3 (i0 := 2) (i1 := 3) (i2 := 4) rfl sc_wrong_in_demands.nd (ve_callN (ok_wires_of W) (hr.mono (by decide)) hg W.g_wires_of W.F_wires_of.kp W.b_wires_of (va_cons (ve_var 0) va_nil) (fun s ds s' h => (LDA.cons LDA.nil).lg h)) (ve_un o_neg ve_int) (ve_lst vds_nil)) (vss_cons (vs_for PassesOwn.never rfl (vi_enum (vds_cons (vd_of (ve_var 1)) vds_nil) W.z_enumerate) (vg_tup (n := 2) rfl (vgs_cons (vg_name (i := 5) sc_wrong_in_demands.nd) (vgs_cons (vg_name (i := 6) sc_wrong_in_demands.nd) vgs_nil))) (vss_cons (vs_if (vt_w (vw_or (vt_not (vt_val (ve_isi .tuple (ve_var 6) W.z_isinstance W.z_tuple (by decide +kernel)))) (vw_or1 (vt_cmp (o_ne (u64 hr)) (ve_callB c_len (va_cons (ve_var 6) va_nil) W.z_len (by decide +kernel)) ve_int)))) (vss_one (vs_ret (vd_of (ve_lst (vds_cons (vd_of (ve_var 5)) vds_nil))))) vss_nil) (vss_cons (vs_if (vt_w (vw_or (vt_not (vt_val (ve_callN (ok_is_whole W) (hr.mono (by decide)) hg W.g_is_whole W.F_is_whole.kp W.b_is_whole (va_cons (ve_ix (ve_var 6) ve_int) (va_cons (ve_op o_add (ve_var 3) ve_int) (va_cons (ve_op o_sub (ve_var 2) ve_int) va_nil))) (fun s ds s' h => (LDA.cons (LDA.cons (LDA.cons LDA.nil))).lg h)))) (vw_or (vt_not (vt_val (ve_callN (ok_is_whole W) (hr.mono (by decide)) hg W.g_is_whole W.F_is_whole.kp W.b_is_whole (va_cons (ve_ix (ve_var 6) ve_int) (va_cons ve_int (va_cons (ve_op o_sub (ve_var 2) ve_int) va_nil))) (fun s ds s' h => (LDA.cons (LDA.cons (LDA.cons LDA.nil))).lg h)))) (vw_or1 (vt_cmp (o_in (u65 hr)) (ve_ix (ve_var 6) ve_int) (ve_var 4)))))) (vss_one (vs_ret (vd_of (ve_lst (vds_cons (vd_of (ve_var 5)) vds_nil))))) vss_nil) (vss_cons (vs_set (i := 3) sc_wrong_in_demands.nd (ve_ix (ve_var 6) ve_int)) (vss_one (vs_app (pe_bm PySem.F.plainAttrs_list PySem.F.slot_list_append PySem.F.type_list_append mt_append (pv 4) (pa_cons (vd_of (ve_ix (ve_var 6) ve_int)).run pa_nil)))))))) (vss_one (vs_ret (vd_of (ve_lst vds_nil)))))))
theorem ok_wrong_in_demands (W : Wd K mg ad fd) : FnG P w K mg base CX0 2 (ad 7) (fd 7) ["net", "value"] (spP K 2 fn_wrong_in_demands) := okP W.F_wrong_in_demands sc_wrong_in_demands (bd_wrong_in_demands W)
theorem bd_ways_table (W : Wd K mg ad fd) : BodyOk P w K mg base ["net", "found", "first", "rows", "row", "way", "wire"] "ways_table" (ad 8) 1 (defScope s_ways_table) (defBody s_ways_table) den_ways_table :=
  fun cdv A outer s H E C hr hg => (vss_cons (vs_set (i := 1) sc_ways_table.nd ve_dnewT) (vss_cons (vs_for PassesOwn.never rfl (vi_rng3 ve_int (ve_callN (ok_wires_of W) (hr.mono (by decide)) hg W.g_wires_of W.F_wires_of.kp W.b_wires_of (va_cons (ve_var 0) va_nil) (fun s ds s' h => (LDA.cons LDA.nil).lg h)) ve_int W.z_range) (vg_name (i := 2) sc_ways_table.nd) (vss_cons (vs_set (i := 3) sc_ways_table.nd (ve_lst (vds_cons (vd_of (ve_tup (vds_cons (vd_of (ve_var 2)) vds_nil))) (vds_cons (vd_of (ve_tup (vds_cons (vd_of (ve_op o_add (ve_var 2) ve_int)) vds_nil))) vds_nil)))) (vss_cons (vs_for PassesOwn.never rfl (vi_rng1 (ve_callB c_len (va_cons (ve_ix (ve_var 0) ve_int) va_nil) W.z_len (by decide +kernel)) W.z_range) (vg_name (i := 4) sc_ways_table.nd) (vss_one (vs_setLc2 (i := 3) (own := [("way", 5), ("wire", 6)]) (vs1 := [6]) rfl sc_ways_table.nd (vi_seq (vd_of (ve_var 3))) (blkOk_by (by kernel_rfl)) (by decide) (by decide) (by decide) (fun _ _ _ _ _ => (vg_name (i := 5) sc_ways_table.nd)) (fun _ _ _ _ _ => vts_nil) (fun _ _ _ _ _ => (vi_seq (vd_of (ve_callF (ok_next_wires W) (hr.mono (by decide)) hg W.g_next_wires W.F_next_wires.kp W.b_next_wires (vds_cons (vd_of (ve_var 0)) (vds_cons (vd_of (ve_var 4)) (vds_cons (vd_of (ve_ix (ve_var 5) (ve_un o_neg ve_int))) vds_nil))) (fun s ds s' h => (LDD.cons (LDD.cons (LDD.cons LDD.nil))).lg h))))) (fun _ _ _ _ _ => (vg_name (i := 6) sc_ways_table.nd)) (fun _ _ _ _ _ => vts_nil) (fun _ _ _ _ _ => (vd_of (ve_tup (vds_star (vd_of (ve_var 5)) (vds_cons (vd_of (ve_var 6)) vds_nil)))))))) (vss_one (vs_for PassesOwn.never rfl (vi_seq (vd_of (ve_var 3))) (vg_name (i := 5) sc_ways_table.nd) (vss_cons (vs_dputT (u1 hr) (pv 1) (ve_tup (vds_cons (vd_of (ve_var 2)) (vds_cons (vd_of (ve_ix (ve_var 5) (ve_un o_neg ve_int))) vds_nil))) (vd_of (ve_var 5))) (vss_one (vs_dputT (u1 hr) (pv 1) (ve_tup (vds_cons (vd_of (ve_op o_add (ve_var 2) ve_int)) (vds_cons (vd_of (ve_ix (ve_var 5) (ve_un o_neg ve_int))) vds_nil))) (vd_of (ve_var 5)))))))))) (vss_one (vs_ret (vd_of (ve_var 1))))))
theorem ok_ways_table (W : Wd K mg ad fd) : FnG P w K mg base CX0 2 (ad 8) (fd 8) ["net"] (spP K 1 fn_ways_table) := okP W.F_ways_table sc_ways_table (bd_ways_table W)
theorem bd_is_apart (W : Wd K mg ad fd) : BodyOk P w K mg base ["way", "others", "other", "row", "wire"] "is_apart" (ad 9) 0 (defScope s_is_apart) (defBody s_is_apart) den_is_apart :=
  fun cdv A outer s H E C hr hg => (vss_one (vs_ret (vd_of (ve_not (ve_callB (c_any rfl) (va_cons (ve_lc2 (own := [("other", 2), ("row", 3), ("wire", 4)]) (vs1 := [3, 4]) rfl sc_is_apart.nd (vi_seq (vd_of (ve_var 1))) (blkOk_by (by kernel_rfl)) (by decide) (by decide) (by decide) (fun _ _ _ _ _ => (vg_name (i := 2) sc_is_apart.nd)) (fun _ _ _ _ _ => vts_nil) (fun _ _ _ _ _ => (vi_enum (vds_cons (vd_of (ve_var 0)) vds_nil) W.z_enumerate)) (fun _ _ _ _ _ => (vg_tup (n := 2) rfl (vgs_cons (vg_name (i := 3) sc_is_apart.nd) (vgs_cons (vg_name (i := 4) sc_is_apart.nd) vgs_nil)))) (fun _ _ _ _ _ => vts_nil) (fun _ _ _ _ _ => (vd_of (ve_cmp (o_eq (u64 hr)) (ve_var 4) (ve_ix (ve_var 2) (ve_var 3)))))) va_nil) W.z_any (by decide +kernel))))))
theorem ok_is_apart (W : Wd K mg ad fd) : FnG P w K mg base CX0 1 (ad 9) (fd 9) ["way", "others"] (spP K 2 fn_is_apart) := okP W.F_is_apart sc_is_apart (bd_is_apart W)
theorem bd_do_keep_apart (W : Wd K mg ad fd) : BodyOk P w K mg base ["own", "number", "way"] "do_keep_apart" (ad 10) 1 (defScope s_do_keep_apart) (defBody s_do_keep_apart) den_do_keep_apart :=
  fun cdv A outer s H E C hr hg => (vss_one (vs_ret (vd_of (ve_callB (c_all rfl) (va_cons (ve_lc (own := [("number", 1), ("way", 2)]) rfl sc_do_keep_apart.nd (vi_enum (vds_cons (vd_of (ve_var 0)) vds_nil) W.z_enumerate) (blkOk_by (by kernel_rfl)) (by decide) (fun _ _ _ _ _ => (vg_tup (n := 2) rfl (vgs_cons (vg_name (i := 1) sc_do_keep_apart.nd) (vgs_cons (vg_name (i := 2) sc_do_keep_apart.nd) vgs_nil)))) (fun _ _ _ _ _ => vts_nil) (fun _ _ _ _ _ => (vd_of (ve_callN (ok_is_apart W) (hr.mono (by decide)) hg W.g_is_apart W.F_is_apart.kp W.b_is_apart (va_cons (ve_var 2) (va_cons (ve_sl (ve_var 0) vo_none (vo_some (ve_var 1))) va_nil)) (fun s ds s' h => (LDA.cons (LDA.cons LDA.nil)).lg h))))) va_nil) W.z_all (by decide +kernel)))))
theorem ok_do_keep_apart (W : Wd K mg ad fd) : FnG P w K mg base CX0 2 (ad 10) (fd 10) ["own"] (spP K 1 fn_do_keep_apart) := okP W.F_do_keep_apart sc_do_keep_apart (bd_do_keep_apart W)
theorem bd_is_like (W : Wd K mg ad fd) : BodyOk P w K mg base ["thing", "first"] "is_like" (ad 11) 3 (defScope s_is_like) (defBody s_is_like) den_is_like :=
  fun cdv A outer s H E C hr hg => (vss_cons (vs_try0 (vss_one (vs_expr (ve_callF (ok_need_net W) (hr.mono (by decide)) hg W.g_need_net W.F_need_net.kp W.b_need_net (vds_cons (vd_of (ve_var 0)) vds_nil) (fun s ds s' h => (LDD.cons LDD.nil).lg h))))) (vss_one (vs_ret (vd_of (ve_and (ve_callN (ok_is_banyan_of W) (hr.mono (by decide)) hg W.g_is_banyan_of W.F_is_banyan_of.kp W.b_is_banyan_of (va_cons (ve_var 0) va_nil) (fun s ds s' h => (LDA.cons LDA.nil).lg h)) (ve_one (ve_cmp (o_eq (u64 hr)) (ve_ix (ve_var 0) ve_int) (ve_ix (ve_var 1) ve_int))))))))
theorem ok_is_like (W : Wd K mg ad fd) : FnG P w K mg base CX0 4 (ad 11) (fd 11) ["thing", "first"] (spP K 2 fn_is_like) := okP W.F_is_like sc_is_like (bd_is_like W)
theorem bd_need_menu (W : Wd K mg ad fd) : BodyOk P w K mg base ["menu", "number", "thing"] "need_menu" (ad 12) 4 (defScope s_need_menu) (defBody s_need_menu) den_need_menu :=
  fun cdv A outer s H E C hr hg => (vss_cons (vs_if (vt_w (vw_or (vt_not (vt_val (ve_isi .tuple (ve_var 0) W.z_isinstance W.z_tuple (by decide +kernel)))) (vw_or1 (vt_not (vt_chain o_le o_le ve_int (ve_callB c_len (va_cons (ve_var 0) va_nil) W.z_len (by decide +kernel)) (ve_globIE W.c_MOST_MENU)))))) (vss_one vs_never) vss_nil) (vss_one (vs_for PassesOwn.never rfl (vi_enum (vds_cons (vd_of (ve_var 0)) vds_nil) W.z_enumerate) (vg_tup (n := 2) rfl (vgs_cons (vg_name (i := 1) sc_need_menu.nd) (vgs_cons (vg_name (i := 2) sc_need_menu.nd) vgs_nil))) (vss_one (vs_if (vt_not (vt_val (ve_callF (ok_is_like W) (hr.mono (by decide)) hg W.g_is_like W.F_is_like.kp W.b_is_like (vds_cons (vd_of (ve_var 2)) (vds_cons (vd_of (ve_if (vt_cmp (o_eq (u64 hr)) (ve_var 1) ve_int) (ve_var 2) (ve_ix (ve_var 0) ve_int))) vds_nil)) (fun s ds s' h => (LDD.cons (LDD.cons LDD.nil)).lg h)))) (vss_one vs_never) vss_nil)))))
theorem ok_need_menu (W : Wd K mg ad fd) : FnG P w K mg base CX0 5 (ad 12) (fd 12) ["menu"] (spP K 1 fn_need_menu) := okP W.F_need_menu sc_need_menu (bd_need_menu W)
theorem bd_need_log (W : Wd K mg ad fd) : BodyOk P w K mg base ["menu", "log", "number", "item"] "need_log" (ad 13) 2 (defScope s_need_log) (defBody s_need_log) den_need_log :=
  fun cdv A outer s H E C hr hg => (vss_cons (vs_if (vt_w (vw_or (vt_not (vt_val (ve_isi .tuple (ve_var 1) W.z_isinstance W.z_tuple (by decide +kernel)))) (vw_or1 (vt_cmp o_gt (ve_callB c_len (va_cons (ve_var 1) va_nil) W.z_len (by decide +kernel)) (ve_globIE W.c_MOST_LOG))))) (vss_one vs_never) vss_nil) (vss_one (vs_for PassesOwn.never rfl (vi_enum (vds_cons (vd_of (ve_var 1)) vds_nil) W.z_enumerate) (vg_tup (n := 2) rfl (vgs_cons (vg_name (i := 2) sc_need_log.nd) (vgs_cons (vg_name (i := 3) sc_need_log.nd) vgs_nil))) (vss_cons (vs_if (vt_w (vw_or (vt_not (vt_val (ve_isi .tuple (ve_var 3) W.z_isinstance W.z_tuple (by decide +kernel)))) (vw_or (vt_cmp (o_ne (u64 hr)) (ve_callB c_len (va_cons (ve_var 3) va_nil) W.z_len (by decide +kernel)) ve_int) (vw_or1 (vt_not (vt_val (ve_isi .bool (ve_ix (ve_var 3) ve_int) W.z_isinstance W.z_bool (by decide +kernel)))))))) (vss_one vs_never) vss_nil) (vss_one (vs_if (vt_cmp (o_ne (u64 hr)) (ve_callF (ok_wrong_in_demands W) (hr.mono (by decide)) hg W.g_wrong_in_demands W.F_wrong_in_demands.kp W.b_wrong_in_demands (vds_cons (vd_of (ve_ix (ve_var 0) ve_int)) (vds_cons (vd_of (ve_ix (ve_var 3) ve_int)) vds_nil)) (fun s ds s' h => (LDD.cons (LDD.cons LDD.nil)).lg h)) (ve_lst vds_nil)) (vss_one vs_never) vss_nil))))))
theorem ok_need_log (W : Wd K mg ad fd) : FnG P w K mg base CX0 3 (ad 13) (fd 13) ["menu", "log"] (spP K 2 fn_need_log) := okP W.F_need_log sc_need_log (bd_need_log W)
theorem bd_does_pass_by (W : Wd K mg ad fd) : BodyOk P w K mg base ["table", "demands", "pair"] "does_pass_by" (ad 14) 2 (defScope s_does_pass_by) (defBody s_does_pass_by) den_does_pass_by :=
  fun cdv A outer s H E C hr hg => (vss_one (vs_ret (vd_of (ve_callN (ok_do_keep_apart W) (hr.mono (by decide)) hg W.g_do_keep_apart W.F_do_keep_apart.kp W.b_do_keep_apart (va_cons (ve_lc (own := [("pair", 2)]) rfl sc_does_pass_by.nd (vi_seq (vd_of (ve_var 1))) (blkOk_by (by kernel_rfl)) (by decide) (fun _ _ _ _ _ => (vg_name (i := 2) sc_does_pass_by.nd)) (fun _ _ _ _ _ => vts_nil) (fun _ _ _ _ _ => (vd_of (ve_dgetF (u1 hr) (ve_var 0) (ve_var 2))))) va_nil) (fun s ds s' h => (LDA.cons LDA.nil).lg h)))))
theorem ok_does_pass_by (W : Wd K mg ad fd) : FnG P w K mg base CX0 3 (ad 14) (fd 14) ["table", "demands"] (spP K 2 fn_does_pass_by) := okP W.F_does_pass_by sc_does_pass_by (bd_does_pass_by W)
theorem bd_fitting_in (W : Wd K mg ad fd) : BodyOk P w K mg base ["menu", "log", "found", "number", "net", "table", "demands", "is_so"] "fitting_in" (ad 15) 3 (defScope s_fitting_in) (defBody s_fitting_in) den_fitting_in :=
  fun cdv A outer s H E C hr hg => (vss_cons (vs_set (i := 2) sc_fitting_in.nd (ve_lst vds_nil)) (vss_cons (vs_for PassesOwn.never rfl (vi_enum (vds_cons (vd_of (ve_var 0)) vds_nil) W.z_enumerate) (vg_tup (n := 2) rfl (vgs_cons (vg_name (i := 3) sc_fitting_in.nd) (vgs_cons (vg_name (i := 4) sc_fitting_in.nd) vgs_nil))) (vss_cons (vs_set (i := 5) sc_fitting_in.nd (ve_callF (ok_ways_table W) (hr.mono (by decide)) hg W.g_ways_table W.F_ways_table.kp W.b_ways_table (vds_cons (vd_of (ve_var 4)) vds_nil) (fun s ds s' h => (LDD.cons LDD.nil).lg h))) (vss_one (vs_if (vt_val (ve_callB (c_all rfl) (va_cons (ve_lc (own := [("demands", 6), ("is_so", 7)]) rfl sc_fitting_in.nd (vi_seq (vd_of (ve_var 1))) (blkOk_by (by kernel_rfl)) (by decide) (fun _ _ _ _ _ => (vg_tup (n := 2) rfl (vgs_cons (vg_name (i := 6) sc_fitting_in.nd) (vgs_cons (vg_name (i := 7) sc_fitting_in.nd) vgs_nil)))) (fun _ _ _ _ _ => vts_nil) (fun _ _ _ _ _ => (vd_of (ve_cmp (o_eq (u64 hr)) (ve_callF (ok_does_pass_by W) (hr.mono (by decide)) hg W.g_does_pass_by W.F_does_pass_by.kp W.b_does_pass_by (vds_cons (vd_of (ve_var 5)) (vds_cons (vd_of (ve_var 6)) vds_nil)) (fun s ds s' h => (LDD.cons (LDD.cons LDD.nil)).lg h)) (ve_var 7))))) va_nil) W.z_all (by decide +kernel))) (vss_one (vs_app (pe_bm PySem.F.plainAttrs_list PySem.F.slot_list_append PySem.F.type_list_append mt_append (pv 2) (pa_cons (vd_of (ve_var 3)).run pa_nil)))) vss_nil)))) (vss_one (vs_ret (vd_of (ve_var 2))))))
theorem ok_fitting_in (W : Wd K mg ad fd) : FnG P w K mg base CX0 4 (ad 15) (fd 15) ["menu", "log"] (spP K 2 fn_fitting_in) := okP W.F_fitting_in sc_fitting_in (bd_fitting_in W)
theorem bd_fitting_nets (W : Wd K mg ad fd) : BodyOk P w K mg base ["menu", "log"] "fitting_nets" (ad 16) 5 (defScope s_fitting_nets) (defBody s_fitting_nets) den_fitting_nets :=
  fun cdv A outer s H E C hr hg => (vss_cons (vs_expr (ve_callF (ok_need_menu W) (hr.mono (by decide)) hg W.g_need_menu W.F_need_menu.kp W.b_need_menu (vds_cons (vd_of (ve_var 0)) vds_nil) (fun s ds s' h => (LDD.cons LDD.nil).lg h))) (vss_cons (vs_expr (ve_callF (ok_need_log W) (hr.mono (by decide)) hg W.g_need_log W.F_need_log.kp W.b_need_log (vds_cons (vd_of (ve_var 0)) (vds_cons (vd_of (ve_var 1)) vds_nil)) (fun s ds s' h => (LDD.cons (LDD.cons LDD.nil)).lg h))) (vss_one (vs_ret (vd_of (ve_callTy c_tuple (va_cons (ve_callF (ok_fitting_in W) (hr.mono (by decide)) hg W.g_fitting_in W.F_fitting_in.kp W.b_fitting_in (vds_cons (vd_of (ve_var 0)) (vds_cons (vd_of (ve_var 1)) vds_nil)) (fun s ds s' h => (LDD.cons (LDD.cons LDD.nil)).lg h)) va_nil) W.z_tuple (by decide +kernel)))))))
theorem ok_fitting_nets (W : Wd K mg ad fd) : FnG P w K mg base CX0 6 (ad 16) (fd 16) ["menu", "log"] (spP K 2 fn_fitting_nets) := okP W.F_fitting_nets sc_fitting_nets (bd_fitting_nets W)
theorem bd_first_false (W : Wd K mg ad fd) : BodyOk P w K mg base ["menu", "log", "number"] "first_false" (ad 17) 5 (defScope s_first_false) (defBody s_first_false) den_first_false :=
  fun cdv A outer s H E C hr hg => (vss_cons (vs_expr (ve_callF (ok_need_menu W) (hr.mono (by decide)) hg W.g_need_menu W.F_need_menu.kp W.b_need_menu (vds_cons (vd_of (ve_var 0)) vds_nil) (fun s ds s' h => (LDD.cons LDD.nil).lg h))) (vss_cons (vs_expr (ve_callF (ok_need_log W) (hr.mono (by decide)) hg W.g_need_log W.F_need_log.kp W.b_need_log (vds_cons (vd_of (ve_var 0)) (vds_cons (vd_of (ve_var 1)) vds_nil)) (fun s ds s' h => (LDD.cons (LDD.cons LDD.nil)).lg h))) (vss_cons (vs_for PassesOwn.never rfl (vi_rng1 (ve_callB c_len (va_cons (ve_var 1) va_nil) W.z_len (by decide +kernel)) W.z_range) (vg_name (i := 2) sc_first_false.nd) (vss_one (vs_if (vt_cmp (o_eq (u64 hr)) (ve_callF (ok_fitting_in W) (hr.mono (by decide)) hg W.g_fitting_in W.F_fitting_in.kp W.b_fitting_in (vds_cons (vd_of (ve_var 0)) (vds_cons (vd_of (ve_sl (ve_var 1) vo_none (vo_some (ve_op o_add (ve_var 2) ve_int)))) vds_nil)) (fun s ds s' h => (LDD.cons (LDD.cons LDD.nil)).lg h)) (ve_lst vds_nil)) (vss_one (vs_ret (vd_of (ve_var 2)))) vss_nil))) (vss_one (vs_ret (vd_of ve_non))))))
theorem ok_first_false (W : Wd K mg ad fd) : FnG P w K mg base CX0 6 (ad 17) (fd 17) ["menu", "log"] (spP K 2 fn_first_false) := okP W.F_first_false sc_first_false (bd_first_false W)
theorem bd_q_mixed (W : Wd K mg ad fd) : BodyOk P w K mg base ["_law_cell", "_law_n", "_law_blend"] "_law_mixed" (ad 18) 0 (defScope s_q_mixed) (defBody s_q_mixed) den_q_mixed :=
  fun cdv A outer s H E C hr hg => (vss_cons (vs_set (i := 2) sc_q_mixed.nd (ve_op o_add (ve_op o_add (ve_op o_mod (ve_callTy c_int (va_cons (ve_op o_mulT (ve_op o_mulT (ve_var 0) (ve_op o_add ve_int (ve_op o_mulT ve_int (ve_var 1)))) ve_int) va_nil) W.z_int (by decide +kernel)) ve_int) (ve_op o_mulT (ve_op o_mulT ve_int (ve_var 1)) (ve_var 1))) (ve_op o_mulT ve_int (ve_var 1)))) (vss_one (vs_ret (vd_of (ve_op o_div (ve_op o_mod (ve_callTy c_int (va_cons (ve_op o_mulT (ve_var 2) ve_int) va_nil) W.z_int (by decide +kernel)) ve_int) ve_int)))))
theorem ok_q_mixed (W : Wd K mg ad fd) : FnG P w K mg base CX0 1 (ad 18) (fd 18) ["_law_cell", "_law_n"] (spP K 2 fn_q_mixed) := okP W.F_q_mixed sc_q_mixed (bd_q_mixed W)
theorem bd_q_folded (W : Wd K mg ad fd) : BodyOk P w K mg base ["_law_script", "_law_found", "_law_n", "_law_cell"] "_law_folded" (ad 19) 0 (defScope s_q_folded) (defBody s_q_folded) den_q_folded :=
  fun cdv A outer s H E C hr hg => (vss_cons (vs_setLc (i := 1) (own := [("_law_n", 2)]) rfl sc_q_folded.nd (vi_rng1 ve_int W.z_range) (blkOk_by (by kernel_rfl)) (by decide) (fun _ _ _ _ _ => (vg_name (i := 2) sc_q_folded.nd)) (fun _ _ _ _ _ => vts_nil) (fun _ _ _ _ _ => (vd_of (ve_op o_add ve_int (ve_var 2))))) (vss_cons (vs_for PassesOwn.never rfl (vi_enumS (vds_cons (vd_of (ve_var 0)) vds_nil) W.z_enumerate) (vg_tup (n := 2) rfl (vgs_cons (vg_name (i := 2) sc_q_folded.nd) (vgs_cons (vg_name (i := 3) sc_q_folded.nd) vgs_nil))) (vss_one (vs_seti (vd_of (ve_op o_mod (ve_callTy c_int (va_cons (ve_op o_add (ve_op o_mulT (ve_ix (ve_var 1) (ve_op o_mod (ve_callTy c_int (va_cons (ve_var 2) va_nil) W.z_int (by decide +kernel)) ve_int)) ve_int) (ve_var 3)) va_nil) W.z_int (by decide +kernel)) ve_int)) (pg_sub (pv 1) (ve_op o_mod (ve_callTy c_int (va_cons (ve_var 2) va_nil) W.z_int (by decide +kernel)) ve_int).run set_list)))) (vss_cons (vs_for PassesOwn.never rfl (vi_rng2 ve_int ve_int W.z_range) (vg_name (i := 2) sc_q_folded.nd) (vss_one (vs_seti (vd_of (ve_op o_mod (ve_callTy c_int (va_cons (ve_op o_add (ve_ix (ve_var 1) (ve_var 2)) (ve_op o_mulT (ve_ix (ve_var 1) (ve_op o_sub (ve_var 2) ve_int)) ve_int)) va_nil) W.z_int (by decide +kernel)) ve_int)) (pg_sub (pv 1) (ve_var 2).run set_list)))) (vss_one (vs_ret (vd_of (ve_var 1)))))))
theorem ok_q_folded (W : Wd K mg ad fd) : FnG P w K mg base CX0 1 (ad 19) (fd 19) ["_law_script"] (spP K 1 fn_q_folded) := okP W.F_q_folded sc_q_folded (bd_q_folded W)
theorem mixed_says (c n : Int) (h0 : 0 ≤ n) (h1 : n < 2305843009213693952) : fn_q_mixed [.int c, .int n] = .ok (.int (mixD c n)) := mixed_ok rfl h0 h1
theorem bd_q_draw (W : Wd K mg ad fd) (E0 : XK) : ∀ (cdv : Value) (A : Around) (outer : List Env) (s : Shared) (H : Hp) (E : XK), Room 1 (A.deeper (envOfC "_law_draw" (defScope s_q_draw) s.heap.objs.size (ad 20) cdv)) → A.guards = some [] → PSs (bodyX P w K mg base ["_law_m", "_law_limit", "_law_n", "_law_lot", "_law_here", "_law_cell"] "_law_draw" (defScope s_q_draw) (ad 20) cdv A outer s H E) (defBody s_q_draw) (tDraw K fn_q_mixed E0) :=
  fun cdv A outer s H E hr hg => pss_cons (ps_set (i := 2) sc_q_draw.nd rfl (Or.inl rfl) (pe_dget (u1 hr) (pv 0) pe_str (fun _ _ => rfl))) (pss_cons (ps_dput (u1 hr) (pv 0) pe_str (pe_op op_add (pv 2) pe_int) rfl) (pss_cons (ps_if (pt_cmpR (op_neD (u64 hr)) (pe_dget (u1 hr) (pv 0) pe_str (fun _ _ => rfl)) (pe_lst pa_nil) (nomark _)) (pss_cons (ps_set (i := 3) sc_q_draw.nd rfl (Or.inl rfl) (pe_dget (u1 hr) (pv 0) pe_str (fun _ _ => rfl))) (pss_cons (ps_set (i := 4) sc_q_draw.nd rfl (Or.inl rfl) (pe_op op_mod (pe_callTy call_int1 rfl W.z_int (by decide +kernel) (pa_cons (pv 2) pa_nil)) (pe_callB call_len rfl W.z_len (by decide +kernel) (pa_cons (pv 3) pa_nil)))) (pss_cons (ps_set (i := 5) sc_q_draw.nd rfl (Or.inl rfl) (pe_ix ix_seq (pv 3) (pv 4) fun _ _ => rfl)) (pss_one (ps_if (pt_cmpR op_gt (pv 5) pe_int (nomark _)) (pss_cons (ps_asg (pe_op op_fdiv (pv 5) (pv 1)) (pg_sub (pv 3) (pv 4) set_list)) (pss_one (ps_ret (pe_op op_mod (pe_callTy call_int1 rfl W.z_int (by decide +kernel) (pa_cons (pv 5) pa_nil)) (pv 1))))) pss_nil))))) pss_nil) (pss_cons (ps_set (i := 3) sc_q_draw.nd rfl (Or.inl rfl) (pe_dget (u1 hr) (pv 0) pe_str (fun _ _ => rfl))) (pss_one (ps_ret (pe_op op_mod (pe_callTy call_int1 rfl W.z_int (by decide +kernel) (pa_cons (pe_G (E := E0) (ok_q_mixed W) (hr.mono (by decide)) hg W.g_q_mixed W.F_q_mixed.kp W.b_q_mixed pass0 (pa_cons (pe_G (E := E0) (ok_q_mixed W) (hr.mono (by decide)) hg W.g_q_mixed W.F_q_mixed.kp W.b_q_mixed pass0 (pa_cons (pe_op op_add (pe_ix ix_seq (pv 3) (pe_op op_mod (pe_callTy call_int1 rfl W.z_int (by decide +kernel) (pa_cons (pv 2) pa_nil)) pe_int) fun _ _ => rfl) (pe_op op_mul pe_int (pe_op op_fdiv (pv 2) pe_int))) (pa_cons (pv 2) pa_nil))) (pa_cons (pe_op op_add (pv 2) pe_int) pa_nil))) pa_nil)) (pv 1)))))))
theorem ok_q_draw (W : Wd K mg ad fd) : FnG P w K mg base CX0 2 (ad 20) (fd 20) ["_law_m", "_law_limit"] (spD K 1 fn_q_draw) := okDraw (E0 := fun _ _ _ => False) rfl rfl mixed_says W.F_q_draw sc_q_draw (bd_q_draw W _)
theorem bd_q_begun (W : Wd K mg ad fd) : ∀ (cdv : Value) (A : Around) (outer : List Env) (s : Shared) (H : Hp) (E : XK) (C : Ct K), Room 1 (A.deeper (envOfC "_law_begun" (defScope s_q_begun) s.heap.objs.size (ad 21) cdv)) → A.guards = some [] → PSs (bodyX P w K mg base ["_law_script", "_law_m", "_law_cell"] "_law_begun" (defScope s_q_begun) (ad 21) cdv A outer s H E) (defBody s_q_begun) (tBegun C ff_begun fc_begun) :=
  fun cdv A outer s H E C hr hg => pss_cons (ps_set (i := 1) sc_q_begun.nd rfl (Or.inl rfl) (pe_disp (pps_cons pe_str (vd_of (ve_callF (ok_q_folded W) (hr.mono (by decide)) hg W.g_q_folded W.F_q_folded.kp W.b_q_folded (vds_cons (vd_of (ve_var 0)) vds_nil) (fun s ds s' h => (LDD.cons LDD.nil).lg h))).run (pps_cons pe_str (pe_lst pa_nil) (pps_cons pe_str pe_int pps_nil))) rfl rfl (by exact fun z => nomatch z) (by decide))) (pss_cons (ps_dput (u1 hr) (pv 1) pe_str (ve_lc (own := [("_law_cell", 2)]) rfl sc_q_begun.nd (vi_seqS (vd_of (ve_var 0))) (blkOk_by (by kernel_rfl)) (by decide) (fun _ _ _ _ _ => (vg_name (i := 2) sc_q_begun.nd)) (fun _ _ _ _ _ => vts_nil) (fun _ _ _ _ _ => (vd_of (ve_if (vt_cmp o_ge (ve_var 2) (ve_op o_pow ve_int ve_int)) (ve_var 2) ve_int)))).run rfl) (pss_one (ps_ret (pv 1))))
theorem ok_q_begun (W : Wd K mg ad fd) : FnG P w K mg base CX0 2 (ad 21) (fd 21) ["_law_script"] (spB K fn_q_begun) := okBegun (by decide) rfl (fun ds d s' h => begun_same rfl h) W.F_q_begun sc_q_begun (bd_q_begun W)
theorem bd_q_like (W : Wd K mg ad fd) : BodyOk P w K mg base ["_law_answer", "_law_due"] "_law_like" (ad 22) 0 (defScope s_q_like) (defBody s_q_like) den_q_like :=
  fun cdv A outer s H E C hr hg => (vss_one (vs_ret (vd_of (ve_cmp (o_eq (u64 hr)) (ve_callB (c_repr hr hg) (va_cons (ve_var 0) va_nil) W.z_repr (by decide +kernel)) (ve_callB (c_repr hr hg) (va_cons (ve_var 1) va_nil) W.z_repr (by decide +kernel))))))
theorem ok_q_like (W : Wd K mg ad fd) : FnG P w K mg base CX0 1 (ad 22) (fd 22) ["_law_answer", "_law_due"] (spP K 2 fn_q_like) := okP W.F_q_like sc_q_like (bd_q_like W)
theorem bd_q_of (W : Wd K mg ad fd) : BodyOk P w K mg base ["_law_m", "_law_some"] "_law_of" (ad 23) 2 (defScope s_q_of) (defBody s_q_of) den_q_of :=
  fun cdv A outer s H E C hr hg => (vss_one (vs_ret (vd_of (ve_ix (ve_var 1) (ve_callM (i := 0) (ok_q_draw W) (hr.mono (by decide)) hg W.g_q_draw W.F_q_draw.kp W.b_q_draw (pv 0) (vds_cons (vd_of (ve_callB c_len (va_cons (ve_var 1) va_nil) W.z_len (by decide +kernel))) vds_nil) (fun s ds s' h => (LDD.cons LDD.nil).lg h))))))
theorem ok_q_of (W : Wd K mg ad fd) : FnG P w K mg base CX0 3 (ad 23) (fd 23) ["_law_m", "_law_some"] (spD K 1 fn_q_of) := okM rfl W.F_q_of sc_q_of (bd_q_of W)
theorem bd_q_order (W : Wd K mg ad fd) : BodyOk P w K mg base ["_law_m", "_law_many", "_law_found", "_law_number", "_law_spot"] "_law_order" (ad 24) 2 (defScope s_q_order) (defBody s_q_order) den_q_order :=
  fun cdv A outer s H E C hr hg => (vss_cons (vs_set (i := 2) sc_q_order.nd (ve_lst vds_nil)) (vss_cons (vs_for PassesOwn.never rfl (vi_rng1 (ve_var 1) W.z_range) (vg_name (i := 3) sc_q_order.nd) (vss_cons (vs_set (i := 4) sc_q_order.nd (ve_callM (i := 0) (ok_q_draw W) (hr.mono (by decide)) hg W.g_q_draw W.F_q_draw.kp W.b_q_draw (pv 0) (vds_cons (vd_of (ve_op o_add (ve_var 3) ve_int)) vds_nil) (fun s ds s' h => (LDD.cons LDD.nil).lg h))) (vss_one (vs_set (i := 2) sc_q_order.nd (ve_op o_add (ve_op o_add (ve_sl (ve_var 2) vo_none (vo_some (ve_var 4))) (ve_lst (vds_cons (vd_of (ve_var 3)) vds_nil))) (ve_sl (ve_var 2) (vo_some (ve_var 4)) vo_none)))))) (vss_one (vs_ret (vd_of (ve_callTy c_tuple (va_cons (ve_var 2) va_nil) W.z_tuple (by decide +kernel)))))))
theorem ok_q_order (W : Wd K mg ad fd) : FnG P w K mg base CX0 3 (ad 24) (fd 24) ["_law_m", "_law_many"] (spD K 1 fn_q_order) := okM rfl W.F_q_order sc_q_order (bd_q_order W)
theorem bd_q_halving (W : Wd K mg ad fd) : BodyOk P w K mg base ["_law_bits", "_law_rows", "_law_row", "_law_size", "_law_order_here", "_law_wire", "_law_front", "_law_back"] "_law_halving" (ad 25) 0 (defScope s_q_halving) (defBody s_q_halving) den_q_halving :=
  fun cdv A outer s H E C hr hg => (vss_cons (vs_set (i := 1) sc_q_halving.nd (ve_lst vds_nil)) (vss_cons (vs_for PassesOwn.never rfl (vi_rng1 (ve_op o_sub (ve_var 0) ve_int) W.z_range) (vg_name (i := 2) sc_q_halving.nd) (vss_cons (vs_set (i := 3) sc_q_halving.nd (ve_op o_shl ve_int (ve_op o_sub (ve_op o_sub (ve_var 0) ve_int) (ve_var 2)))) (vss_cons (vs_set (i := 4) sc_q_halving.nd (ve_lst vds_nil)) (vss_cons (vs_for PassesOwn.never rfl (vi_rng1 (ve_op o_shl ve_int (ve_var 0)) W.z_range) (vg_name (i := 5) sc_q_halving.nd) (vss_cons (vs_par2 (i0 := 6) (i1 := 7) rfl sc_q_halving.nd (ve_op o_div (ve_op o_div (ve_var 5) ve_int) (ve_var 3)) (ve_op o_mod (ve_callTy c_int (va_cons (ve_op o_div (ve_var 5) ve_int) va_nil) W.z_int (by decide +kernel)) (ve_var 3))) (vss_one (vs_app (pe_bm PySem.F.plainAttrs_list PySem.F.slot_list_append PySem.F.type_list_append mt_append (pv 4) (pa_cons (vd_of (ve_op o_add (ve_op o_mulT (ve_op o_add (ve_op o_mulT ve_int (ve_var 6)) (ve_op o_mod (ve_callTy c_int (va_cons (ve_var 5) va_nil) W.z_int (by decide +kernel)) ve_int)) (ve_var 3)) (ve_var 7))).run pa_nil)))))) (vss_one (vs_app (pe_bm PySem.F.plainAttrs_list PySem.F.slot_list_append PySem.F.type_list_append mt_append (pv 1) (pa_cons (vd_of (ve_callTy c_tuple (va_cons (ve_var 4) va_nil) W.z_tuple (by decide +kernel))).run pa_nil)))))))) (vss_one (vs_ret (vd_of (ve_tup (vds_cons (vd_of (ve_var 0)) (vds_cons (vd_of (ve_callTy c_tuple (va_cons (ve_var 1) va_nil) W.z_tuple (by decide +kernel))) vds_nil))))))))
theorem ok_q_halving (W : Wd K mg ad fd) : FnG P w K mg base CX0 1 (ad 25) (fd 25) ["_law_bits"] (spP K 1 fn_q_halving) := okP W.F_q_halving sc_q_halving (bd_q_halving W)
theorem bd_q_banyan (W : Wd K mg ad fd) : BodyOk P w K mg base ["_law_m", "_law_bits", "_law_names", "_law_rows", "_law_row", "_law_base", "_law_half", "_law_order_here", "_law_near", "_law_far", "_law_wire", "_law_place", "_law_here", "_law_own", "_law_other", "_law_k"] "_law_banyan" (ad 26) 3 (defScope s_q_banyan) (defBody s_q_banyan) den_q_banyan :=
  fun cdv A outer s H E C hr hg => (vss_cons (vs_asg (vd_of (ve_tup (vds_cons (vd_of (ve_callF (ok_q_halving W) (hr.mono (by decide)) hg W.g_q_halving W.F_q_halving.kp W.b_q_halving (vds_cons (vd_of (ve_var 1)) vds_nil) (fun s ds s' h => (LDD.cons LDD.nil).lg h))) (vds_cons (vd_of (ve_op o_shl ve_int (ve_op o_sub (ve_var 1) ve_int))) vds_nil)))) (vg_tup (n := 2) rfl (vgs_cons (vg_name (i := 5) sc_q_banyan.nd) (vgs_cons (vg_name (i := 6) sc_q_banyan.nd) vgs_nil)))) (vss_cons (vs_setLc (i := 2) (own := [("_law_row", 4)]) rfl sc_q_banyan.nd (vi_rng1 (ve_var 1) W.z_range) (blkOk_by (by kernel_rfl)) (by decide) (fun _ _ _ _ _ => (vg_name (i := 4) sc_q_banyan.nd)) (fun _ _ _ _ _ => vts_nil) (fun _ _ _ _ _ => (vd_of (ve_callM (i := 0) (ok_q_order W) (hr.mono (by decide)) hg W.g_q_order W.F_q_order.kp W.b_q_order (pv 0) (vds_cons (vd_of (ve_var 6)) vds_nil) (fun s ds s' h => (LDD.cons LDD.nil).lg h))))) (vss_cons (vs_set (i := 3) sc_q_banyan.nd (ve_lst vds_nil)) (vss_cons (vs_for PassesOwn.never rfl (vi_rng1 (ve_op o_sub (ve_var 1) ve_int) W.z_range) (vg_name (i := 4) sc_q_banyan.nd) (vss_cons (vs_par2 (i0 := 8) (i1 := 9) rfl sc_q_banyan.nd (ve_lc (own := [("_law_k", 15)]) rfl sc_q_banyan.nd (vi_rng1 (ve_var 6) W.z_range) (blkOk_by (by kernel_rfl)) (by decide) (fun _ _ _ _ _ => (vg_name (i := 15) sc_q_banyan.nd)) (fun _ _ _ _ _ => vts_nil) (fun _ _ _ _ _ => (vd_of (ve_callM (i := 0) (ok_q_draw W) (hr.mono (by decide)) hg W.g_q_draw W.F_q_draw.kp W.b_q_draw (pv 0) (vds_cons (vd_of ve_int) vds_nil) (fun s ds s' h => (LDD.cons LDD.nil).lg h))))) (ve_lc (own := [("_law_k", 15)]) rfl sc_q_banyan.nd (vi_rng1 (ve_var 6) W.z_range) (blkOk_by (by kernel_rfl)) (by decide) (fun _ _ _ _ _ => (vg_name (i := 15) sc_q_banyan.nd)) (fun _ _ _ _ _ => vts_nil) (fun _ _ _ _ _ => (vd_of (ve_callM (i := 0) (ok_q_draw W) (hr.mono (by decide)) hg W.g_q_draw W.F_q_draw.kp W.b_q_draw (pv 0) (vds_cons (vd_of ve_int) vds_nil) (fun s ds s' h => (LDD.cons LDD.nil).lg h)))))) (vss_cons (vs_set (i := 7) sc_q_banyan.nd ve_dnewK) (vss_cons (vs_for PassesOwn.never rfl (vi_enum (vds_cons (vd_of (ve_ix (ve_ix (ve_var 5) ve_int) (ve_var 4))) vds_nil) W.z_enumerate) (vg_tup (n := 2) rfl (vgs_cons (vg_name (i := 10) sc_q_banyan.nd) (vgs_cons (vg_name (i := 11) sc_q_banyan.nd) vgs_nil))) (vss_cons (vs_par2 (i0 := 13) (i1 := 14) rfl sc_q_banyan.nd (ve_op o_div (ve_var 10) ve_int) (ve_op o_div (ve_var 11) ve_int)) (vss_cons (vs_set (i := 12) sc_q_banyan.nd (ve_op o_add (ve_op o_mulT ve_int (ve_ix (ve_ix (ve_var 2) (ve_var 4)) (ve_var 13))) (ve_op o_mod (ve_op o_add (ve_callTy c_int (va_cons (ve_var 10) va_nil) W.z_int (by decide +kernel)) (ve_ix (ve_var 8) (ve_var 13))) ve_int))) (vss_one (vs_dputK (u1 hr) (pv 7) (ve_var 12) (vd_of (ve_op o_add (ve_op o_mulT ve_int (ve_ix (ve_ix (ve_var 2) (ve_op o_add (ve_var 4) ve_int)) (ve_var 14))) (ve_op o_mod (ve_op o_add (ve_callTy c_int (va_cons (ve_var 11) va_nil) W.z_int (by decide +kernel)) (ve_ix (ve_var 9) (ve_var 14))) ve_int)))))))) (vss_one (vs_app (pe_bm PySem.F.plainAttrs_list PySem.F.slot_list_append PySem.F.type_list_append mt_append (pv 3) (pa_cons (vd_of (ve_callTy c_tuple (va_cons (ve_lc (own := [("_law_wire", 10)]) rfl sc_q_banyan.nd (vi_rng1 (ve_op o_mulT ve_int (ve_var 6)) W.z_range) (blkOk_by (by kernel_rfl)) (by decide) (fun _ _ _ _ _ => (vg_name (i := 10) sc_q_banyan.nd)) (fun _ _ _ _ _ => vts_nil) (fun _ _ _ _ _ => (vd_of (ve_dgetK (u1 hr) (pv 7) (ve_var 10))))) va_nil) W.z_tuple (by decide +kernel))).run pa_nil)))))))) (vss_one (vs_ret (vd_of (ve_tup (vds_cons (vd_of (ve_var 1)) (vds_cons (vd_of (ve_callTy c_tuple (va_cons (ve_var 3) va_nil) W.z_tuple (by decide +kernel))) vds_nil))))))))))
theorem ok_q_banyan (W : Wd K mg ad fd) : FnG P w K mg base CX0 4 (ad 26) (fd 26) ["_law_m", "_law_bits"] (spD K 1 fn_q_banyan) := okM rfl W.F_q_banyan sc_q_banyan (bd_q_banyan W)
theorem bd_q_ringed (W : Wd K mg ad fd) : BodyOk P w K mg base ["_law_first", "_law_last"] "_law_ringed" (ad 27) 0 (defScope s_q_ringed) (defBody s_q_ringed) den_q_ringed :=
  fun cdv A outer s H E C hr hg => (vss_cons (vs_set (i := 0) sc_q_ringed.nd (ve_tup (vds_cons (vd_of ve_int) (vds_cons (vd_of ve_int) (vds_cons (vd_of ve_int) (vds_cons (vd_of ve_int) (vds_cons (vd_of ve_int) (vds_cons (vd_of ve_int) (vds_cons (vd_of ve_int) (vds_cons (vd_of ve_int) vds_nil)))))))))) (vss_cons (vs_set (i := 1) sc_q_ringed.nd (ve_tup (vds_cons (vd_of ve_int) (vds_cons (vd_of ve_int) (vds_cons (vd_of ve_int) (vds_cons (vd_of ve_int) (vds_cons (vd_of ve_int) (vds_cons (vd_of ve_int) (vds_cons (vd_of ve_int) (vds_cons (vd_of ve_int) vds_nil)))))))))) (vss_one (vs_ret (vd_of (ve_tup (vds_cons (vd_of ve_int) (vds_cons (vd_of (ve_tup (vds_cons (vd_of (ve_var 0)) (vds_cons (vd_of (ve_var 1)) vds_nil)))) vds_nil))))))))
theorem ok_q_ringed (W : Wd K mg ad fd) : FnG P w K mg base CX0 1 (ad 27) (fd 27) [] (spP K 0 fn_q_ringed) := okP W.F_q_ringed sc_q_ringed (bd_q_ringed W)
theorem bd_q_ways (W : Wd K mg ad fd) : BodyOk P w K mg base ["_law_net", "_law_begin", "_law_base", "_law_found", "_law_order_here", "_law_longer", "_law_way", "_law_place"] "_law_ways" (ad 28) 0 (defScope s_q_ways) (defBody s_q_ways) den_q_ways :=
  fun cdv A outer s H E C hr hg => (vss_cons (vs_set (i := 2) sc_q_ways.nd (ve_op o_mulT ve_int (ve_op o_div (ve_var 1) ve_int))) (vss_cons (vs_set (i := 3) sc_q_ways.nd (ve_lst (vds_cons (vd_of (ve_tup (vds_cons (vd_of (ve_var 2)) vds_nil))) (vds_cons (vd_of (ve_tup (vds_cons (vd_of (ve_op o_add (ve_var 2) ve_int)) vds_nil))) vds_nil)))) (vss_cons (vs_for PassesOwn.never rfl (vi_seq (vd_of (ve_ix (ve_var 0) ve_int))) (vg_name (i := 4) sc_q_ways.nd) (vss_cons (vs_set (i := 5) sc_q_ways.nd (ve_lst vds_nil)) (vss_cons (vs_for PassesOwn.never rfl (vi_seq (vd_of (ve_var 3))) (vg_name (i := 6) sc_q_ways.nd) (vss_cons (vs_set (i := 7) sc_q_ways.nd (ve_op o_mulT ve_int (ve_op o_div (ve_ix (ve_var 4) (ve_ix (ve_var 6) (ve_un o_neg ve_int))) ve_int))) (vss_one (vs_set (i := 5) sc_q_ways.nd (ve_op o_add (ve_var 5) (ve_lst (vds_cons (vd_of (ve_op o_add (ve_var 6) (ve_tup (vds_cons (vd_of (ve_var 7)) vds_nil)))) (vds_cons (vd_of (ve_op o_add (ve_var 6) (ve_tup (vds_cons (vd_of (ve_op o_add (ve_var 7) ve_int)) vds_nil)))) vds_nil)))))))) (vss_one (vs_set (i := 3) sc_q_ways.nd (ve_var 5)))))) (vss_one (vs_ret (vd_of (ve_callB (c_sorted (u65 hr)) (va_cons (ve_var 3) va_nil) W.z_sorted (by decide +kernel))))))))
theorem ok_q_ways (W : Wd K mg ad fd) : FnG P w K mg base CX0 1 (ad 28) (fd 28) ["_law_net", "_law_begin"] (spP K 2 fn_q_ways) := okP W.F_q_ways sc_q_ways (bd_q_ways W)
theorem bd_q_apart (W : Wd K mg ad fd) : BodyOk P w K mg base ["_law_way", "_law_others", "_law_other", "_law_one", "_law_two"] "_law_apart" (ad 29) 0 (defScope s_q_apart) (defBody s_q_apart) den_q_apart :=
  fun cdv A outer s H E C hr hg => (vss_one (vs_ret (vd_of (ve_cmp (o_eq (u64 hr)) (ve_lc (own := [("_law_other", 2)]) rfl sc_q_apart.nd (vi_seq (vd_of (ve_var 1))) (blkOk_by (by kernel_rfl)) (by decide) (fun _ _ _ _ _ => (vg_name (i := 2) sc_q_apart.nd)) (fun _ _ _ _ _ => (vts_one (vt_cmp (o_ne (u64 hr)) (ve_lc (own := [("_law_one", 3), ("_law_two", 4)]) rfl sc_q_apart.nd (vi_zip (vds_cons (vd_of (ve_var 0)) (vds_cons (vd_of (ve_var 2)) vds_nil)) W.z_zip) (blkOk_by (by kernel_rfl)) (by decide) (fun _ _ _ _ _ => (vg_tup (n := 2) rfl (vgs_cons (vg_name (i := 3) sc_q_apart.nd) (vgs_cons (vg_name (i := 4) sc_q_apart.nd) vgs_nil)))) (fun _ _ _ _ _ => (vts_one (vt_cmp (o_eq (u64 hr)) (ve_var 3) (ve_var 4)))) (fun _ _ _ _ _ => (vd_of ve_int))) (ve_lst vds_nil)))) (fun _ _ _ _ _ => (vd_of ve_int))) (ve_lst vds_nil)))))
theorem ok_q_apart (W : Wd K mg ad fd) : FnG P w K mg base CX0 1 (ad 29) (fd 29) ["_law_way", "_law_others"] (spP K 2 fn_q_apart) := okP W.F_q_apart sc_q_apart (bd_q_apart W)
theorem bd_q_demands (W : Wd K mg ad fd) : BodyOk P w K mg base ["_law_m", "_law_net", "_law_tries", "_law_turn", "_law_ins", "_law_outs", "_law_begin", "_law_end"] "_law_demands" (ad 30) 2 (defScope s_q_demands) (defBody s_q_demands) den_q_demands :=
  fun cdv A outer s H E C hr hg => (vss_cons (vs_par2 (i0 := 4) (i1 := 5) rfl sc_q_demands.nd ve_dnewK ve_dnewK) (vss_cons (vs_for PassesOwn.never rfl (vi_rng1 (ve_var 2) W.z_range) (vg_name (i := 3) sc_q_demands.nd) (vss_cons (vs_par2 (i0 := 6) (i1 := 7) rfl sc_q_demands.nd (ve_callM (i := 0) (ok_q_draw W) (hr.mono (by decide)) hg W.g_q_draw W.F_q_draw.kp W.b_q_draw (pv 0) (vds_cons (vd_of (ve_op o_shl ve_int (ve_ix (ve_var 1) ve_int))) vds_nil) (fun s ds s' h => (LDD.cons LDD.nil).lg h)) (ve_callM (i := 0) (ok_q_draw W) (hr.mono (by decide)) hg W.g_q_draw W.F_q_draw.kp W.b_q_draw (pv 0) (vds_cons (vd_of (ve_op o_shl ve_int (ve_ix (ve_var 1) ve_int))) vds_nil) (fun s ds s' h => (LDD.cons LDD.nil).lg h))) (vss_one (vs_if (vt_w (vw_and (vt_pc (pc_dnotinK (u1 hr) (pv 4) (ve_var 6))) (vw_and1 (vt_pc (pc_dnotinK (u1 hr) (pv 5) (ve_var 7)))))) (vss_cons (vs_dputK (u1 hr) (pv 4) (ve_var 6) (vd_of (ve_var 7))) (vss_one (vs_dputK (u1 hr) (pv 5) (ve_var 7) (vd_of (ve_var 6))))) vss_nil)))) (vss_one (vs_ret (vd_of (ve_callTy c_tuple (va_cons (ve_callB (c_sorted (u65 hr)) (va_cons (ve_listItems rfl (pv 4) W.z_list (by decide +kernel)) va_nil) W.z_sorted (by decide +kernel)) va_nil) W.z_tuple (by decide +kernel)))))))
theorem ok_q_demands (W : Wd K mg ad fd) : FnG P w K mg base CX0 3 (ad 30) (fd 30) ["_law_m", "_law_net", "_law_tries"] (spD K 2 fn_q_demands) := okM rfl W.F_q_demands sc_q_demands (bd_q_demands W)
theorem bd_q_passes (W : Wd K mg ad fd) : BodyOk P w K mg base ["_law_net", "_law_some", "_law_own", "_law_begin", "_law_end", "_law_way", "_law_one"] "_law_passes" (ad 31) 1 (defScope s_q_passes) (defBody s_q_passes) den_q_passes :=
  fun cdv A outer s H E C hr hg => (vss_cons (vs_set (i := 2) sc_q_passes.nd (ve_lst vds_nil)) (vss_cons (vs_for PassesOwn.never rfl (vi_seq (vd_of (ve_var 1))) (vg_tup (n := 2) rfl (vgs_cons (vg_name (i := 3) sc_q_passes.nd) (vgs_cons (vg_name (i := 4) sc_q_passes.nd) vgs_nil))) (vss_cons (vs_set (i := 5) sc_q_passes.nd (ve_ix (ve_lc (own := [("_law_one", 6)]) rfl sc_q_passes.nd (vi_seq (vd_of (ve_callF (ok_q_ways W) (hr.mono (by decide)) hg W.g_q_ways W.F_q_ways.kp W.b_q_ways (vds_cons (vd_of (ve_var 0)) (vds_cons (vd_of (ve_var 3)) vds_nil)) (fun s ds s' h => (LDD.cons (LDD.cons LDD.nil)).lg h)))) (blkOk_by (by kernel_rfl)) (by decide) (fun _ _ _ _ _ => (vg_name (i := 6) sc_q_passes.nd)) (fun _ _ _ _ _ => (vts_one (vt_cmp (o_eq (u64 hr)) (ve_ix (ve_var 6) (ve_un o_neg ve_int)) (ve_var 4)))) (fun _ _ _ _ _ => (vd_of (ve_var 6)))) ve_int)) (vss_cons (vs_if (vt_not (vt_val (ve_callN (ok_q_apart W) (hr.mono (by decide)) hg W.g_q_apart W.F_q_apart.kp W.b_q_apart (va_cons (ve_var 5) (va_cons (ve_var 2) va_nil)) (fun s ds s' h => (LDA.cons (LDA.cons LDA.nil)).lg h)))) (vss_one (vs_ret (vd_of ve_bl))) vss_nil) (vss_one (vs_app (pe_bm PySem.F.plainAttrs_list PySem.F.slot_list_append PySem.F.type_list_append mt_append (pv 2) (pa_cons (vd_of (ve_var 5)).run pa_nil))))))) (vss_one (vs_ret (vd_of ve_bl)))))
theorem ok_q_passes (W : Wd K mg ad fd) : FnG P w K mg base CX0 2 (ad 31) (fd 31) ["_law_net", "_law_some"] (spP K 2 fn_q_passes) := okP W.F_q_passes sc_q_passes (bd_q_passes W)
theorem bd_q_going (W : Wd K mg ad fd) : BodyOk P w K mg base ["_law_menu_so", "_law_log_so", "_law_found", "_law_number", "_law_net", "_law_wrong", "_law_some", "_law_is_so"] "_law_going" (ad 32) 2 (defScope s_q_going) (defBody s_q_going) den_q_going :=
  fun cdv A outer s H E C hr hg => (vss_cons (vs_set (i := 2) sc_q_going.nd (ve_tup vds_nil)) (vss_cons (vs_for PassesOwn.never rfl (vi_enum (vds_cons (vd_of (ve_var 0)) vds_nil) W.z_enumerate) (vg_tup (n := 2) rfl (vgs_cons (vg_name (i := 3) sc_q_going.nd) (vgs_cons (vg_name (i := 4) sc_q_going.nd) vgs_nil))) (vss_cons (vs_setLc (i := 5) (own := [("_law_some", 6), ("_law_is_so", 7)]) rfl sc_q_going.nd (vi_seq (vd_of (ve_var 1))) (blkOk_by (by kernel_rfl)) (by decide) (fun _ _ _ _ _ => (vg_tup (n := 2) rfl (vgs_cons (vg_name (i := 6) sc_q_going.nd) (vgs_cons (vg_name (i := 7) sc_q_going.nd) vgs_nil)))) (fun _ _ _ _ _ => (vts_one (vt_cmp (o_ne (u64 hr)) (ve_callF (ok_q_passes W) (hr.mono (by decide)) hg W.g_q_passes W.F_q_passes.kp W.b_q_passes (vds_cons (vd_of (ve_var 4)) (vds_cons (vd_of (ve_var 6)) vds_nil)) (fun s ds s' h => (LDD.cons (LDD.cons LDD.nil)).lg h)) (ve_var 7)))) (fun _ _ _ _ _ => (vd_of ve_int))) (vss_one (vs_set (i := 2) sc_q_going.nd (ve_op o_add (ve_var 2) (ve_if (vt_cmp (o_eq (u64 hr)) (ve_var 5) (ve_lst vds_nil)) (ve_tup (vds_cons (vd_of (ve_var 3)) vds_nil)) (ve_tup vds_nil))))))) (vss_one (vs_ret (vd_of (ve_var 2))))))
theorem ok_q_going (W : Wd K mg ad fd) : FnG P w K mg base CX0 3 (ad 32) (fd 32) ["_law_menu_so", "_law_log_so"] (spP K 2 fn_q_going) := okP W.F_q_going sc_q_going (bd_q_going W)
def law1 : Stmt := (defBody s_law).getD 0 (.Pass ⟨0, 0, 0, 0⟩)
def lawR : List Stmt := (defBody s_law).drop 1
theorem law_split : defBody s_law = law1 :: lawR := by kernel_rfl
theorem bd1_law (W : Wd K mg ad fd) (E0 : XK) : ∀ (cdv : Value) (A : Around) (outer : List Env) (s : Shared) (H : Hp) (E : XK), Room 6 (A.deeper (envOfC "law" (defScope s_law) s.heap.objs.size (ad 33) cdv)) → A.guards = some [] → PS (bodyX P w K mg base ["_law_script", "_law_m", "_law_turn", "_law_told_so", "_law_log_so", "_law_far_so", "_law_bits", "_law_menu_so", "_law_k", "_law_kept", "_law_due", "_law_four", "_law_less", "_law_two", "_law_side_so", "_law_true", "_law_wrong", "_law_some", "_law_is_so"] "law" (defScope s_law) (ad 33) cdv A outer s H E) law1 (tAsg (tFn (spB K fn_q_begun) E0 (tCons (tVar 0) tNil)) (gName 1)) :=
  fun cdv A outer s H E hr hg => ps_set (i := 1) sc_law.nd rfl (by first | exact Or.inl rfl | exact Or.inr rfl) (pe_G (E := E0) (ok_q_begun W) (hr.mono (by decide)) hg W.g_q_begun W.F_q_begun.kp W.b_q_begun pass0 (pa_cons (pv 0) pa_nil))
theorem bd2_law (W : Wd K mg ad fd) : ∀ (cdv : Value) (A : Around) (outer : List Env) (s : Shared) (H : Hp) (E : XK) (C : Ct K), Room 6 (A.deeper (envOfC "law" (defScope s_law) s.heap.objs.size (ad 33) cdv)) → A.guards = some [] → VSs (bodyX P w K mg base ["_law_script", "_law_m", "_law_turn", "_law_told_so", "_law_log_so", "_law_far_so", "_law_bits", "_law_menu_so", "_law_k", "_law_kept", "_law_due", "_law_four", "_law_less", "_law_two", "_law_side_so", "_law_true", "_law_wrong", "_law_some", "_law_is_so"] "law" (defScope s_law) (ad 33) cdv A outer s H E) C lawR den_law :=
  fun cdv A outer s H E C hr hg => (vss_cons (vs_for PassesOwn.never rfl (vi_rng1 (ve_op o_add ve_int (ve_callB (c_min2 rfl) (va_cons ve_int (va_cons (ve_lenS (ve_var 0) W.z_len) va_nil)) W.z_min (by decide +kernel))) W.z_range) (vg_name (i := 2) sc_law.nd) (vss_cons (vs_set (i := 6) sc_law.nd (ve_op o_add ve_int (ve_callM (i := 1) (ok_q_draw W) (hr.mono (by decide)) hg W.g_q_draw W.F_q_draw.kp W.b_q_draw (pv 1) (vds_cons (vd_of ve_int) vds_nil) (fun s ds s' h => (LDD.cons LDD.nil).lg h)))) (vss_cons (vs_set (i := 7) sc_law.nd (ve_callTy c_tuple (va_cons (ve_lc (own := [("_law_k", 8)]) rfl sc_law.nd (vi_rng1 (ve_op o_add ve_int (ve_callM (i := 1) (ok_q_draw W) (hr.mono (by decide)) hg W.g_q_draw W.F_q_draw.kp W.b_q_draw (pv 1) (vds_cons (vd_of ve_int) vds_nil) (fun s ds s' h => (LDD.cons LDD.nil).lg h))) W.z_range) (blkOk_by (by kernel_rfl)) (by decide) (fun _ _ _ _ _ => (vg_name (i := 8) sc_law.nd)) (fun _ _ _ _ _ => vts_nil) (fun _ _ _ _ _ => (vd_of (ve_callM (i := 1) (ok_q_banyan W) (hr.mono (by decide)) hg W.g_q_banyan W.F_q_banyan.kp W.b_q_banyan (pv 1) (vds_cons (vd_of (ve_var 6)) vds_nil) (fun s ds s' h => (LDD.cons LDD.nil).lg h))))) va_nil) W.z_tuple (by decide +kernel))) (vss_cons (vs_if (vt_w (vw_and (vt_cmp (o_eq (u64 hr)) (ve_var 6) ve_int) (vw_and1 (vt_cmp (o_eq (u64 hr)) (ve_callM (i := 1) (ok_q_draw W) (hr.mono (by decide)) hg W.g_q_draw W.F_q_draw.kp W.b_q_draw (pv 1) (vds_cons (vd_of ve_int) vds_nil) (fun s ds s' h => (LDD.cons LDD.nil).lg h)) ve_int)))) (vss_one (vs_set (i := 7) sc_law.nd (ve_op o_add (ve_var 7) (ve_tup (vds_cons (vd_of (ve_callF0 (ok_q_ringed W) (hr.mono (by decide)) hg W.g_q_ringed W.F_q_ringed.kp W.b_q_ringed)) vds_nil))))) vss_nil) (vss_cons (vs_par3 (i0 := 15) (i1 := 4) (i2 := 16) rfl sc_law.nd (ve_callM (i := 1) (ok_q_of W) (hr.mono (by decide)) hg W.g_q_of W.F_q_of.kp W.b_q_of (pv 1) (vds_cons (vd_of (ve_callTy c_list (va_cons (ve_var 7) va_nil) W.z_list (by decide +kernel))) vds_nil) (fun s ds s' h => (LDD.cons LDD.nil).lg h)) (ve_tup vds_nil) ve_non) (vss_cons (vs_for PassesOwn.never rfl (vi_rng1 (ve_callM (i := 1) (ok_q_draw W) (hr.mono (by decide)) hg W.g_q_draw W.F_q_draw.kp W.b_q_draw (pv 1) (vds_cons (vd_of ve_int) vds_nil) (fun s ds s' h => (LDD.cons LDD.nil).lg h)) W.z_range) (vg_name (i := 8) sc_law.nd) (vss_cons (vs_set (i := 17) sc_law.nd (ve_callM (i := 1) (ok_q_demands W) (hr.mono (by decide)) hg W.g_q_demands W.F_q_demands.kp W.b_q_demands (pv 1) (vds_cons (vd_of (ve_var 15)) (vds_cons (vd_of (ve_op o_add ve_int (ve_callM (i := 1) (ok_q_draw W) (hr.mono (by decide)) hg W.g_q_draw W.F_q_draw.kp W.b_q_draw (pv 1) (vds_cons (vd_of ve_int) vds_nil) (fun s ds s' h => (LDD.cons LDD.nil).lg h)))) vds_nil)) (fun s ds s' h => (LDD.cons (LDD.cons LDD.nil)).lg h))) (vss_cons (vs_set (i := 18) sc_law.nd (ve_callF (ok_q_passes W) (hr.mono (by decide)) hg W.g_q_passes W.F_q_passes.kp W.b_q_passes (vds_cons (vd_of (ve_var 15)) (vds_cons (vd_of (ve_var 17)) vds_nil)) (fun s ds s' h => (LDD.cons (LDD.cons LDD.nil)).lg h))) (vss_one (vs_set (i := 4) sc_law.nd (ve_op o_add (ve_var 4) (ve_tup (vds_cons (vd_of (ve_tup (vds_cons (vd_of (ve_var 17)) (vds_cons (vd_of (ve_if (vt_cmp o_gt (ve_callM (i := 1) (ok_q_draw W) (hr.mono (by decide)) hg W.g_q_draw W.F_q_draw.kp W.b_q_draw (pv 1) (vds_cons (vd_of ve_int) vds_nil) (fun s ds s' h => (LDD.cons LDD.nil).lg h)) ve_int) (ve_var 18) (ve_not (ve_var 18)))) vds_nil)))) vds_nil)))))))) (vss_cons (vs_set (i := 9) sc_law.nd (ve_callB (c_repr hr hg) (va_cons (ve_lst (vds_cons (vd_of (ve_var 7)) (vds_cons (vd_of (ve_var 4)) vds_nil))) va_nil) W.z_repr (by decide +kernel))) (vss_cons (vs_for PassesOwn.never rfl (vi_rng1 (ve_callB c_len (va_cons (ve_var 4) va_nil) W.z_len (by decide +kernel)) W.z_range) (vg_name (i := 8) sc_law.nd) (vss_one (vs_if (vt_w (vw_and (vt_cmp o_is (ve_var 16) ve_non) (vw_and1 (vt_cmp (o_eq (u64 hr)) (ve_callF (ok_q_going W) (hr.mono (by decide)) hg W.g_q_going W.F_q_going.kp W.b_q_going (vds_cons (vd_of (ve_var 7)) (vds_cons (vd_of (ve_sl (ve_var 4) vo_none (vo_some (ve_op o_add (ve_var 8) ve_int)))) vds_nil)) (fun s ds s' h => (LDD.cons (LDD.cons LDD.nil)).lg h)) (ve_tup vds_nil))))) (vss_one (vs_set (i := 16) sc_law.nd (ve_var 8))) vss_nil))) (vss_cons (vs_set (i := 10) sc_law.nd (ve_lst (vds_cons (vd_of (ve_callF (ok_q_going W) (hr.mono (by decide)) hg W.g_q_going W.F_q_going.kp W.b_q_going (vds_cons (vd_of (ve_var 7)) (vds_cons (vd_of (ve_var 4)) vds_nil)) (fun s ds s' h => (LDD.cons (LDD.cons LDD.nil)).lg h))) (vds_cons (vd_of (ve_var 16)) vds_nil)))) (vss_cons (vs_set (i := 3) sc_law.nd (ve_lst (vds_cons (vd_of (ve_callF (ok_fitting_nets W) (hr.mono (by decide)) hg W.g_fitting_nets W.F_fitting_nets.kp W.b_fitting_nets (vds_cons (vd_of (ve_var 7)) (vds_cons (vd_of (ve_var 4)) vds_nil)) (fun s ds s' h => (LDD.cons (LDD.cons LDD.nil)).lg h))) (vds_cons (vd_of (ve_callF (ok_first_false W) (hr.mono (by decide)) hg W.g_first_false W.F_first_false.kp W.b_first_false (vds_cons (vd_of (ve_var 7)) (vds_cons (vd_of (ve_var 4)) vds_nil)) (fun s ds s' h => (LDD.cons (LDD.cons LDD.nil)).lg h))) vds_nil)))) (vss_cons (vs_set (i := 3) sc_law.nd (ve_op o_add (ve_var 3) (ve_lst (vds_cons (vd_of (ve_callF (ok_fitting_nets W) (hr.mono (by decide)) hg W.g_fitting_nets W.F_fitting_nets.kp W.b_fitting_nets (vds_cons (vd_of (ve_var 7)) (vds_cons (vd_of (ve_var 4)) vds_nil)) (fun s ds s' h => (LDD.cons (LDD.cons LDD.nil)).lg h))) (vds_cons (vd_of (ve_callF (ok_first_false W) (hr.mono (by decide)) hg W.g_first_false W.F_first_false.kp W.b_first_false (vds_cons (vd_of (ve_var 7)) (vds_cons (vd_of (ve_var 4)) vds_nil)) (fun s ds s' h => (LDD.cons (LDD.cons LDD.nil)).lg h))) vds_nil))))) (vss_one (vs_if (vt_w (vw_or (vt_not (vt_val (ve_callF (ok_q_like W) (hr.mono (by decide)) hg W.g_q_like W.F_q_like.kp W.b_q_like (vds_cons (vd_of (ve_var 3)) (vds_cons (vd_of (ve_op o_mulT (ve_var 10) ve_int)) vds_nil)) (fun s ds s' h => (LDD.cons (LDD.cons LDD.nil)).lg h)))) (vw_or1 (vt_cmp (o_ne (u64 hr)) (ve_callB (c_repr hr hg) (va_cons (ve_lst (vds_cons (vd_of (ve_var 7)) (vds_cons (vd_of (ve_var 4)) vds_nil))) va_nil) W.z_repr (by decide +kernel)) (ve_var 9))))) (vss_one (vs_ret (vd_of ve_bl))) vss_nil))))))))))))) (vss_cons (vs_par2 (i0 := 11) (i1 := 12) rfl sc_law.nd (ve_callF (ok_q_halving W) (hr.mono (by decide)) hg W.g_q_halving W.F_q_halving.kp W.b_q_halving (vds_cons (vd_of ve_int) vds_nil) (fun s ds s' h => (LDD.cons LDD.nil).lg h)) (ve_tup (vds_cons (vd_of (ve_tup (vds_cons (vd_of ve_int) (vds_cons (vd_of (ve_tup (vds_cons (vd_of (ve_tup (vds_cons (vd_of ve_int) (vds_cons (vd_of ve_int) (vds_cons (vd_of ve_int) (vds_cons (vd_of ve_int) vds_nil)))))) vds_nil))) vds_nil)))) (vds_cons (vd_of (ve_tup (vds_cons (vd_of ve_int) (vds_cons (vd_of (ve_tup (vds_cons (vd_of (ve_tup (vds_cons (vd_of ve_int) (vds_cons (vd_of ve_int) (vds_cons (vd_of ve_int) (vds_cons (vd_of ve_int) vds_nil)))))) vds_nil))) vds_nil)))) vds_nil)))) (vss_cons (vs_set (i := 3) sc_law.nd (ve_lst (vds_cons (vd_of (ve_callF (ok_fitting_nets W) (hr.mono (by decide)) hg W.g_fitting_nets W.F_fitting_nets.kp W.b_fitting_nets (vds_cons (vd_of (ve_var 12)) (vds_cons (vd_of (ve_tup (vds_cons (vd_of (ve_tup (vds_cons (vd_of (ve_tup vds_nil)) (vds_cons (vd_of ve_bl) vds_nil)))) vds_nil))) vds_nil)) (fun s ds s' h => (LDD.cons (LDD.cons LDD.nil)).lg h))) (vds_cons (vd_of (ve_callF (ok_fitting_nets W) (hr.mono (by decide)) hg W.g_fitting_nets W.F_fitting_nets.kp W.b_fitting_nets (vds_cons (vd_of (ve_var 12)) (vds_cons (vd_of (ve_tup (vds_cons (vd_of (ve_tup (vds_cons (vd_of (ve_tup vds_nil)) (vds_cons (vd_of ve_bl) vds_nil)))) vds_nil))) vds_nil)) (fun s ds s' h => (LDD.cons (LDD.cons LDD.nil)).lg h))) vds_nil)))) (vss_cons (vs_set (i := 3) sc_law.nd (ve_op o_add (ve_var 3) (ve_lst (vds_cons (vd_of (ve_callF (ok_first_false W) (hr.mono (by decide)) hg W.g_first_false W.F_first_false.kp W.b_first_false (vds_cons (vd_of (ve_var 12)) (vds_cons (vd_of (ve_tup (vds_cons (vd_of (ve_tup (vds_cons (vd_of (ve_tup vds_nil)) (vds_cons (vd_of ve_bl) vds_nil)))) (vds_cons (vd_of (ve_tup (vds_cons (vd_of (ve_tup vds_nil)) (vds_cons (vd_of ve_bl) vds_nil)))) (vds_cons (vd_of (ve_tup (vds_cons (vd_of (ve_tup vds_nil)) (vds_cons (vd_of ve_bl) vds_nil)))) vds_nil))))) vds_nil)) (fun s ds s' h => (LDD.cons (LDD.cons LDD.nil)).lg h))) (vds_cons (vd_of (ve_callF (ok_first_false W) (hr.mono (by decide)) hg W.g_first_false W.F_first_false.kp W.b_first_false (vds_cons (vd_of (ve_var 12)) (vds_cons (vd_of (ve_tup vds_nil)) vds_nil)) (fun s ds s' h => (LDD.cons (LDD.cons LDD.nil)).lg h))) vds_nil))))) (vss_cons (vs_if (vt_not (vt_val (ve_callF (ok_q_like W) (hr.mono (by decide)) hg W.g_q_like W.F_q_like.kp W.b_q_like (vds_cons (vd_of (ve_var 3)) (vds_cons (vd_of (ve_lst (vds_cons (vd_of (ve_tup (vds_cons (vd_of ve_int) (vds_cons (vd_of ve_int) vds_nil)))) (vds_cons (vd_of (ve_tup vds_nil)) (vds_cons (vd_of ve_int) (vds_cons (vd_of ve_non) vds_nil)))))) vds_nil)) (fun s ds s' h => (LDD.cons (LDD.cons LDD.nil)).lg h)))) (vss_one (vs_ret (vd_of ve_bl))) vss_nil) (vss_cons (vs_set (i := 4) sc_law.nd (ve_tup (vds_cons (vd_of (ve_tup (vds_cons (vd_of (ve_tup (vds_cons (vd_of (ve_tup (vds_cons (vd_of ve_int) (vds_cons (vd_of ve_int) vds_nil)))) (vds_cons (vd_of (ve_tup (vds_cons (vd_of ve_int) (vds_cons (vd_of ve_int) vds_nil)))) vds_nil)))) (vds_cons (vd_of ve_bl) vds_nil)))) (vds_cons (vd_of (ve_tup (vds_cons (vd_of (ve_tup (vds_cons (vd_of (ve_tup (vds_cons (vd_of ve_int) (vds_cons (vd_of ve_int) vds_nil)))) (vds_cons (vd_of (ve_tup (vds_cons (vd_of ve_int) (vds_cons (vd_of ve_int) vds_nil)))) vds_nil)))) (vds_cons (vd_of ve_bl) vds_nil)))) vds_nil)))) (vss_cons (vs_if (vt_not (vt_val (ve_callF (ok_q_like W) (hr.mono (by decide)) hg W.g_q_like W.F_q_like.kp W.b_q_like (vds_cons (vd_of (ve_lst (vds_cons (vd_of (ve_callF (ok_fitting_nets W) (hr.mono (by decide)) hg W.g_fitting_nets W.F_fitting_nets.kp W.b_fitting_nets (vds_cons (vd_of (ve_tup (vds_cons (vd_of (ve_var 11)) vds_nil))) (vds_cons (vd_of (ve_var 4)) vds_nil)) (fun s ds s' h => (LDD.cons (LDD.cons LDD.nil)).lg h))) (vds_cons (vd_of (ve_callF (ok_first_false W) (hr.mono (by decide)) hg W.g_first_false W.F_first_false.kp W.b_first_false (vds_cons (vd_of (ve_tup (vds_cons (vd_of (ve_var 11)) vds_nil))) (vds_cons (vd_of (ve_var 4)) vds_nil)) (fun s ds s' h => (LDD.cons (LDD.cons LDD.nil)).lg h))) vds_nil)))) (vds_cons (vd_of (ve_lst (vds_cons (vd_of (ve_tup (vds_cons (vd_of ve_int) vds_nil))) (vds_cons (vd_of ve_non) vds_nil)))) vds_nil)) (fun s ds s' h => (LDD.cons (LDD.cons LDD.nil)).lg h)))) (vss_one (vs_ret (vd_of ve_bl))) vss_nil) (vss_cons (vs_par2 (i0 := 13) (i1 := 14) rfl sc_law.nd (ve_callF (ok_q_halving W) (hr.mono (by decide)) hg W.g_q_halving W.F_q_halving.kp W.b_q_halving (vds_cons (vd_of ve_int) vds_nil) (fun s ds s' h => (LDD.cons LDD.nil).lg h)) (ve_tup (vds_cons (vd_of ve_int) (vds_cons (vd_of (ve_tup (vds_cons (vd_of (ve_tup (vds_cons (vd_of ve_int) (vds_cons (vd_of ve_int) (vds_cons (vd_of ve_int) (vds_cons (vd_of ve_int) vds_nil)))))) vds_nil))) vds_nil)))) (vss_cons (vs_set (i := 5) sc_law.nd (ve_tup (vds_cons (vd_of ve_int) (vds_cons (vd_of (ve_tup (vds_cons (vd_of (ve_tup (vds_cons (vd_of ve_int) (vds_cons (vd_of ve_int) (vds_cons (vd_of ve_int) (vds_cons (vd_of ve_int) vds_nil)))))) vds_nil))) vds_nil)))) (vss_cons (vs_set (i := 4) sc_law.nd (ve_op o_mulT (ve_tup (vds_cons (vd_of (ve_tup (vds_cons (vd_of (ve_tup (vds_cons (vd_of (ve_tup (vds_cons (vd_of ve_int) (vds_cons (vd_of ve_int) vds_nil)))) (vds_cons (vd_of (ve_tup (vds_cons (vd_of ve_int) (vds_cons (vd_of ve_int) vds_nil)))) vds_nil)))) (vds_cons (vd_of ve_bl) vds_nil)))) (vds_cons (vd_of (ve_tup (vds_cons (vd_of (ve_tup (vds_cons (vd_of (ve_tup (vds_cons (vd_of ve_int) (vds_cons (vd_of ve_int) vds_nil)))) (vds_cons (vd_of (ve_tup (vds_cons (vd_of ve_int) (vds_cons (vd_of ve_int) vds_nil)))) vds_nil)))) (vds_cons (vd_of ve_bl) vds_nil)))) vds_nil))) ve_int)) (vss_cons (vs_set (i := 3) sc_law.nd (ve_lst (vds_cons (vd_of (ve_callF (ok_fitting_nets W) (hr.mono (by decide)) hg W.g_fitting_nets W.F_fitting_nets.kp W.b_fitting_nets (vds_cons (vd_of (ve_op o_add (ve_op o_mulT (ve_tup (vds_cons (vd_of (ve_var 13)) (vds_cons (vd_of (ve_var 14)) (vds_cons (vd_of (ve_var 5)) vds_nil)))) ve_int) (ve_op o_mulT (ve_tup (vds_cons (vd_of (ve_var 13)) vds_nil)) ve_int))) (vds_cons (vd_of (ve_var 4)) vds_nil)) (fun s ds s' h => (LDD.cons (LDD.cons LDD.nil)).lg h))) (vds_cons (vd_of (ve_callF (ok_first_false W) (hr.mono (by decide)) hg W.g_first_false W.F_first_false.kp W.b_first_false (vds_cons (vd_of (ve_tup (vds_cons (vd_of (ve_var 13)) vds_nil))) (vds_cons (vd_of (ve_var 4)) vds_nil)) (fun s ds s' h => (LDD.cons (LDD.cons LDD.nil)).lg h))) vds_nil)))) (vss_cons (vs_app (pe_bm PySem.F.plainAttrs_list PySem.F.slot_list_append PySem.F.type_list_append mt_append (pv 3) (pa_cons (vd_of (ve_callF (ok_first_false W) (hr.mono (by decide)) hg W.g_first_false W.F_first_false.kp W.b_first_false (vds_cons (vd_of (ve_tup (vds_cons (vd_of (ve_var 13)) (vds_cons (vd_of (ve_var 5)) vds_nil)))) (vds_cons (vd_of (ve_tup (vds_cons (vd_of (ve_tup (vds_cons (vd_of (ve_tup (vds_cons (vd_of (ve_tup (vds_cons (vd_of ve_int) (vds_cons (vd_of ve_int) vds_nil)))) (vds_cons (vd_of (ve_tup (vds_cons (vd_of ve_int) (vds_cons (vd_of ve_int) vds_nil)))) vds_nil)))) (vds_cons (vd_of ve_bl) vds_nil)))) vds_nil))) vds_nil)) (fun s ds s' h => (LDD.cons (LDD.cons LDD.nil)).lg h))).run pa_nil))) (vss_one (vs_ret (vd_of (ve_callF (ok_q_like W) (hr.mono (by decide)) hg W.g_q_like W.F_q_like.kp W.b_q_like (vds_cons (vd_of (ve_var 3)) (vds_cons (vd_of (ve_lst (vds_cons (vd_of (ve_tup (vds_cons (vd_of ve_int) (vds_cons (vd_of ve_int) (vds_cons (vd_of ve_int) (vds_cons (vd_of ve_int) (vds_cons (vd_of ve_int) (vds_cons (vd_of ve_int) (vds_cons (vd_of ve_int) (vds_cons (vd_of ve_int) vds_nil)))))))))) (vds_cons (vd_of ve_non) (vds_cons (vd_of ve_int) vds_nil))))) vds_nil)) (fun s ds s' h => (LDD.cons (LDD.cons LDD.nil)).lg h)))))))))))))))))
theorem ok_law (W : Wd K mg ad fd) : FnG P w K mg base CX0 7 (ad 33) (fd 33) ["_law_script"] (spLaw K fn_law) := by
  have h := okLaw (P := P) (w := w) (base := base) (k := 6) (ps := ["_law_script"]) (fb := fn_q_begun) (den := den_law) (E0 := fun _ _ _ => False) (n := 17) (st1 := law1) (rest := lawR) (F := W.F_law) (S := sc_law) (hN := rfl) (hps := rfl) (hbd := law_split) (hb1 := bd1_law W _) (hb2 := bd2_law W)
  exact h
end
end G

namespace G
open PySem PySem.Spec PyProof.Rows L2 VL
def dd_is_whole : He.DefD := ⟨("is_whole", none), "is_whole", "is_whole", defArgs s_is_whole, defBody s_is_whole, defScope s_is_whole, [], []⟩
def dd_is_order : He.DefD := ⟨("is_order", none), "is_order", "is_order", defArgs s_is_order, defBody s_is_order, defScope s_is_order, [], []⟩
def dd_wires_of : He.DefD := ⟨("wires_of", none), "wires_of", "wires_of", defArgs s_wires_of, defBody s_wires_of, defScope s_wires_of, [], []⟩
def dd_need_net : He.DefD := ⟨("need_net", none), "need_net", "need_net", defArgs s_need_net, defBody s_need_net, defScope s_need_net, [], []⟩
def dd_next_wires : He.DefD := ⟨("next_wires", none), "next_wires", "next_wires", defArgs s_next_wires, defBody s_next_wires, defScope s_next_wires, [], []⟩
def dd_counts_from : He.DefD := ⟨("counts_from", none), "counts_from", "counts_from", defArgs s_counts_from, defBody s_counts_from, defScope s_counts_from, [], []⟩
def dd_is_banyan_of : He.DefD := ⟨("is_banyan_of", none), "is_banyan_of", "is_banyan_of", defArgs s_is_banyan_of, defBody s_is_banyan_of, defScope s_is_banyan_of, [], []⟩
def dd_wrong_in_demands : He.DefD := ⟨("wrong_in_demands", none), "wrong_in_demands", "wrong_in_demands", defArgs s_wrong_in_demands, defBody s_wrong_in_demands, defScope s_wrong_in_demands, [], []⟩
def dd_ways_table : He.DefD := ⟨("ways_table", none), "ways_table", "ways_table", defArgs s_ways_table, defBody s_ways_table, defScope s_ways_table, [], []⟩
def dd_is_apart : He.DefD := ⟨("is_apart", none), "is_apart", "is_apart", defArgs s_is_apart, defBody s_is_apart, defScope s_is_apart, [], []⟩
def dd_do_keep_apart : He.DefD := ⟨("do_keep_apart", none), "do_keep_apart", "do_keep_apart", defArgs s_do_keep_apart, defBody s_do_keep_apart, defScope s_do_keep_apart, [], []⟩
def dd_is_like : He.DefD := ⟨("is_like", none), "is_like", "is_like", defArgs s_is_like, defBody s_is_like, defScope s_is_like, [], []⟩
def dd_need_menu : He.DefD := ⟨("need_menu", none), "need_menu", "need_menu", defArgs s_need_menu, defBody s_need_menu, defScope s_need_menu, [], []⟩
def dd_need_log : He.DefD := ⟨("need_log", none), "need_log", "need_log", defArgs s_need_log, defBody s_need_log, defScope s_need_log, [], []⟩
def dd_does_pass_by : He.DefD := ⟨("does_pass_by", none), "does_pass_by", "does_pass_by", defArgs s_does_pass_by, defBody s_does_pass_by, defScope s_does_pass_by, [], []⟩
def dd_fitting_in : He.DefD := ⟨("fitting_in", none), "fitting_in", "fitting_in", defArgs s_fitting_in, defBody s_fitting_in, defScope s_fitting_in, [], []⟩
def dd_fitting_nets : He.DefD := ⟨("fitting_nets", none), "fitting_nets", "fitting_nets", defArgs s_fitting_nets, defBody s_fitting_nets, defScope s_fitting_nets, [], []⟩
def dd_first_false : He.DefD := ⟨("first_false", none), "first_false", "first_false", defArgs s_first_false, defBody s_first_false, defScope s_first_false, [], []⟩
def dd_q_mixed : He.DefD := ⟨("_law_mixed", none), "_law_mixed", "_law_mixed", defArgs s_q_mixed, defBody s_q_mixed, defScope s_q_mixed, [], []⟩
def dd_q_folded : He.DefD := ⟨("_law_folded", none), "_law_folded", "_law_folded", defArgs s_q_folded, defBody s_q_folded, defScope s_q_folded, [], []⟩
def dd_q_draw : He.DefD := ⟨("_law_draw", none), "_law_draw", "_law_draw", defArgs s_q_draw, defBody s_q_draw, defScope s_q_draw, [], []⟩
def dd_q_begun : He.DefD := ⟨("_law_begun", none), "_law_begun", "_law_begun", defArgs s_q_begun, defBody s_q_begun, defScope s_q_begun, [], []⟩
def dd_q_like : He.DefD := ⟨("_law_like", none), "_law_like", "_law_like", defArgs s_q_like, defBody s_q_like, defScope s_q_like, [], []⟩
def dd_q_of : He.DefD := ⟨("_law_of", none), "_law_of", "_law_of", defArgs s_q_of, defBody s_q_of, defScope s_q_of, [], []⟩
def dd_q_order : He.DefD := ⟨("_law_order", none), "_law_order", "_law_order", defArgs s_q_order, defBody s_q_order, defScope s_q_order, [], []⟩
def dd_q_halving : He.DefD := ⟨("_law_halving", none), "_law_halving", "_law_halving", defArgs s_q_halving, defBody s_q_halving, defScope s_q_halving, [], []⟩
def dd_q_banyan : He.DefD := ⟨("_law_banyan", none), "_law_banyan", "_law_banyan", defArgs s_q_banyan, defBody s_q_banyan, defScope s_q_banyan, [], []⟩
def dd_q_ringed : He.DefD := ⟨("_law_ringed", none), "_law_ringed", "_law_ringed", defArgs s_q_ringed, defBody s_q_ringed, defScope s_q_ringed, [], []⟩
def dd_q_ways : He.DefD := ⟨("_law_ways", none), "_law_ways", "_law_ways", defArgs s_q_ways, defBody s_q_ways, defScope s_q_ways, [], []⟩
def dd_q_apart : He.DefD := ⟨("_law_apart", none), "_law_apart", "_law_apart", defArgs s_q_apart, defBody s_q_apart, defScope s_q_apart, [], []⟩
def dd_q_demands : He.DefD := ⟨("_law_demands", none), "_law_demands", "_law_demands", defArgs s_q_demands, defBody s_q_demands, defScope s_q_demands, [], []⟩
def dd_q_passes : He.DefD := ⟨("_law_passes", none), "_law_passes", "_law_passes", defArgs s_q_passes, defBody s_q_passes, defScope s_q_passes, [], []⟩
def dd_q_going : He.DefD := ⟨("_law_going", none), "_law_going", "_law_going", defArgs s_q_going, defBody s_q_going, defScope s_q_going, [], []⟩
def dd_law : He.DefD := ⟨("law", none), "law", "law", defArgs s_law, defBody s_law, defScope s_law, [], []⟩
def fnL : List He.DefD := [dd_is_whole, dd_is_order, dd_wires_of, dd_need_net, dd_next_wires, dd_counts_from, dd_is_banyan_of, dd_wrong_in_demands, dd_ways_table, dd_is_apart, dd_do_keep_apart, dd_is_like, dd_need_menu, dd_need_log, dd_does_pass_by, dd_fitting_in, dd_fitting_nets, dd_first_false, dd_q_mixed, dd_q_folded, dd_q_draw, dd_q_begun, dd_q_like, dd_q_of, dd_q_order, dd_q_halving, dd_q_banyan, dd_q_ringed, dd_q_ways, dd_q_apart, dd_q_demands, dd_q_passes, dd_q_going, dd_law]
def faL : List He.Fa := [.glo "is_whole", .glo "is_order", .glo "wires_of", .glo "need_net", .glo "next_wires", .glo "counts_from", .glo "is_banyan_of", .glo "wrong_in_demands", .glo "ways_table", .glo "is_apart", .glo "do_keep_apart", .glo "is_like", .glo "need_menu", .glo "need_log", .glo "does_pass_by", .glo "fitting_in", .glo "fitting_nets", .glo "first_false", .glo "_law_mixed", .glo "_law_folded", .glo "_law_draw", .glo "_law_begun", .glo "_law_like", .glo "_law_of", .glo "_law_order", .glo "_law_halving", .glo "_law_banyan", .glo "_law_ringed", .glo "_law_ways", .glo "_law_apart", .glo "_law_demands", .glo "_law_passes", .glo "_law_going", .glo "law", .free "all", .free "any", .free "bool", .free "enumerate", .free "int", .free "isinstance", .free "len", .free "list", .free "min", .free "range", .free "repr", .free "set", .free "sorted", .free "tuple", .free "zip", .int "MOST_BITS" 4, .int "MOST_LOG" 30, .int "MOST_MENU" 8, .int "MOST_ROWS" 7]
abbrev RR : PySem.W.OpenRow := PySem.W.OpenLaw.row PySem.Challenge.rw_bitswitches_k88_whole_logs
abbrev hkL : PySem.W.Hook := He.hookD 4 faL fnL
def obL (s : PySem.W.SharedT) : He.AlD := He.obsDG 4 faL fnL (HandSHeadRun.getT s)
theorem ob_eq (s : PySem.W.SharedT) : obL s = hkL.obs s.abs := He.obsDG_eq (HandSHeadRun.getT_eq s)
def nm0 : List PySem.Str := ["SwitchError", "BadNet", "BadMenu", "BadLog", "MOST_BITS", "MOST_ROWS", "is_whole", "is_order", "need_net", "wires_of", "next_wires", "counts_from", "is_banyan_of", "wrong_in_demands", "ways_table", "is_apart", "do_keep_apart", "MOST_MENU", "MOST_LOG", "is_like", "need_menu", "need_log", "does_pass_by", "fitting_in", "fitting_nets", "first_false", "_law_mixed", "_law_folded", "_law_draw", "_law_begun"]
def nm1 : List PySem.Str := ["_law_like", "_law_of", "_law_order", "_law_halving", "_law_banyan", "_law_ringed", "_law_ways", "_law_apart", "_law_demands", "_law_passes", "_law_going"]
def nmL : List PySem.Str := nm0 ++ nm1
set_option maxHeartbeats 0 in
theorem runL (w : World) : HandSHeadRun.RunEq RR (PySem.W.view RR.prog [48]) hkL obL 6000 nmL w := by
  intro os
  kernel_rfl
def nameAt (i : Nat) : Str := ["is_whole", "is_order", "wires_of", "need_net", "next_wires", "counts_from", "is_banyan_of", "wrong_in_demands", "ways_table", "is_apart", "do_keep_apart", "is_like", "need_menu", "need_log", "does_pass_by", "fitting_in", "fitting_nets", "first_false", "_law_mixed", "_law_folded", "_law_draw", "_law_begun", "_law_like", "_law_of", "_law_order", "_law_halving", "_law_banyan", "_law_ringed", "_law_ways", "_law_apart", "_law_demands", "_law_passes", "_law_going", "law"].getD i ""
theorem wd_of {K : PySem.W.Frag} {h : Heap} {mg : Str → Option Value} (X : K.In h) (N : h.Ns mainGlobals mg) (c : He.SaysD faL fnL K) (d0 : FuncData) : Wd K mg (fun i => He.ga K (nameAt i)) (fun i => fdAt K d0 (He.ga K (nameAt i))) where
  F_is_whole := fun_of (c.def_ 0 (d := dd_is_whole) rfl)
  g_is_whole := He.glo_ok X N (c.fact 0 (f := .glo "is_whole") rfl)
  b_is_whole := Fun.binds (x := "is_whole") (qual := "is_whole") (st := s_is_whole) (fun_of (d0 := d0) (c.def_ 0 (d := dd_is_whole) rfl)) fun _ _ _ _ _ _ us hl => match us, hl with | [_, _, _], _ => rfl
  F_is_order := fun_of (c.def_ 1 (d := dd_is_order) rfl)
  g_is_order := He.glo_ok X N (c.fact 1 (f := .glo "is_order") rfl)
  b_is_order := Fun.binds (x := "is_order") (qual := "is_order") (st := s_is_order) (fun_of (d0 := d0) (c.def_ 1 (d := dd_is_order) rfl)) fun _ _ _ _ _ _ us hl => match us, hl with | [_, _], _ => rfl
  F_wires_of := fun_of (c.def_ 2 (d := dd_wires_of) rfl)
  g_wires_of := He.glo_ok X N (c.fact 2 (f := .glo "wires_of") rfl)
  b_wires_of := Fun.binds (x := "wires_of") (qual := "wires_of") (st := s_wires_of) (fun_of (d0 := d0) (c.def_ 2 (d := dd_wires_of) rfl)) fun _ _ _ _ _ _ us hl => match us, hl with | [_], _ => rfl
  F_need_net := fun_of (c.def_ 3 (d := dd_need_net) rfl)
  g_need_net := He.glo_ok X N (c.fact 3 (f := .glo "need_net") rfl)
  b_need_net := Fun.binds (x := "need_net") (qual := "need_net") (st := s_need_net) (fun_of (d0 := d0) (c.def_ 3 (d := dd_need_net) rfl)) fun _ _ _ _ _ _ us hl => match us, hl with | [_], _ => rfl
  F_next_wires := fun_of (c.def_ 4 (d := dd_next_wires) rfl)
  g_next_wires := He.glo_ok X N (c.fact 4 (f := .glo "next_wires") rfl)
  b_next_wires := Fun.binds (x := "next_wires") (qual := "next_wires") (st := s_next_wires) (fun_of (d0 := d0) (c.def_ 4 (d := dd_next_wires) rfl)) fun _ _ _ _ _ _ us hl => match us, hl with | [_, _, _], _ => rfl
  F_counts_from := fun_of (c.def_ 5 (d := dd_counts_from) rfl)
  g_counts_from := He.glo_ok X N (c.fact 5 (f := .glo "counts_from") rfl)
  b_counts_from := Fun.binds (x := "counts_from") (qual := "counts_from") (st := s_counts_from) (fun_of (d0 := d0) (c.def_ 5 (d := dd_counts_from) rfl)) fun _ _ _ _ _ _ us hl => match us, hl with | [_, _], _ => rfl
  F_is_banyan_of := fun_of (c.def_ 6 (d := dd_is_banyan_of) rfl)
  g_is_banyan_of := He.glo_ok X N (c.fact 6 (f := .glo "is_banyan_of") rfl)
  b_is_banyan_of := Fun.binds (x := "is_banyan_of") (qual := "is_banyan_of") (st := s_is_banyan_of) (fun_of (d0 := d0) (c.def_ 6 (d := dd_is_banyan_of) rfl)) fun _ _ _ _ _ _ us hl => match us, hl with | [_], _ => rfl
  F_wrong_in_demands := fun_of (c.def_ 7 (d := dd_wrong_in_demands) rfl)
  g_wrong_in_demands := He.glo_ok X N (c.fact 7 (f := .glo "wrong_in_demands") rfl)
  b_wrong_in_demands := Fun.binds (x := "wrong_in_demands") (qual := "wrong_in_demands") (st := s_wrong_in_demands) (fun_of (d0 := d0) (c.def_ 7 (d := dd_wrong_in_demands) rfl)) fun _ _ _ _ _ _ us hl => match us, hl with | [_, _], _ => rfl
  F_ways_table := fun_of (c.def_ 8 (d := dd_ways_table) rfl)
  g_ways_table := He.glo_ok X N (c.fact 8 (f := .glo "ways_table") rfl)
  b_ways_table := Fun.binds (x := "ways_table") (qual := "ways_table") (st := s_ways_table) (fun_of (d0 := d0) (c.def_ 8 (d := dd_ways_table) rfl)) fun _ _ _ _ _ _ us hl => match us, hl with | [_], _ => rfl
  F_is_apart := fun_of (c.def_ 9 (d := dd_is_apart) rfl)
  g_is_apart := He.glo_ok X N (c.fact 9 (f := .glo "is_apart") rfl)
  b_is_apart := Fun.binds (x := "is_apart") (qual := "is_apart") (st := s_is_apart) (fun_of (d0 := d0) (c.def_ 9 (d := dd_is_apart) rfl)) fun _ _ _ _ _ _ us hl => match us, hl with | [_, _], _ => rfl
  F_do_keep_apart := fun_of (c.def_ 10 (d := dd_do_keep_apart) rfl)
  g_do_keep_apart := He.glo_ok X N (c.fact 10 (f := .glo "do_keep_apart") rfl)
  b_do_keep_apart := Fun.binds (x := "do_keep_apart") (qual := "do_keep_apart") (st := s_do_keep_apart) (fun_of (d0 := d0) (c.def_ 10 (d := dd_do_keep_apart) rfl)) fun _ _ _ _ _ _ us hl => match us, hl with | [_], _ => rfl
  F_is_like := fun_of (c.def_ 11 (d := dd_is_like) rfl)
  g_is_like := He.glo_ok X N (c.fact 11 (f := .glo "is_like") rfl)
  b_is_like := Fun.binds (x := "is_like") (qual := "is_like") (st := s_is_like) (fun_of (d0 := d0) (c.def_ 11 (d := dd_is_like) rfl)) fun _ _ _ _ _ _ us hl => match us, hl with | [_, _], _ => rfl
  F_need_menu := fun_of (c.def_ 12 (d := dd_need_menu) rfl)
  g_need_menu := He.glo_ok X N (c.fact 12 (f := .glo "need_menu") rfl)
  b_need_menu := Fun.binds (x := "need_menu") (qual := "need_menu") (st := s_need_menu) (fun_of (d0 := d0) (c.def_ 12 (d := dd_need_menu) rfl)) fun _ _ _ _ _ _ us hl => match us, hl with | [_], _ => rfl
  F_need_log := fun_of (c.def_ 13 (d := dd_need_log) rfl)
  g_need_log := He.glo_ok X N (c.fact 13 (f := .glo "need_log") rfl)
  b_need_log := Fun.binds (x := "need_log") (qual := "need_log") (st := s_need_log) (fun_of (d0 := d0) (c.def_ 13 (d := dd_need_log) rfl)) fun _ _ _ _ _ _ us hl => match us, hl with | [_, _], _ => rfl
  F_does_pass_by := fun_of (c.def_ 14 (d := dd_does_pass_by) rfl)
  g_does_pass_by := He.glo_ok X N (c.fact 14 (f := .glo "does_pass_by") rfl)
  b_does_pass_by := Fun.binds (x := "does_pass_by") (qual := "does_pass_by") (st := s_does_pass_by) (fun_of (d0 := d0) (c.def_ 14 (d := dd_does_pass_by) rfl)) fun _ _ _ _ _ _ us hl => match us, hl with | [_, _], _ => rfl
  F_fitting_in := fun_of (c.def_ 15 (d := dd_fitting_in) rfl)
  g_fitting_in := He.glo_ok X N (c.fact 15 (f := .glo "fitting_in") rfl)
  b_fitting_in := Fun.binds (x := "fitting_in") (qual := "fitting_in") (st := s_fitting_in) (fun_of (d0 := d0) (c.def_ 15 (d := dd_fitting_in) rfl)) fun _ _ _ _ _ _ us hl => match us, hl with | [_, _], _ => rfl
  F_fitting_nets := fun_of (c.def_ 16 (d := dd_fitting_nets) rfl)
  g_fitting_nets := He.glo_ok X N (c.fact 16 (f := .glo "fitting_nets") rfl)
  b_fitting_nets := Fun.binds (x := "fitting_nets") (qual := "fitting_nets") (st := s_fitting_nets) (fun_of (d0 := d0) (c.def_ 16 (d := dd_fitting_nets) rfl)) fun _ _ _ _ _ _ us hl => match us, hl with | [_, _], _ => rfl
  F_first_false := fun_of (c.def_ 17 (d := dd_first_false) rfl)
  g_first_false := He.glo_ok X N (c.fact 17 (f := .glo "first_false") rfl)
  b_first_false := Fun.binds (x := "first_false") (qual := "first_false") (st := s_first_false) (fun_of (d0 := d0) (c.def_ 17 (d := dd_first_false) rfl)) fun _ _ _ _ _ _ us hl => match us, hl with | [_, _], _ => rfl
  F_q_mixed := fun_of (c.def_ 18 (d := dd_q_mixed) rfl)
  g_q_mixed := He.glo_ok X N (c.fact 18 (f := .glo "_law_mixed") rfl)
  b_q_mixed := Fun.binds (x := "_law_mixed") (qual := "_law_mixed") (st := s_q_mixed) (fun_of (d0 := d0) (c.def_ 18 (d := dd_q_mixed) rfl)) fun _ _ _ _ _ _ us hl => match us, hl with | [_, _], _ => rfl
  F_q_folded := fun_of (c.def_ 19 (d := dd_q_folded) rfl)
  g_q_folded := He.glo_ok X N (c.fact 19 (f := .glo "_law_folded") rfl)
  b_q_folded := Fun.binds (x := "_law_folded") (qual := "_law_folded") (st := s_q_folded) (fun_of (d0 := d0) (c.def_ 19 (d := dd_q_folded) rfl)) fun _ _ _ _ _ _ us hl => match us, hl with | [_], _ => rfl
  F_q_draw := fun_of (c.def_ 20 (d := dd_q_draw) rfl)
  g_q_draw := He.glo_ok X N (c.fact 20 (f := .glo "_law_draw") rfl)
  b_q_draw := Fun.binds (x := "_law_draw") (qual := "_law_draw") (st := s_q_draw) (fun_of (d0 := d0) (c.def_ 20 (d := dd_q_draw) rfl)) fun _ _ _ _ _ _ us hl => match us, hl with | [_, _], _ => rfl
  F_q_begun := fun_of (c.def_ 21 (d := dd_q_begun) rfl)
  g_q_begun := He.glo_ok X N (c.fact 21 (f := .glo "_law_begun") rfl)
  b_q_begun := Fun.binds (x := "_law_begun") (qual := "_law_begun") (st := s_q_begun) (fun_of (d0 := d0) (c.def_ 21 (d := dd_q_begun) rfl)) fun _ _ _ _ _ _ us hl => match us, hl with | [_], _ => rfl
  F_q_like := fun_of (c.def_ 22 (d := dd_q_like) rfl)
  g_q_like := He.glo_ok X N (c.fact 22 (f := .glo "_law_like") rfl)
  b_q_like := Fun.binds (x := "_law_like") (qual := "_law_like") (st := s_q_like) (fun_of (d0 := d0) (c.def_ 22 (d := dd_q_like) rfl)) fun _ _ _ _ _ _ us hl => match us, hl with | [_, _], _ => rfl
  F_q_of := fun_of (c.def_ 23 (d := dd_q_of) rfl)
  g_q_of := He.glo_ok X N (c.fact 23 (f := .glo "_law_of") rfl)
  b_q_of := Fun.binds (x := "_law_of") (qual := "_law_of") (st := s_q_of) (fun_of (d0 := d0) (c.def_ 23 (d := dd_q_of) rfl)) fun _ _ _ _ _ _ us hl => match us, hl with | [_, _], _ => rfl
  F_q_order := fun_of (c.def_ 24 (d := dd_q_order) rfl)
  g_q_order := He.glo_ok X N (c.fact 24 (f := .glo "_law_order") rfl)
  b_q_order := Fun.binds (x := "_law_order") (qual := "_law_order") (st := s_q_order) (fun_of (d0 := d0) (c.def_ 24 (d := dd_q_order) rfl)) fun _ _ _ _ _ _ us hl => match us, hl with | [_, _], _ => rfl
  F_q_halving := fun_of (c.def_ 25 (d := dd_q_halving) rfl)
  g_q_halving := He.glo_ok X N (c.fact 25 (f := .glo "_law_halving") rfl)
  b_q_halving := Fun.binds (x := "_law_halving") (qual := "_law_halving") (st := s_q_halving) (fun_of (d0 := d0) (c.def_ 25 (d := dd_q_halving) rfl)) fun _ _ _ _ _ _ us hl => match us, hl with | [_], _ => rfl
  F_q_banyan := fun_of (c.def_ 26 (d := dd_q_banyan) rfl)
  g_q_banyan := He.glo_ok X N (c.fact 26 (f := .glo "_law_banyan") rfl)
  b_q_banyan := Fun.binds (x := "_law_banyan") (qual := "_law_banyan") (st := s_q_banyan) (fun_of (d0 := d0) (c.def_ 26 (d := dd_q_banyan) rfl)) fun _ _ _ _ _ _ us hl => match us, hl with | [_, _], _ => rfl
  F_q_ringed := fun_of (c.def_ 27 (d := dd_q_ringed) rfl)
  g_q_ringed := He.glo_ok X N (c.fact 27 (f := .glo "_law_ringed") rfl)
  b_q_ringed := Fun.binds (x := "_law_ringed") (qual := "_law_ringed") (st := s_q_ringed) (fun_of (d0 := d0) (c.def_ 27 (d := dd_q_ringed) rfl)) fun _ _ _ _ _ _ us hl => match us, hl with | [], _ => rfl
  F_q_ways := fun_of (c.def_ 28 (d := dd_q_ways) rfl)
  g_q_ways := He.glo_ok X N (c.fact 28 (f := .glo "_law_ways") rfl)
  b_q_ways := Fun.binds (x := "_law_ways") (qual := "_law_ways") (st := s_q_ways) (fun_of (d0 := d0) (c.def_ 28 (d := dd_q_ways) rfl)) fun _ _ _ _ _ _ us hl => match us, hl with | [_, _], _ => rfl
  F_q_apart := fun_of (c.def_ 29 (d := dd_q_apart) rfl)
  g_q_apart := He.glo_ok X N (c.fact 29 (f := .glo "_law_apart") rfl)
  b_q_apart := Fun.binds (x := "_law_apart") (qual := "_law_apart") (st := s_q_apart) (fun_of (d0 := d0) (c.def_ 29 (d := dd_q_apart) rfl)) fun _ _ _ _ _ _ us hl => match us, hl with | [_, _], _ => rfl
  F_q_demands := fun_of (c.def_ 30 (d := dd_q_demands) rfl)
  g_q_demands := He.glo_ok X N (c.fact 30 (f := .glo "_law_demands") rfl)
  b_q_demands := Fun.binds (x := "_law_demands") (qual := "_law_demands") (st := s_q_demands) (fun_of (d0 := d0) (c.def_ 30 (d := dd_q_demands) rfl)) fun _ _ _ _ _ _ us hl => match us, hl with | [_, _, _], _ => rfl
  F_q_passes := fun_of (c.def_ 31 (d := dd_q_passes) rfl)
  g_q_passes := He.glo_ok X N (c.fact 31 (f := .glo "_law_passes") rfl)
  b_q_passes := Fun.binds (x := "_law_passes") (qual := "_law_passes") (st := s_q_passes) (fun_of (d0 := d0) (c.def_ 31 (d := dd_q_passes) rfl)) fun _ _ _ _ _ _ us hl => match us, hl with | [_, _], _ => rfl
  F_q_going := fun_of (c.def_ 32 (d := dd_q_going) rfl)
  g_q_going := He.glo_ok X N (c.fact 32 (f := .glo "_law_going") rfl)
  b_q_going := Fun.binds (x := "_law_going") (qual := "_law_going") (st := s_q_going) (fun_of (d0 := d0) (c.def_ 32 (d := dd_q_going) rfl)) fun _ _ _ _ _ _ us hl => match us, hl with | [_, _], _ => rfl
  F_law := fun_of (c.def_ 33 (d := dd_law) rfl)
  g_law := He.glo_ok X N (c.fact 33 (f := .glo "law") rfl)
  b_law := Fun.binds (x := "law") (qual := "law") (st := s_law) (fun_of (d0 := d0) (c.def_ 33 (d := dd_law) rfl)) fun _ _ _ _ _ _ us hl => match us, hl with | [_], _ => rfl
  z_all := He.free_ok X N (c.fact 34 (f := .free "all") rfl)
  z_any := He.free_ok X N (c.fact 35 (f := .free "any") rfl)
  z_bool := He.free_ok X N (c.fact 36 (f := .free "bool") rfl)
  z_enumerate := He.free_ok X N (c.fact 37 (f := .free "enumerate") rfl)
  z_int := He.free_ok X N (c.fact 38 (f := .free "int") rfl)
  z_isinstance := He.free_ok X N (c.fact 39 (f := .free "isinstance") rfl)
  z_len := He.free_ok X N (c.fact 40 (f := .free "len") rfl)
  z_list := He.free_ok X N (c.fact 41 (f := .free "list") rfl)
  z_min := He.free_ok X N (c.fact 42 (f := .free "min") rfl)
  z_range := He.free_ok X N (c.fact 43 (f := .free "range") rfl)
  z_repr := He.free_ok X N (c.fact 44 (f := .free "repr") rfl)
  z_set := He.free_ok X N (c.fact 45 (f := .free "set") rfl)
  z_sorted := He.free_ok X N (c.fact 46 (f := .free "sorted") rfl)
  z_tuple := He.free_ok X N (c.fact 47 (f := .free "tuple") rfl)
  z_zip := He.free_ok X N (c.fact 48 (f := .free "zip") rfl)
  c_MOST_BITS := He.int_ok X N (c.fact 49 (f := .int "MOST_BITS" 4) rfl)
  c_MOST_LOG := He.int_ok X N (c.fact 50 (f := .int "MOST_LOG" 30) rfl)
  c_MOST_MENU := He.int_ok X N (c.fact 51 (f := .int "MOST_MENU" 8) rfl)
  c_MOST_ROWS := He.int_ok X N (c.fact 52 (f := .int "MOST_ROWS" 7) rfl)
end G

open PySem PySem.W PySem.Calls PyProof.Rows
theorem PySem.Challenge.cw_bitswitches_k88_whole_logs_holds : PySem.Challenge.rw_bitswitches_k88_whole_logs.Holds := by
  w_on; o_law
  refine HandSHeadRun.head_any (r := G.RR) (q := view G.RR.prog [48]) (H := G.hkL) (ob := G.obL) (M := 6000) (loose := G.nmL) (d := HandSHeadRun.topDef G.RR.prog 48) (kwd := []) G.ob_eq
    (by kernel_rfl) (fun s => by kernel_rfl) G.runL (by kernel_rfl) (by kernel_rfl) (by kernel_rfl) (by rfl) (by first | assumption | decide +kernel) (by decide +kernel) ⟨rfl, rfl, rfl, rfl, rfl, by decide +kernel⟩ ?hw ?hc
  case hw => w_witness2
  case hc =>
    refine VL.walk_ofG (l := PySem.Challenge.rw_bitswitches_k88_whole_logs) (n := 63) (k := 7) (x := "_law_script") rfl (by decide) (by kernel_rfl) ⟨rfl, by decide, by decide⟩ ?_
    intro w mg fa h Y N hmg0
    obtain ⟨K, KX, c⟩ := Y
    have hmg : mg ("law" : PySem.Str) = some (.ref fa) := by
      have e : (HandSHeadRun.topDef G.RR.prog 48).name = ("law" : PySem.Str) := by kernel_rfl
      rw [← e]
      exact hmg0
    obtain ⟨d0, _⟩ := c.def_ 0 (d := G.dd_is_whole) rfl
    have W := G.wd_of KX N c d0
    have ef := hmg.symm.trans W.g_law
    cases ef
    exact ⟨K, _, G.fn_law, KX, fun s v => VL.fun_binds (x := "law") (qual := "law") (st := G.s_law) (ps := ["_law_script"]) W.F_law (fun _ _ _ _ _ _ us hl => match us, hl with | [_], _ => rfl) s [v] rfl, G.law_true, fun base _ _ => G.ok_law W⟩

