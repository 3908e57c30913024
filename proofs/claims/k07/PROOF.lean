import PyProof.Rows.All
import Wide.All
import OpenK.AllK
import Wide.FinOn
import HandS.ForMost
import HandS.TupMul
import HandS.List
import HandS.TupAny
import HandS.Style
import HandS.IsInst
import HandS.Deep
import PyProof.NeKinds
import PyProof.ListStr
import HandS.Conv
import HandS.TupLen
import HandS.More
import HandS.Iter
import HandS.TryOnly
import HandS.Ends
import HandS.Text
import PyProof.ReprRoads
import KE.SortData
import KE.KDictSum
import HandS.TupSets
import HandS.SetKeys
import KE.DataMinMax
import PyProof.SumAny
import HandS.Zip
import HandS.CallLocal
import PyProof.ReprLen
import PyProof.StrCaseBound
import PyProof.Rows.StrFit
import PySem.Challenge.RW_wakingheads_k07_facts_told
set_option Elab.async false
set_option linter.all false
set_option maxRecDepth 100000
/-! Wk1: the small machine over plain data. T: results with draws; En: slots and a store; Rp: what a value stands for; SO: a state is held. -/
namespace Wk
open PySem PySem.Spec PyProof.Rows L2

abbrev D := PyData

/-! ### results -/
inductive T (α : Type) : Type where
  | ret (a : α)
  | fail
  | draw (n : Nat) (k : Nat → T α)
namespace T
variable {α β γ : Type}
def bind : T α → (α → T β) → T β
  | .ret a, f => f a
  | .fail, _ => .fail
  | .draw n k, f => .draw n fun i => (k i).bind f
/-- with b draws left: every end is as P wants, no way fails -/
def All : T α → Nat → (Nat → α → Prop) → Prop
  | .ret a, b, P => P b a
  | .fail, _, _ => False
  | .draw n k, b, P => ∃ b', b = b' + 1 ∧ ∀ i, i < n → (k i).All b' P
theorem all_bind {f : α → T β} {P : Nat → β → Prop} : ∀ {x : T α} {b : Nat}, (x.bind f).All b P ↔ x.All b (fun b' a => (f a).All b' P)
  | .ret a, b => Iff.rfl
  | .fail, b => Iff.rfl
  | .draw n k, b => by
    constructor
    · rintro ⟨b', e, h⟩; exact ⟨b', e, fun i hi => all_bind.mp (h i hi)⟩
    · rintro ⟨b', e, h⟩; exact ⟨b', e, fun i hi => all_bind.mpr (h i hi)⟩
theorem All.mono {P Q : Nat → α → Prop} : ∀ {x : T α} {b : Nat}, x.All b P → (∀ b' a, b' ≤ b → P b' a → Q b' a) → x.All b Q
  | .ret a, b, h, f => f b a (Nat.le_refl _) h
  | .fail, _, h, _ => h
  | .draw n k, b, ⟨b', e, h⟩, f => ⟨b', e, fun i hi => (h i hi).mono fun c a hc hp => f c a (by omega) hp⟩
theorem bind_assoc {f : α → T β} {g : β → T γ} : ∀ (x : T α), (x.bind f).bind g = x.bind fun a => (f a).bind g
  | .ret a => rfl
  | .fail => rfl
  | .draw n k => by
    show T.draw n _ = T.draw n _
    congr 1; funext i; exact bind_assoc (k i)
theorem bind_ret : ∀ (x : T α), x.bind .ret = x
  | .ret a => rfl
  | .fail => rfl
  | .draw n k => by show T.draw n _ = T.draw n _; congr 1; funext i; exact bind_ret (k i)
end T

/-! ### values, slots, the store -/
/-- what a slot, an expression gives: plain data; a thing of the store; the pen; the script -/
inductive Rv where
  | val (d : D)
  | res (k : Nat)
  | pen
  | scr
  | fn (j : Nat)
/-- slots, and the things that can be changed (frozen ones: true) -/
structure En where
  sl : List (Option Rv)
  st : List (D × Bool)
/-- a dict whose keys are ints and texts -/
def unm : List (D × D) → Bool
  | (.tuple _, _) :: _ => false
  | _ => true
/-- a dict whose keys are tuples, or which is empty -/
def tkm : List (D × D) → Bool
  | [] => true
  | (.tuple _, _) :: _ => true
  | _ => false
namespace En
def deref (ρ : En) : Rv → Option D
  | .val d => some d
  | .res k => (ρ.st[k]?).map fun x => x.1
  | _ => none
/-- taken into other data: it can't be changed from now on -/
def freeze (ρ : En) : Rv → Option (D × En)
  | .val d => some (d, ρ)
  | .res k => match ρ.st[k]? with
    | some (d, _) => some (d, { ρ with st := ρ.st.set k (d, true) })
    | none => none
  | _ => none
def set (ρ : En) (i : Nat) (r : Rv) : En := { ρ with sl := ρ.sl.set i (some r) }
def alloc (ρ : En) (d : D) : En := { ρ with st := ρ.st ++ [(d, false)] }
end En

/-- which def's object a number means; the program, the world -/
class Ctx where
  pf : Nat → Addr → Prop
  P : Program
  w : World
variable [Ctx]
/-- a dict whose keys are tuples: each key's ints and texts, its tuple, its value -/
abbrev TL := List (List Key × Addr × V)
abbrev TX := List (List Key × Addr × Value)
abbrev PtL : TL → TX → Prop := Paired fun p q => p.1 = q.1 ∧ p.2.1 = q.2.1 ∧ RelV p.2.2 q.2.2
def DtAt (a : Addr) (L : TL) (h : Heap) : Prop := L.length ≤ sizeLine ∧ (a == sysModules) = false ∧ ∃ xs : TX, PtL L xs ∧
  ∃ o es ep, h.get? a = some o ∧ o.ExactDict ∧ o.data = .dict es ep ∧ es.toList = xs.map (entryOfKey (tupleKind (mixKind Ctx.P Ctx.w))) ∧ (xs.map (·.1)).Nodup
def dtO (a : Addr) (L : TL) : HO := .ext (DtAt a L)
/-! ### what stands for what -/
def kD : Key → D
  | .inl i => .int i
  | .inr x => .str x
mutual
inductive Rp (K : PySem.W.Frag) (H : Hp) : V → D → Prop
  | non : Rp K H .non .none
  | bl (b : Bool) : Rp K H (.bl b) (.bool b)
  | int (i : Int) : Rp K H (.int i) (.int i)
  | str (x : Str) : Rp K H (.str x) (.str x)
  | lst {a : Addr} {xs : List V} {ds : List D} : H a = some (.lst xs) → Rps K H xs ds → Rp K H (.ref a) (.list ds)
  | tup {a : Addr} {xs : List V} {ds : List D} : SqT K H a xs → Rps K H xs ds → Rp K H (.ref a) (.tuple ds)
  | dik {a : Addr} {kvs : List (Key × V)} {es : List (D × D)} : Rd H a (.dK kvs) → Rpk K H kvs es → Rp K H (.ref a) (.dict es)
  | dit {a : Addr} {L : TL} {es : List (D × D)} : H a = some (dtO a L) → RpT K H L es → es ≠ [] → Rp K H (.ref a) (.dict es)
inductive Rps (K : PySem.W.Frag) (H : Hp) : List V → List D → Prop
  | nil : Rps K H [] []
  | cons {v : V} {vs : List V} {d : D} {ds : List D} : Rp K H v d → Rps K H vs ds → Rps K H (v :: vs) (d :: ds)
inductive Rpk (K : PySem.W.Frag) (H : Hp) : List (Key × V) → List (D × D) → Prop
  | nil : Rpk K H [] []
  | cons {k : Key} {v : V} {r : List (Key × V)} {d : D} {es : List (D × D)} : Rp K H v d → Rpk K H r es → Rpk K H ((k, v) :: r) ((kD k, d) :: es)
inductive RpT (K : PySem.W.Frag) (H : Hp) : TL → List (D × D) → Prop
  | nil : RpT K H [] []
  | cons {k : List Key} {b : Addr} {v : V} {r : TL} {d : D} {es : List (D × D)} : SqT K H b (k.map kV) → Rp K H v d → RpT K H r es → RpT K H ((k, b, v) :: r) ((.tuple (k.map kD), d) :: es)
end
section
variable {K : PySem.W.Frag} {H H' : Hp}
theorem sqT_mono (s : Same H H') {a : Addr} {xs : List V} (h : SqT K H a xs) : SqT K H' a xs := by
  rcases h with (h | ⟨o, h⟩) | h
  · exact .inl (.inl (s _ _ h))
  · exact .inl (.inr ⟨o, s _ _ h⟩)
  · exact .inr h
theorem rd_mono (s : Same H H') {a : Addr} {u : HO} (h : Rd H a u) : Rd H' a u := h.imp (s _ _) fun ⟨o, h⟩ => ⟨o, s _ _ h⟩
mutual
theorem Rp.mono (s : Same H H') : ∀ {v : V} {d : D}, Rp K H v d → Rp K H' v d
  | _, _, .non => .non
  | _, _, .bl b => .bl b
  | _, _, .int i => .int i
  | _, _, .str x => .str x
  | _, _, .lst h r => .lst (s _ _ h) (r.mono s)
  | _, _, .tup h r => .tup (sqT_mono s h) (r.mono s)
  | _, _, .dik h r => .dik (rd_mono s h) (r.mono s)
  | _, _, .dit h r n => .dit (s _ _ h) (r.mono s) n
theorem Rps.mono (s : Same H H') : ∀ {vs : List V} {ds : List D}, Rps K H vs ds → Rps K H' vs ds
  | _, _, .nil => .nil
  | _, _, .cons h r => .cons (h.mono s) (r.mono s)
theorem Rpk.mono (s : Same H H') : ∀ {vs : List (Key × V)} {ds : List (D × D)}, Rpk K H vs ds → Rpk K H' vs ds
  | _, _, .nil => .nil
  | _, _, .cons h r => .cons (h.mono s) (r.mono s)
theorem RpT.mono (s : Same H H') : ∀ {vs : TL} {ds : List (D × D)}, RpT K H vs ds → RpT K H' vs ds
  | _, _, .nil => .nil
  | _, _, .cons q h r => .cons (sqT_mono s q) (h.mono s) (r.mono s)
end
theorem RpT.length : ∀ {vs : TL} {ds : List (D × D)}, RpT K H vs ds → vs.length = ds.length
  | _, _, .nil => rfl
  | _, _, .cons _ _ r => congrArg (· + 1) r.length
theorem RpT.unm : ∀ {vs : TL} {ds : List (D × D)}, RpT K H vs ds → ds ≠ [] → unm ds = false
  | _, _, .nil, n => absurd rfl n
  | _, _, .cons _ _ _, _ => rfl
theorem RpT.tkm : ∀ {vs : TL} {ds : List (D × D)}, RpT K H vs ds → tkm ds = true
  | _, _, .nil => rfl
  | _, _, .cons _ _ _ => rfl
theorem Rpk.unm : ∀ {vs : List (Key × V)} {ds : List (D × D)}, Rpk K H vs ds → unm ds = true
  | _, _, .nil => rfl
  | _, _, .cons (k := k) _ _ => by cases k <;> rfl
theorem Rpk.tkm : ∀ {vs : List (Key × V)} {ds : List (D × D)}, Rpk K H vs ds → tkm ds = true → ds = []
  | _, _, .nil, _ => rfl
  | _, _, .cons (k := k) _ _, h => by cases k <;> cases h
theorem Rps.length : ∀ {vs : List V} {ds : List D}, Rps K H vs ds → vs.length = ds.length
  | _, _, .nil => rfl
  | _, _, .cons _ r => congrArg (· + 1) r.length
theorem Rps.append : ∀ {vs ws : List V} {ds es : List D}, Rps K H vs ds → Rps K H ws es → Rps K H (vs ++ ws) (ds ++ es)
  | _, _, _, _, .nil, s => s
  | _, _, _, _, .cons h r, s => .cons h (r.append s)
theorem Rps.take : ∀ {vs : List V} {ds : List D} (n : Nat), Rps K H vs ds → Rps K H (vs.take n) (ds.take n)
  | _, _, 0, _ => .nil
  | _, _, _ + 1, .nil => .nil
  | _, _, n + 1, .cons h r => .cons h (r.take n)
theorem Rps.drop : ∀ {vs : List V} {ds : List D} (n : Nat), Rps K H vs ds → Rps K H (vs.drop n) (ds.drop n)
  | _, _, 0, r => r
  | _, _, _ + 1, .nil => .nil
  | _, _, n + 1, .cons _ r => r.drop n
theorem Rps.get : ∀ {vs : List V} {ds : List D} {i : Nat} {d : D}, Rps K H vs ds → ds[i]? = some d → ∃ v, vs[i]? = some v ∧ Rp K H v d
  | _, _, _, _, .nil, e => by simp at e
  | _, _, 0, _, .cons h _, e => by simp at e; subst e; exact ⟨_, rfl, h⟩
  | _, _, i + 1, d, .cons _ r, e => by
    obtain ⟨v, h1, h2⟩ := Rps.get (i := i) (d := d) r (by simpa using e)
    exact ⟨v, by simpa using h1, h2⟩
theorem Rps.getV : ∀ {vs : List V} {ds : List D} {i : Nat} {v : V}, Rps K H vs ds → vs[i]? = some v → ∃ d, ds[i]? = some d ∧ Rp K H v d
  | _, _, _, _, .nil, e => by simp at e
  | _, _, 0, _, .cons h _, e => by simp at e; subst e; exact ⟨_, rfl, h⟩
  | _, _, i + 1, d, .cons _ r, e => by
    obtain ⟨v, h1, h2⟩ := Rps.getV (i := i) (v := d) r (by simpa using e)
    exact ⟨v, by simpa using h1, h2⟩
theorem Rps.set {v : V} {d : D} (h : Rp K H v d) : ∀ {vs : List V} {ds : List D} (i : Nat), Rps K H vs ds → Rps K H (vs.set i v) (ds.set i d)
  | _, _, _, .nil => .nil
  | _, _, 0, .cons _ r => .cons h r
  | _, _, i + 1, .cons q r => .cons q (r.set h i)
theorem Rps.eraseIdx : ∀ {vs : List V} {ds : List D} (i : Nat), Rps K H vs ds → Rps K H (vs.eraseIdx i) (ds.eraseIdx i)
  | _, _, _, .nil => .nil
  | _, _, 0, .cons _ r => r
  | _, _, i + 1, .cons q r => .cons q (r.eraseIdx i)
theorem Rps.reverse : ∀ {vs : List V} {ds : List D}, Rps K H vs ds → Rps K H vs.reverse ds.reverse
  | _, _, .nil => .nil
  | _, _, .cons h r => by
    rw [List.reverse_cons, List.reverse_cons]
    exact r.reverse.append (.cons h .nil)
theorem Rps.ints : ∀ {vs : List V} {ns : List Int}, Rps K H vs (ns.map .int) → vs = ns.map .int
  | _, [], .nil => rfl
  | _, n :: ns, .cons (.int _) r => by rw [r.ints]; rfl
theorem Rps.strs : ∀ {vs : List V} {ns : List Str}, Rps K H vs (ns.map .str) → vs = ns.map .str
  | _, [], .nil => rfl
  | _, n :: ns, .cons (.str _) r => by rw [r.strs]; rfl
theorem Rps.bls : ∀ {vs : List V} {ns : List Bool}, Rps K H vs (ns.map .bool) → vs = ns.map .bl
  | _, [], .nil => rfl
  | _, n :: ns, .cons (.bl _) r => by rw [r.bls]; rfl
theorem Rps.ofInts : ∀ (ns : List Int), Rps K H (ns.map .int) (ns.map .int)
  | [] => .nil
  | n :: ns => .cons (.int n) (Rps.ofInts ns)
theorem Rps.ofStrs : ∀ (ns : List Str), Rps K H (ns.map .str) (ns.map .str)
  | [] => .nil
  | n :: ns => .cons (.str n) (Rps.ofStrs ns)
theorem Rps.ofBls : ∀ (ns : List Bool), Rps K H (ns.map .bl) (ns.map .bool)
  | [] => .nil
  | n :: ns => .cons (.bl n) (Rps.ofBls ns)
end

/-- a thing that can be changed: its items are plain data -/
inductive OwnAt (K : PySem.W.Frag) (Hi H : Hp) (a : Addr) : D → Prop
  | lst {xs : List V} {ds : List D} : H a = some (.lst xs) → Rps K Hi xs ds → OwnAt K Hi H a (.list ds)
  | dik {kvs : List (Key × V)} {es : List (D × D)} : H a = some (.dK kvs) → Rpk K Hi kvs es → OwnAt K Hi H a (.dict es)
  | dkt {L : TL} {es : List (D × D)} : H a = some (dtO a L) → RpT K Hi L es → es ≠ [] → OwnAt K Hi H a (.dict es)
theorem OwnAt.has {K : PySem.W.Frag} {Hi H : Hp} {a : Addr} {d : D} (h : OwnAt K Hi H a d) : ∃ o, H a = some o := by
  cases h with
  | lst e _ => exact ⟨_, e⟩
  | dik e _ => exact ⟨_, e⟩
  | dkt e _ _ => exact ⟨_, e⟩
theorem OwnAt.mono {K : PySem.W.Frag} {Hi Hi' H H' : Hp} {a : Addr} {d : D} (h : OwnAt K Hi H a d) (s : Same Hi Hi') (e : ∀ o, H a = some o → H' a = some o) : OwnAt K Hi' H' a d := by
  cases h with
  | lst q r => exact .lst (e _ q) (r.mono s)
  | dik q r => exact .dik (e _ q) (r.mono s)
  | dkt q r n => exact .dkt (e _ q) (r.mono s) n
/-- frozen, it is data -/
theorem OwnAt.rp {K : PySem.W.Frag} {Hi Hi' H : Hp} {a : Addr} {d : D} (h : OwnAt K Hi H a d) (s : Same Hi Hi') (e : ∀ o, H a = some o → Hi' a = some o) : Rp K Hi' (.ref a) d := by
  cases h with
  | lst q r => exact .lst (e _ q) (r.mono s)
  | dik q r => exact .dik (.inl (e _ q)) (r.mono s)
  | dkt q r n => exact .dit (e _ q) (r.mono s) n

/-! ### the pen -/
abbrev kCells : Key := .inr "cells"
abbrev kAt : Key := .inr "at"
abbrev kLeft : Key := .inr "left"
/-- a pen with b draws left -/
def PenAt (b : Nat) (Hi H : Hp) (p : Addr) : Prop := ∃ (c : Addr) (ns : List Int) (k l : Int), H p = some (.dK [(kCells, .ref c), (kAt, .int k), (kLeft, .int l)]) ∧
  Hi c = some (.lst (ns.map V.int)) ∧ 0 ≤ k ∧ k + b ≤ 2 ^ 23 ∧ 0 ≤ l
theorem PenAt.mono {b b' : Nat} {Hi Hi' H H' : Hp} {p : Addr} (h : PenAt b Hi H p) (s : Same Hi Hi') (e : ∀ o, H p = some o → H' p = some o) (hb : b' ≤ b) : PenAt b' Hi' H' p := by
  obtain ⟨c, ns, k, l, h1, h2, h3, h4, h5⟩ := h
  exact ⟨c, ns, k, l, e _ h1, s _ _ h2, h3, by omega, h5⟩

/-! ### the state -/
/-- what a def was entered with: the data, the heap, the pen, the things that it may change -/
structure Ent where
  Hi : Hp
  H : Hp
  pp : Option Addr
  ins : List Addr
def RvOk (K : PySem.W.Frag) (e : Ent) (Hi : Hp) (as : List Addr) (v : V) : Rv → Prop
  | .val d => Rp K Hi v d
  | .res k => ∃ a, as[k]? = some a ∧ v = .ref a
  | .pen => ∃ p, e.pp = some p ∧ v = .ref p
  | .scr => ∃ (a : Addr) (ns : List Int), v = .ref a ∧ SqL K Hi a (ns.map V.int) ∧ ns.length ≤ 63
  | .fn j => ∃ f, Ctx.pf j f ∧ v = .ref f
def ResOk (K : PySem.W.Frag) (Hi H : Hp) (a : Addr) : D × Bool → Prop
  | (d, true) => Rp K Hi (.ref a) d ∧ ∃ o, Hi a = some o
  | (d, false) => OwnAt K Hi H a d ∧ Hi a = none
structure SO (K : PySem.W.Frag) (e : Ent) (b : Nat) (as : List Addr) (Hi : Hp) (ρ : En) (σ : L2.St) (H : Hp) : Prop where
  sub : Same Hi H
  len : ρ.sl.length = σ.length
  slt : ∀ (i : Nat) r, ρ.sl[i]? = some (some r) → ∃ v, σ[i]? = some (some v) ∧ RvOk K e Hi as v r
  alen : as.length = ρ.st.length
  res : ∀ (k : Nat) x a, ρ.st[k]? = some x → as[k]? = some a → ResOk K Hi H a x
  nd : as.Nodup
  wr : ∀ a ∈ as, e.H a = none ∨ a ∈ e.ins
  pre : e.ins <+: as
  penok : ∀ p, e.pp = some p → PenAt b Hi H p ∧ Hi p = none ∧ p ∉ as
  old : Same e.Hi Hi
  same : ∀ a o, e.H a = some o → e.pp ≠ some a → a ∉ e.ins → H a = some o
  newi : ∀ a o, Hi a = some o → e.Hi a = some o ∨ e.H a = none ∨ a ∈ e.ins
  bud : b ≤ 2 ^ 23
/-- more data, more things -/
structure Ext (Hi : Hp) (as : List Addr) (Hi' : Hp) (as' : List Addr) : Prop where
  hi : Same Hi Hi'
  as : as <+: as'
theorem Ext.refl (Hi : Hp) (as : List Addr) : Ext Hi as Hi as := ⟨Same.refl _, List.prefix_refl _⟩
theorem Ext.trans {Hi Hi1 Hi2 : Hp} {as as1 as2 : List Addr} (x : Ext Hi as Hi1 as1) (y : Ext Hi1 as1 Hi2 as2) : Ext Hi as Hi2 as2 := ⟨x.hi.trans y.hi, x.as.trans y.as⟩
section
variable {K : PySem.W.Frag} {e : Ent} {b : Nat} {as : List Addr} {Hi Hi' H H' : Hp} {ρ : En} {σ : L2.St}
theorem sqL_mono (s : Same H H') {a : Addr} {xs : List V} (h : SqL K H a xs) : SqL K H' a xs := s.seq h
theorem pre_get {as as' : List Addr} (h : as <+: as') {k : Nat} {a : Addr} (q : as[k]? = some a) : as'[k]? = some a := by
  obtain ⟨t, rfl⟩ := h
  have hk : k < as.length := (List.getElem?_eq_some_iff.mp q).1
  rw [List.getElem?_append_left hk]; exact q
theorem RvOk.mono {as' : List Addr} {v : V} {r : Rv} (h : RvOk K e Hi as v r) (x : Ext Hi as Hi' as') : RvOk K e Hi' as' v r := by
  cases r with
  | val d => exact Rp.mono x.hi h
  | res k => obtain ⟨a, q, rfl⟩ := h; exact ⟨a, pre_get x.as q, rfl⟩
  | pen => exact h
  | scr => obtain ⟨a, ns, rfl, q, l⟩ := h; exact ⟨a, ns, rfl, sqL_mono x.hi q, l⟩
  | fn j => exact h
theorem ResOk.has {a : Addr} {x : D × Bool} (h : ResOk K Hi H a x) (s : Same Hi H) (hx : x.2 = false) : ∃ o, H a = some o := by
  obtain ⟨d, f⟩ := x
  cases hx
  exact h.1.has
end

/-! ### what a step does to a state -/
/-- an operand: data, or a thing of the store as it stands -/
inductive Opd (K : PySem.W.Frag) (Hi H : Hp) : V → D → Prop
  | val {v : V} {d : D} : Rp K Hi v d → Opd K Hi H v d
  | own {a : Addr} {d : D} : OwnAt K Hi H a d → Opd K Hi H (.ref a) d
/-- the heap has grown by data -/
structure Gr (Hi H Hi' H' : Hp) : Prop where
  h : Same H H'
  i : Same Hi Hi'
  s : Same Hi' H'
  n : ∀ a o, Hi' a = some o → Hi a = some o ∨ H a = none
theorem Gr.refl {Hi H : Hp} (s : Same Hi H) : Gr Hi H Hi H := ⟨Same.refl _, Same.refl _, s, fun _ _ h => .inl h⟩
theorem Gr.trans {Hi H Hi1 H1 Hi2 H2 : Hp} (x : Gr Hi H Hi1 H1) (y : Gr Hi1 H1 Hi2 H2) : Gr Hi H Hi2 H2 :=
  ⟨x.h.trans y.h, x.i.trans y.i, y.s, fun a o q => by
    rcases y.n a o q with z | z
    · exact x.n a o z
    · exact .inr (x.h.free z)⟩
theorem Gr.new {Hi H : Hp} (s : Same Hi H) {p : Addr} {o : HO} (hp : H p = none) : Gr Hi H (upd Hi p o) (upd H p o) := by
  refine ⟨fun b x q => ?_, fun b x q => ?_, fun b x q => ?_, fun b x q => ?_⟩
  · rw [upd_ne (ne_of_none q hp)]; exact q
  · rw [upd_ne (ne_of_none q (s.free hp))]; exact q
  · by_cases hb : b = p
    · subst hb; rw [upd_same] at q ⊢; exact q
    · rw [upd_ne hb] at q ⊢; exact s _ _ q
  · by_cases hb : b = p
    · subst hb; exact .inr hp
    · rw [upd_ne hb] at q; exact .inl q
section
variable {K : PySem.W.Frag} {e : Ent} {b b' : Nat} {as : List Addr} {Hi Hi' H H' : Hp} {ρ ρ' : En} {σ σ' : L2.St}
theorem SO.opd (S : SO K e b as Hi ρ σ H) {v : V} {r : Rv} {d : D} (h : RvOk K e Hi as v r) (q : ρ.deref r = some d) : Opd K Hi H v d := by
  cases r with
  | val d' => cases q; exact .val h
  | res k =>
    obtain ⟨a, ha, rfl⟩ := h
    simp only [En.deref, Option.map_eq_some_iff] at q
    obtain ⟨x, hx, q⟩ := q
    have z := S.res k x a hx ha
    obtain ⟨d, f⟩ := x
    cases q
    cases f with
    | false => exact .own z.1
    | true => exact .val z.1
  | pen => cases q
  | scr => cases q
  | fn j => cases q
theorem SO.resThere (S : SO K e b as Hi ρ σ H) {a : Addr} (ha : a ∈ as) : ∃ o, H a = some o := by
  obtain ⟨k, hk⟩ := List.getElem?_of_mem ha
  have hk' : k < ρ.st.length := by rw [← S.alen]; exact (List.getElem?_eq_some_iff.mp hk).1
  have r := S.res k _ a (List.getElem?_eq_getElem hk') hk
  generalize ρ.st[k] = x at r
  obtain ⟨d, f⟩ := x
  cases f with
  | false => exact r.1.has
  | true => obtain ⟨o, ho⟩ := r.2; exact ⟨o, S.sub _ _ ho⟩
theorem SO.there (S : SO K e b as Hi ρ σ H) {a : Addr} {o : HO} (h : e.H a = some o) : ∃ o', H a = some o' := by
  by_cases hp : e.pp = some a
  · obtain ⟨⟨c, ns, k, l, h1, _⟩, _⟩ := S.penok a hp
    exact ⟨_, h1⟩
  · by_cases hi : a ∈ e.ins
    · exact S.resThere (S.pre.subset hi)
    · exact ⟨o, S.same a o h hp hi⟩
theorem SO.new (S : SO K e b as Hi ρ σ H) {a : Addr} (h : H a = none) : e.H a = none ∧ a ∉ as ∧ e.pp ≠ some a ∧ Hi a = none := by
  refine ⟨?_, fun z => ?_, fun z => ?_, S.sub.free h⟩
  · cases q : e.H a with
    | none => rfl
    | some o => obtain ⟨o', z⟩ := S.there q; rw [h] at z; cases z
  · obtain ⟨o, q⟩ := S.resThere z; rw [h] at q; cases q
  · obtain ⟨⟨c, ns, k, l, h1, _⟩, _⟩ := S.penok a z; rw [h] at h1; cases h1
/-- fewer draws left -/
theorem SO.less (S : SO K e b as Hi ρ σ H) (hb : b' ≤ b) : SO K e b' as Hi ρ σ H :=
  ⟨S.sub, S.len, S.slt, S.alen, S.res, S.nd, S.wr, S.pre, fun p hp => let ⟨x, y, z⟩ := S.penok p hp; ⟨x.mono (Same.refl _) (fun _ q => q) hb, y, z⟩, S.old, S.same, S.newi, Nat.le_trans hb S.bud⟩
theorem ResOk.mono {a : Addr} {x : D × Bool} (h : ResOk K Hi H a x) (s : Same Hi Hi') (k : ∀ o, H a = some o → H' a = some o) (n : Hi a = none → Hi' a = none) : ResOk K Hi' H' a x := by
  obtain ⟨d, f⟩ := x
  cases f with
  | false => exact ⟨h.1.mono s k, n h.2⟩
  | true => obtain ⟨r, o, q⟩ := h; exact ⟨r.mono s, o, s _ _ q⟩
theorem SO.grow (S : SO K e b as Hi ρ σ H) (g : Gr Hi H Hi' H') : SO K e b as Hi' ρ σ H' := by
  refine ⟨g.s, S.len, fun i r h => ?_, S.alen, fun k x a hx ha => ?_, S.nd, S.wr, S.pre, fun p hp => ?_, S.old.trans g.i, fun a o h1 h2 h3 => g.h _ _ (S.same a o h1 h2 h3), fun a o h => ?_, S.bud⟩
  · obtain ⟨v, h1, h2⟩ := S.slt i r h
    exact ⟨v, h1, h2.mono ⟨g.i, List.prefix_refl _⟩⟩
  · refine (S.res k x a hx ha).mono g.i (fun o q => g.h _ _ q) fun n => ?_
    cases q : Hi' a with
    | none => rfl
    | some o =>
      rcases g.n a o q with z | z
      · rw [n] at z; cases z
      · obtain ⟨o', z'⟩ := S.resThere (List.mem_of_getElem? ha); rw [z] at z'; cases z'
  · obtain ⟨x, y, z⟩ := S.penok p hp
    refine ⟨x.mono g.i (fun o q => g.h _ _ q) (Nat.le_refl _), ?_, z⟩
    cases q : Hi' p with
    | none => rfl
    | some o =>
      rcases g.n p o q with w | w
      · rw [y] at w; cases w
      · obtain ⟨c, ns, k, l, h1, _⟩ := x; rw [w] at h1; cases h1
  · rcases g.n a o h with z | z
    · exact S.newi a o z
    · exact .inr (.inl (S.new z).1)
/-- a new thing in the store -/
theorem SO.alloc (S : SO K e b as Hi ρ σ H) {p : Addr} {d : D} (hp : H p = none) (hs : Same H H') (own : OwnAt K Hi H' p d) : SO K e b (as ++ [p]) Hi (ρ.alloc d) σ H' := by
  obtain ⟨n1, n2, n3, n4⟩ := S.new hp
  refine ⟨S.sub.trans hs, S.len, fun i r h => ?_, ?_, fun k x a hx ha => ?_, ?_, fun a ha => ?_, S.pre.trans (List.prefix_append _ _), fun p' hp' => ?_, S.old, fun a o h1 h2 h3 => hs _ _ (S.same a o h1 h2 h3), S.newi, S.bud⟩
  · obtain ⟨v, h1, h2⟩ := S.slt i r h
    exact ⟨v, h1, h2.mono ⟨Same.refl _, List.prefix_append _ _⟩⟩
  · show (as ++ [p]).length = (ρ.st ++ [(d, false)]).length
    simp [S.alen]
  · have hx : (ρ.st ++ [(d, false)])[k]? = some x := hx
    by_cases hk : k < as.length
    · rw [List.getElem?_append_left hk] at ha
      rw [List.getElem?_append_left (by rw [← S.alen]; exact hk)] at hx
      exact (S.res k x a hx ha).mono (Same.refl _) (fun o q => hs _ _ q) fun z => z
    · rw [List.getElem?_append_right (by omega)] at ha
      rw [List.getElem?_append_right (by rw [← S.alen]; omega)] at hx
      have e1 : k - as.length = 0 := by
        have := (List.getElem?_eq_some_iff.mp ha).1
        simp at this; omega
      rw [e1] at ha
      rw [← S.alen, e1] at hx
      simp at ha hx
      subst ha; subst hx
      exact ⟨own, n4⟩
  · exact List.nodup_append.mpr ⟨S.nd, by simp, fun x hx y hy => by simp at hy; subst hy; exact fun z => n2 (z ▸ hx)⟩
  · rcases List.mem_append.mp ha with z | z
    · exact S.wr a z
    · simp at z; subst z; exact .inl n1
  · obtain ⟨x, y, z⟩ := S.penok p' hp'
    refine ⟨x.mono (Same.refl _) (fun o q => hs _ _ q) (Nat.le_refl _), y, fun w => ?_⟩
    rcases List.mem_append.mp w with w | w
    · exact z w
    · simp at w; subst w; exact n3 hp'
theorem getElem?_set_cases {α : Type} {l : List α} {k j : Nat} {x y : α} (h : (l.set k x)[j]? = some y) : (j = k ∧ y = x) ∨ (j ≠ k ∧ l[j]? = some y) := by
  by_cases e : j = k
  · subst e
    have hl : j < l.length := by
      have := (List.getElem?_eq_some_iff.mp h).1
      simpa using this
    rw [List.getElem?_set_self hl] at h
    exact .inl ⟨rfl, (Option.some.inj h).symm⟩
  · rw [List.getElem?_set_ne (fun z => e z.symm)] at h
    exact .inr ⟨e, h⟩
theorem nodup_at {as : List Addr} (nd : as.Nodup) {i j : Nat} {a : Addr} (h : as[i]? = some a) (h' : as[j]? = some a) : i = j := by
  obtain ⟨h1, e1⟩ := List.getElem?_eq_some_iff.mp h
  obtain ⟨h2, e2⟩ := List.getElem?_eq_some_iff.mp h'
  exact (List.getElem_inj nd).mp (e1.trans e2.symm)
/-- a thing of the store becomes data -/
theorem SO.freeze1 (S : SO K e b as Hi ρ σ H) {k : Nat} {a : Addr} {d : D} (hk : ρ.st[k]? = some (d, false)) (ha : as[k]? = some a) :
    ∃ Hi', Ext Hi as Hi' as ∧ SO K e b as Hi' { ρ with st := ρ.st.set k (d, true) } σ H ∧ Rp K Hi' (.ref a) d := by
  obtain ⟨own, hn⟩ := S.res k _ a hk ha
  obtain ⟨o, ho⟩ := own.has
  have hs : Same Hi (upd Hi a o) := fun c x q => by rw [upd_ne (ne_of_none q hn)]; exact q
  have rp : Rp K (upd Hi a o) (.ref a) d := own.rp hs fun o' q => by rw [ho] at q; cases q; exact upd_same
  refine ⟨upd Hi a o, ⟨hs, List.prefix_refl _⟩, ?_, rp⟩
  refine ⟨fun c x q => ?_, S.len, fun i r h => ?_, ?_, fun j x c hx hc => ?_, S.nd, S.wr, S.pre, fun p hp => ?_, S.old.trans hs, S.same, fun c x q => ?_, S.bud⟩
  · by_cases hc : c = a
    · subst hc; rw [upd_same] at q; cases q; exact ho
    · rw [upd_ne hc] at q; exact S.sub _ _ q
  · obtain ⟨v, h1, h2⟩ := S.slt i r h
    exact ⟨v, h1, h2.mono ⟨hs, List.prefix_refl _⟩⟩
  · show as.length = (ρ.st.set k (d, true)).length
    simp [S.alen]
  · rcases getElem?_set_cases hx with ⟨rfl, rfl⟩ | ⟨hj, hx⟩
    · rw [ha] at hc; cases hc
      exact ⟨rp, o, upd_same⟩
    · have hne : c ≠ a := fun z => hj (nodup_at S.nd (z ▸ hc) ha)
      exact (S.res j x c hx hc).mono hs (fun _ q => q) fun n => by rw [upd_ne hne]; exact n
  · obtain ⟨x, y, z⟩ := S.penok p hp
    have hne : p ≠ a := fun w => z (w ▸ List.mem_of_getElem? ha)
    exact ⟨x.mono hs (fun _ q => q) (Nat.le_refl _), by rw [upd_ne hne]; exact y, z⟩
  · by_cases hc : c = a
    · subst hc
      rcases S.wr c (List.mem_of_getElem? ha) with z | z
      · exact .inr (.inl z)
      · exact .inr (.inr z)
    · rw [upd_ne hc] at q; exact S.newi c x q
theorem SO.frz (S : SO K e b as Hi ρ σ H) {v : V} {r : Rv} {d : D} (h : RvOk K e Hi as v r) (q : ρ.freeze r = some (d, ρ')) :
    ∃ Hi', Ext Hi as Hi' as ∧ SO K e b as Hi' ρ' σ H ∧ Rp K Hi' v d := by
  cases r with
  | val d' => cases q; exact ⟨Hi, Ext.refl _ _, S, h⟩
  | res k =>
    obtain ⟨a, ha, rfl⟩ := h
    simp only [En.freeze] at q
    split at q
    · rename_i d' f hk
      cases q
      cases f with
      | false => exact S.freeze1 hk ha
      | true =>
        have z := S.res k _ a hk ha
        refine ⟨Hi, Ext.refl _ _, ?_, z.1⟩
        have e1 : ρ.st.set k (d, true) = ρ.st := by
          obtain ⟨h1, h2⟩ := List.getElem?_eq_some_iff.mp hk
          rw [← h2]; exact List.set_getElem_self h1
        rw [e1]; exact S
    · cases q
  | pen => cases q
  | scr => cases q
  | fn j => cases q
/-- a thing of the store changes -/
theorem SO.put (S : SO K e b as Hi ρ σ H) {k : Nat} {a : Addr} {d d' : D} {o : HO} (hk : ρ.st[k]? = some (d, false)) (ha : as[k]? = some a) (own : OwnAt K Hi (upd H a o) a d') :
    SO K e b as Hi { ρ with st := ρ.st.set k (d', false) } σ (upd H a o) := by
  obtain ⟨_, hn⟩ := S.res k _ a hk ha
  have keep : ∀ c x, c ≠ a → H c = some x → upd H a o c = some x := fun c x hc q => by rw [upd_ne hc]; exact q
  have hi : ∀ c x, Hi c = some x → c ≠ a := fun c x q => ne_of_none q hn
  refine ⟨fun c x q => keep c x (hi c x q) (S.sub _ _ q), S.len, S.slt, ?_, fun j x c hx hc => ?_, S.nd, S.wr, S.pre, fun p hp => ?_, S.old, fun c x h1 h2 h3 => ?_, S.newi, S.bud⟩
  · show as.length = (ρ.st.set k (d', false)).length
    simp [S.alen]
  · rcases getElem?_set_cases hx with ⟨rfl, rfl⟩ | ⟨hj, hx⟩
    · rw [ha] at hc; cases hc
      exact ⟨own, hn⟩
    · have hne : c ≠ a := fun z => hj (nodup_at S.nd (z ▸ hc) ha)
      exact (S.res j x c hx hc).mono (Same.refl _) (fun x q => keep c x hne q) fun n => n
  · obtain ⟨x, y, z⟩ := S.penok p hp
    have hne : p ≠ a := fun w => z (w ▸ List.mem_of_getElem? ha)
    exact ⟨x.mono (Same.refl _) (fun x q => keep p x hne q) (Nat.le_refl _), y, z⟩
  · have hne : c ≠ a := fun z => by
      subst z
      rcases S.wr c (List.mem_of_getElem? ha) with w | w
      · rw [h1] at w; cases w
      · exact h3 w
    exact keep c x hne (S.same c x h1 h2 h3)
theorem SO.slots (S : SO K e b as Hi ρ σ H) {sl : List (Option Rv)} (hl : sl.length = σ'.length) (h : ∀ (i : Nat) r, sl[i]? = some (some r) → ∃ v, σ'[i]? = some (some v) ∧ RvOk K e Hi as v r) : SO K e b as Hi { ρ with sl := sl } σ' H :=
  ⟨S.sub, hl, h, S.alen, S.res, S.nd, S.wr, S.pre, S.penok, S.old, S.same, S.newi, S.bud⟩
theorem SO.set (S : SO K e b as Hi ρ σ H) {i : Nat} {v : V} {r : Rv} (h : RvOk K e Hi as v r) : SO K e b as Hi (ρ.set i r) (σ.set i (some v)) H := by
  refine S.slots (by simp [S.len]) fun j r' hj => ?_
  rcases getElem?_set_cases hj with ⟨rfl, hr⟩ | ⟨hne, hj⟩
  · cases hr
    have hl : j < σ.length := by
      have := (List.getElem?_eq_some_iff.mp hj).1
      rw [List.length_set, S.len] at this; exact this
    exact ⟨v, List.getElem?_set_self hl, h⟩
  · obtain ⟨w, h1, h2⟩ := S.slt j r' hj
    exact ⟨w, by rw [List.getElem?_set_ne (fun z => hne z.symm)]; exact h1, h2⟩
end
end Wk

set_option maxHeartbeats 4000000
/-! Wk2t: () * n is (). -/
namespace Wk
open PySem PySem.Spec PyProof.Rows L2
theorem empty_mul {l : Addr} {o : Obj} {n : Nat} {x : Int} {u : Tok} (hx : -(2 ^ 63) ≤ x ∧ x < 2 ^ 63) :
    Meets (Builtin.«tuple.__mul__» ⟨[.ref l, .int x u], []⟩) (fun _ R s => (s.heap.get? l = some o ∧ o.cls = .type "tuple" ∧ o.data = .seq #[] n) ∧ R (.ok (.ret (Value.ref l))) s) :=
  .of_wp fun prog w A R s h => by
    obtain ⟨cls, dict, data, slots⟩ := o
    obtain ⟨hp, g, d, tk, os⟩ := s
    obtain ⟨⟨hl, hc, hd⟩, h⟩ := h
    simp only at hc hd
    subst hc hd
    have big : (decide (x < -(2 ^ 63)) || decide (x ≥ 2 ^ 63)) = false := by
      rw [decide_eq_false (by omega), decide_eq_false (by omega)] <;> rfl
    have f1 := AutoSeq1.idx_int
    wp_walk using wpAny_loadPart' hl
    refine wpAny_ite_false (decide_eq_false fun z => by rw [big] at z; cases z) ?_
    wp_walk using wpAny_loadPart' hl
    exact ⟨_, rfl, h⟩
section
variable {X : Cx}
/-- an empty tuple times a number is itself -/
theorem op_rep0 : OpR X (binaryOp .Mult) (fun x y H Q => ∃ l k, x = .ref l ∧ y = .int k ∧ SqT X.K H l [] ∧ (-(2 ^ 63) ≤ k ∧ k < 2 ^ 63) ∧ Q (.ref l) H) := by
  rintro pins s σ H x y v u Q I rx ry ⟨l, k, rfl, rfl, hT, hk, q⟩
  cases rx
  obtain ⟨t, rfl⟩ := ry
  obtain ⟨its, r, ⟨⟨cls, dd, data, sl⟩, ho, hc, n, hd⟩, hs⟩ := I.tuple hT
  simp only at hc hd
  cases r
  subst hc hd
  have isT : s.TypeIs (.ref l) "tuple" := ⟨_, ho, rfl⟩
  have again := call_meets F.slot_tuple_mul isT F.entry_tuple_mul (F.args_tuple_mul_2 _ _) (empty_mul (l := l) (u := t) hk) (E := X.xe) (prog := X.prog) (w := X.w) (A := X.A) (Q := EP X pins σ Q) ⟨⟨ho, rfl, rfl⟩, .ref l, H, I, rfl, q⟩
  have first := call_meets F.slot_int_rmul (typeIs_int s k t) F.entry_int_rmul (F.args_int_rmul_2 _ _) (int_rmul_tuple k t l #[] n dd sl) (E := X.xe) (prog := X.prog) (w := X.w) (A := X.A)
    (Q := fun v s' => v = .notImplemented ∧ s'.TypeIs (.ref l) "tuple" ∧ wpAny (model X.prog X.w) X.A (call (.builtin "tuple.__mul__") [.ref l, .int k t]) (EP X pins σ Q) X.xe s') ⟨ho, rfl, isT, again⟩
  exact wpAny_binaryOp_repeat_ref (T := "tuple") (U := "int") (by decide) isT (fun s' => typeIs_int s' k t) noFill_tuple_mul F.fills_int_mul F.slot_int_rmul
    repeat_tuple F.slot_int_index.lookup first
end
end Wk

/-! Wk2: what the operators and the built-ins do, over plain data. -/
namespace Wk
open PySem PySem.Spec PyProof.Rows L2
variable [Ctx]

/-- an answer: data; a new thing that can be changed; none -/
inductive OV where
  | v (d : D)
  | f (d : D)
  | no
def OPost (K : PySem.W.Frag) (Hi H : Hp) (Q : VK) : OV → Prop
  | .v d => ∀ v Hi' H', Gr Hi H Hi' H' → Rp K Hi' v d → Q v H'
  | .f d => ∀ a o Hi' H1, Gr Hi H Hi' H1 → H1 a = none → OwnAt K Hi' (upd H1 a o) a d → Q (.ref a) (upd H1 a o)
  | .no => False
section
variable {K : PySem.W.Frag} {Hi H : Hp} {Q : VK}
theorem OPost.leaf {d : D} {v : V} (q : OPost K Hi H Q (.v d)) (s : Same Hi H) (r : Rp K Hi v d) : Q v H := q v Hi H (Gr.refl s) r
theorem OPost.newT {ds : List D} {xs : List V} {p : Addr} (q : OPost K Hi H Q (.v (.tuple ds))) (s : Same Hi H) (hp : H p = none) (r : Rps K Hi xs ds) : Q (.ref p) (upd H p (.tup xs)) :=
  q _ _ _ (Gr.new s hp) (.tup (.inl (.inl upd_same)) (r.mono (Gr.new (o := .tup xs) s hp).i))
theorem OPost.newL {ds : List D} {xs : List V} {p : Addr} (q : OPost K Hi H Q (.f (.list ds))) (s : Same Hi H) (hp : H p = none) (r : Rps K Hi xs ds) : Q (.ref p) (upd H p (.lst xs)) :=
  q _ _ _ _ (Gr.refl s) hp (.lst upd_same r)
theorem OPost.no {A : Prop} (q : OPost K Hi H Q .no) : A := False.elim q
variable {x : V}
theorem Opd.none_ (h : Opd K Hi H x .none) : x = .non := by cases h with | val r => cases r; rfl | own r => cases r
theorem Opd.bool_ {b : Bool} (h : Opd K Hi H x (.bool b)) : x = .bl b := by cases h with | val r => cases r; rfl | own r => cases r
theorem Opd.int_ {i : Int} (h : Opd K Hi H x (.int i)) : x = .int i := by cases h with | val r => cases r; rfl | own r => cases r
theorem Opd.str_ {i : Str} (h : Opd K Hi H x (.str i)) : x = .str i := by cases h with | val r => cases r; rfl | own r => cases r
theorem Opd.list_ {ds : List D} (s : Same Hi H) (h : Opd K Hi H x (.list ds)) : ∃ a xs, x = .ref a ∧ H a = some (.lst xs) ∧ Rps K Hi xs ds := by
  cases h with
  | val r => cases r with | lst q r => exact ⟨_, _, rfl, s _ _ q, r⟩
  | own r => cases r with | lst q r => exact ⟨_, _, rfl, q, r⟩
theorem Opd.tuple_ {ds : List D} (s : Same Hi H) (h : Opd K Hi H x (.tuple ds)) : ∃ a xs, x = .ref a ∧ SqT K H a xs ∧ Rps K Hi xs ds ∧ Rp K Hi x (.tuple ds) := by
  cases h with
  | val r => cases r with | tup q r => exact ⟨_, _, rfl, sqT_mono s q, r, .tup q r⟩
  | own r => cases r
theorem Opd.dict_ {es : List (D × D)} (s : Same Hi H) (c : unm es = true) (h : Opd K Hi H x (.dict es)) : ∃ a kvs, x = .ref a ∧ Rd H a (.dK kvs) ∧ Rpk K Hi kvs es := by
  cases h with
  | val r => cases r with
    | dik q r => exact ⟨_, _, rfl, rd_mono s q, r⟩
    | dit q r n => rw [r.unm n] at c; cases c
  | own r => cases r with
    | dik q r => exact ⟨_, _, rfl, .inl q, r⟩
    | dkt q r n => rw [r.unm n] at c; cases c
/-- a dict whose keys are tuples, or which is empty -/
theorem Opd.dictT_ {es : List (D × D)} (s : Same Hi H) (c : tkm es = true) (h : Opd K Hi H x (.dict es)) : ∃ a, x = .ref a ∧ ((es = [] ∧ Rd H a (.dK [])) ∨ ∃ L, H a = some (dtO a L) ∧ RpT K Hi L es ∧ es ≠ []) := by
  cases h with
  | val r => cases r with
    | dik q r =>
      have e := r.tkm c
      subst e
      cases r
      exact ⟨_, rfl, .inl ⟨rfl, rd_mono s q⟩⟩
    | dit q r n => exact ⟨_, rfl, .inr ⟨_, s _ _ q, r, n⟩⟩
  | own r => cases r with
    | dik q r =>
      have e := r.tkm c
      subst e
      cases r
      exact ⟨_, rfl, .inl ⟨rfl, .inl q⟩⟩
    | dkt q r n => exact ⟨_, rfl, .inr ⟨_, q, r, n⟩⟩
theorem dgetR {H : Hp} {a : Addr} {kvs : List (Key × V)} {k : Key} (e : Rd H a (.dK kvs)) : DGet H a (kV k) (valV kvs k) := .inl ⟨kvs, k, e, rfl, rfl⟩
/-- in the whole heap -/
theorem Opd.full {d : D} (s : Same Hi H) (h : Opd K Hi H x d) : Rp K H x d := by
  cases h with
  | val r => exact r.mono s
  | own r => cases r with
    | lst q r => exact .lst q (r.mono s)
    | dik q r => exact .dik (.inl q) (r.mono s)
    | dkt q r n => exact .dit q (r.mono s) n
mutual
theorem Rp.dp : ∀ {v : V} {d : D}, Rp K H v d → d.canLay0 = true → Dp K H v d
  | _, _, .non, _ => .non
  | _, _, .bl b, _ => .bl b
  | _, _, .int i, _ => .int i
  | _, _, .str x, _ => .str x
  | _, _, .lst h r, c => .lst (SqL.of h) (r.dp (by simpa [PyData.canLay0] using c))
  | _, _, .tup h r, c => .tup h (r.dp (by simpa [PyData.canLay0] using c))
  | _, _, .dik _ _, c => absurd c (by simp [PyData.canLay0])
  | _, _, .dit _ _ _, c => absurd c (by simp [PyData.canLay0])
theorem Rps.dp : ∀ {vs : List V} {ds : List D}, Rps K H vs ds → PyData.canLayAll0 ds = true → DpAll K H vs ds
  | _, _, .nil, _ => .nil
  | _ :: _, d :: ds, .cons h r, c => by
    have c' : PyData.canLay0 d = true ∧ PyData.canLayAll0 ds = true := by simpa [PyData.canLayAll0] using c
    exact .cons (h.dp c'.1) (r.dp c'.2)
end
end

/-! ### two operands -/
def R2D (K : PySem.W.Frag) (Hi : Hp) (f : D → D → OV) : R2 := fun x y H Q => Same Hi H ∧ ∃ dx dy, Opd K Hi H x dx ∧ Opd K Hi H y dy ∧ OPost K Hi H Q (f dx dy)
def Op2 (X : Cx) (g : Value → Value → Sem Value) (f : D → D → OV) : Prop := ∀ Hi, OpR X g (R2D X.K Hi f)
section
variable {X : Cx}
def oAdd : D → D → OV
  | .int i, .int j => .v (.int (i + j))
  | .int i, .bool k => .v (.int (i + b2i k))
  | .str i, .str j => if i.length + j.length ≤ sizeLine then .v (.str (i ++ j)) else .no
  | .list xs, .list ys => if xs.length + ys.length ≤ sizeLine then .f (.list (xs ++ ys)) else .no
  | .tuple xs, .tuple ys => if xs.length + ys.length ≤ sizeLine then .v (.tuple (xs ++ ys)) else .no
  | _, _ => .no
theorem op2_add : Op2 X (binaryOp .Add) oAdd := by
  intro Hi pins s σ H x y v u Q I rx ry ⟨sub, dx, dy, ox, oy, q⟩
  cases dx <;> cases dy <;> first | exact OPost.no q | skip
  · cases ox.int_; cases oy.bool_
    exact op_add_ib pins s σ H _ _ v u Q I rx ry ⟨_, _, rfl, rfl, q.leaf sub (.int _)⟩
  · cases ox.int_; cases oy.int_
    exact op_add pins s σ H _ _ v u Q I rx ry ⟨_, _, rfl, rfl, q.leaf sub (.int _)⟩
  · cases ox.str_; cases oy.str_
    rename_i i j
    by_cases hz : i.length + j.length ≤ sizeLine
    · simp only [oAdd, if_pos hz] at q
      exact op_add_str pins s σ H _ _ v u Q I rx ry ⟨_, _, rfl, rfl, hz, q.leaf sub (.str _)⟩
    · simp only [oAdd, if_neg hz] at q; exact OPost.no q
  · obtain ⟨a, xs, rfl, hx, rs⟩ := ox.list_ sub
    obtain ⟨c, ys, rfl, hy, rt⟩ := oy.list_ sub
    rename_i ds es
    by_cases hz : ds.length + es.length ≤ sizeLine
    · simp only [oAdd, if_pos hz] at q
      refine op_cat pins s σ H _ _ v u Q I rx ry ⟨a, c, xs, ys, rfl, rfl, hx, hy, by rw [rs.length, rt.length]; exact hz, fun p hp => q.newL sub hp (rs.append rt)⟩
    · simp only [oAdd, if_neg hz] at q; exact OPost.no q
  · obtain ⟨a, xs, rfl, hx, rs, r1⟩ := ox.tuple_ sub
    obtain ⟨c, ys, rfl, hy, rt, r2⟩ := oy.tuple_ sub
    rename_i ds es
    by_cases hz : ds.length + es.length ≤ sizeLine
    · simp only [oAdd, if_pos hz] at q
      refine op_catA pins s σ H _ _ v u Q I rx ry ⟨a, c, xs, ys, rfl, rfl, hx, hy, by rw [rs.length, rt.length]; exact hz, fun e => ?_, fun _ e => ?_, fun _ _ p hp => q.newT sub hp (rs.append rt)⟩
      · subst e
        cases rs
        exact q.leaf sub r2
      · subst e
        cases rt
        rw [List.append_nil] at q
        exact q.leaf sub r1
    · simp only [oAdd, if_neg hz] at q; exact OPost.no q
def oSub : D → D → OV
  | .int i, .int j => .v (.int (i - j))
  | _, _ => .no
theorem op2_sub : Op2 X (binaryOp .Sub) oSub := by
  intro Hi pins s σ H x y v u Q I rx ry ⟨sub, dx, dy, ox, oy, q⟩
  cases dx <;> cases dy <;> first | exact OPost.no q | skip
  cases ox.int_; cases oy.int_
  exact op_sub pins s σ H _ _ v u Q I rx ry ⟨_, _, rfl, rfl, q.leaf sub (.int _)⟩
def small64 (i : Int) : Bool := decide (-(2 ^ 64) < i) && decide (i < 2 ^ 64)
theorem small64_of {i : Int} (h : small64 i = true) : -(2 ^ 64) < i ∧ i < 2 ^ 64 := by
  unfold small64 at h
  rw [Bool.and_eq_true] at h
  exact ⟨of_decide_eq_true h.1, of_decide_eq_true h.2⟩
def oMul : D → D → OV
  | .int i, .int j => if small64 i || small64 j then .v (.int (i * j)) else .no
  | .str x, .int n => if decide (x.length ≤ 1000) && decide (0 ≤ n) && decide (n ≤ 1000) then .v (.str (Txt.mul x n)) else .no
  | .list xs, .int n => if decide (0 ≤ n) && decide (n ≤ 1000) && decide (xs.length ≤ 1000) then .f (.list (List.replicate n.toNat xs).flatten) else .no
  | .tuple xs, .int n => if decide (2 ≤ n) && decide (n ≤ 1000) && decide (xs.length ≤ 1000) && !xs.isEmpty then .v (.tuple (List.replicate n.toNat xs).flatten) else if xs.isEmpty && (decide (0 ≤ n) && decide (n ≤ 1000)) then .v (.tuple xs) else .no
  | _, _ => .no
theorem Rps.rep {K : PySem.W.Frag} {H : Hp} {vs : List V} {ds : List D} (h : Rps K H vs ds) : ∀ n : Nat, Rps K H (List.replicate n vs).flatten (List.replicate n ds).flatten
  | 0 => .nil
  | n + 1 => by
    rw [List.replicate_succ, List.replicate_succ, List.flatten_cons, List.flatten_cons]
    exact h.append (h.rep n)
theorem op2_mul : Op2 X (binaryOp .Mult) oMul := by
  intro Hi pins s σ H x y v u Q I rx ry ⟨sub, dx, dy, ox, oy, q⟩
  cases dx <;> cases dy <;> first | exact OPost.no q | skip
  · cases ox.int_; cases oy.int_
    rename_i i j
    by_cases h : (small64 i || small64 j) = true
    · simp only [oMul, if_pos h] at q
      refine op_mul pins s σ H _ _ v u Q I rx ry ⟨_, _, rfl, rfl, ?_, q.leaf sub (.int _)⟩
      rw [Bool.or_eq_true] at h
      rcases h with h | h
      · exact .inl (small64_of h)
      · exact .inr (small64_of h)
    · simp only [oMul, if_neg h] at q; exact OPost.no q
  · cases ox.str_; cases oy.int_
    rename_i i n
    by_cases h : (decide (i.length ≤ 1000) && decide (0 ≤ n) && decide (n ≤ 1000)) = true
    · simp only [oMul, if_pos h] at q
      simp only [Bool.and_eq_true, decide_eq_true_eq] at h
      obtain ⟨t, rfl⟩ := rx
      obtain ⟨t', rfl⟩ := ry
      refine PySem.SB.mul (mulOk_of 1000 1000 h.1.1 (by omega) (by omega) (by decide) (by decide)) fun t'' k => ?_
      exact ⟨.str _, H, I.tok _, ⟨_, rfl⟩, q.leaf sub (.str _)⟩
    · simp only [oMul, if_neg h] at q; exact OPost.no q
  · obtain ⟨a, xs, rfl, hx, rs⟩ := ox.list_ sub
    cases oy.int_
    rename_i ds n
    by_cases h : (decide (0 ≤ n) && decide (n ≤ 1000) && decide (ds.length ≤ 1000)) = true
    · simp only [oMul, if_pos h] at q
      simp only [Bool.and_eq_true, decide_eq_true_eq] at h
      refine op_rep pins s σ H _ _ v u Q I rx ry ⟨a, n, xs, rfl, rfl, hx, by omega, by omega, ?_, fun p hp => q.newL sub hp (rs.rep _)⟩
      rw [rs.length]
      exact Nat.le_trans (Nat.mul_le_mul h.2 (show n.toNat ≤ 1000 by omega)) (by rw [sizeLine_eq]; decide)
    · simp only [oMul, if_neg h] at q; exact OPost.no q
  · obtain ⟨a, xs, rfl, hx, rs, r1⟩ := ox.tuple_ sub
    cases oy.int_
    rename_i ds n
    by_cases h : (decide (2 ≤ n) && decide (n ≤ 1000) && decide (ds.length ≤ 1000) && !ds.isEmpty) = true
    · simp only [oMul, if_pos h] at q
      simp only [Bool.and_eq_true, decide_eq_true_eq] at h
      refine op_repT pins s σ H _ _ v u Q I rx ry ⟨a, n, xs, rfl, rfl, hx, fun e => ?_, h.1.1.1, h.1.1.2, by rw [rs.length]; exact h.1.2, fun p hp => q.newT sub hp (rs.rep _)⟩
      subst e
      cases rs
      exact absurd h.2 (by decide)
    · simp only [oMul, if_neg h] at q
      split at q
      · rename_i h0
        simp only [Bool.and_eq_true, decide_eq_true_eq, List.isEmpty_iff] at h0
        obtain ⟨rfl, h1, h2⟩ := h0
        cases rs
        exact op_rep0 pins s σ H _ _ v u Q I rx ry ⟨a, n, rfl, rfl, hx, ⟨by omega, by omega⟩, q.leaf sub r1⟩
      · exact OPost.no q
def oDiv : D → D → OV
  | .int i, .int j => if decide (j ≠ 0) && decide (j.natAbs < 1073741824) then .v (.int (i.fdiv j)) else .no
  | _, _ => .no
theorem op2_div : Op2 X (binaryOp .FloorDiv) oDiv := by
  intro Hi pins s σ H x y v u Q I rx ry ⟨sub, dx, dy, ox, oy, q⟩
  cases dx <;> cases dy <;> first | exact OPost.no q | skip
  cases ox.int_; cases oy.int_
  rename_i i j
  by_cases h : (decide (j ≠ 0) && decide (j.natAbs < 1073741824)) = true
  · simp only [oDiv, if_pos h] at q
    simp only [Bool.and_eq_true, decide_eq_true_eq] at h
    exact op_fdivN pins s σ H _ _ v u Q I rx ry ⟨_, _, rfl, rfl, h, q.leaf sub (.int _)⟩
  · simp only [oDiv, if_neg h] at q; exact OPost.no q
def oMod : D → D → OV
  | .int i, .int j => if decide (j ≠ 0) then .v (.int (i.fmod j)) else .no
  | _, _ => .no
theorem op2_mod : Op2 X (binaryOp .Mod) oMod := by
  intro Hi pins s σ H x y v u Q I rx ry ⟨sub, dx, dy, ox, oy, q⟩
  cases dx <;> cases dy <;> first | exact OPost.no q | skip
  cases ox.int_; cases oy.int_
  rename_i i j
  by_cases h : decide (j ≠ 0) = true
  · simp only [oMod, if_pos h] at q
    exact op_modN pins s σ H _ _ v u Q I rx ry ⟨_, _, rfl, rfl, of_decide_eq_true h, q.leaf sub (.int _)⟩
  · simp only [oMod, if_neg h] at q; exact OPost.no q
def oPow : D → D → OV
  | .int i, .int j => if decide (0 ≤ j) && decide (j ≤ 1000000) && decide (i.natAbs < 2 ^ 64) then .v (.int (i ^ j.toNat)) else .no
  | _, _ => .no
theorem op2_pow : Op2 X (binaryOp .Pow) oPow := by
  intro Hi pins s σ H x y v u Q I rx ry ⟨sub, dx, dy, ox, oy, q⟩
  cases dx <;> cases dy <;> first | exact OPost.no q | skip
  cases ox.int_; cases oy.int_
  rename_i i j
  by_cases h : (decide (0 ≤ j) && decide (j ≤ 1000000) && decide (i.natAbs < 2 ^ 64)) = true
  · simp only [oPow, if_pos h] at q
    simp only [Bool.and_eq_true, decide_eq_true_eq] at h
    exact op_pow pins s σ H _ _ v u Q I rx ry ⟨_, _, rfl, rfl, ⟨h.1.1, h.1.2, h.2⟩, q.leaf sub (.int _)⟩
  · simp only [oPow, if_neg h] at q; exact OPost.no q

/-! ### comparisons -/
def scD : D → D → Bool
  | .none, .none => true | .none, .int _ => true | .int _, .none => true | .none, .bool _ => true | .bool _, .none => true | .none, .str _ => true | .str _, .none => true
  | .int _, .int _ => true | .bool _, .bool _ => true | .str _, .str _ => true
  | .int _, .str _ => true | .str _, .int _ => true | .bool _, .str _ => true | .str _, .bool _ => true
  | _, _ => false
def eqOk (a b : D) : Bool := scD a b || (SeqAt.shaped a && SeqAt.shaped b)
/-- the same kind of sequence, the right one empty: whether the left one is -/
def emptyEq : D → D → Option Bool
  | .list xs, .list [] => some xs.isEmpty
  | .tuple xs, .tuple [] => some xs.isEmpty
  | _, _ => none
theorem eq_empty (hu : X.A.units + 64 < cLine) {pins : List (Addr × Obj)} {s : Shared} {σ : L2.St} {Hi H : Hp} {x y : V} {v u : Value} {a b : D} {r : Bool} {Q : Value → Shared → Prop} (I : Inv X pins σ H s) (rx : RelV x v) (ry : RelV y u) (sub : Same Hi H)
    (ha : Opd X.K Hi H x a) (hb : Opd X.K Hi H y b) (h : emptyEq a b = some r) :
    (Q (.bool r) s → wpAny (model X.prog X.w) X.A (compareOp .Eq v u) Q X.xe s) ∧ (Q (.bool !r) s → wpAny (model X.prog X.w) X.A (compareOp .NotEq v u) Q X.xe s) := by
  have hu' : X.A.units < cLine := by omega
  match a, b, h with
  | .list xs, .list [], h =>
    cases h
    obtain ⟨l, vs, rfl, hx, rs⟩ := ha.list_ sub
    obtain ⟨m, ws, rfl, hy, rt⟩ := hb.list_ sub
    cases rt
    cases rx; cases ry
    obtain ⟨its, rv, hl, _⟩ := I.list (SqL.of hx)
    obtain ⟨its2, rv2, hl2, _⟩ := I.list (SqL.of hy)
    cases rv2
    cases rs with
    | nil =>
      cases rv
      exact ⟨fun q => SeqAt.RcAt.lists (e := fun _ => true) hl.isList hl2.isList rfl hu' (fun j j1 => absurd j1 (by simp)) _ _ _ _ q, fun q => SeqAt.RcNeAt.lists (e := fun _ => true) hl.isList hl2.isList rfl hu' (fun j j1 => absurd j1 (by simp)) _ _ _ _ q⟩
    | cons _ _ =>
      cases rv
      exact ⟨fun q => SeqAt.RcAt.lists_lengths hl.isList hl2.isList (by simp) hu' _ _ _ _ q, fun q => SeqAt.RcNeAt.lists_lengths hl.isList hl2.isList (by simp) hu' _ _ _ _ q⟩
  | .tuple xs, .tuple [], h =>
    cases h
    obtain ⟨l, vs, rfl, hx, rs, _⟩ := ha.tuple_ sub
    obtain ⟨m, ws, rfl, hy, rt, _⟩ := hb.tuple_ sub
    cases rt
    cases rx; cases ry
    obtain ⟨its, rv, ⟨o, k1, k2, n, k3⟩, _⟩ := I.tuple hx
    obtain ⟨its2, rv2, ⟨o2, m1, m2, n2, m3⟩, _⟩ := I.tuple hy
    cases rv2
    have t1 : s.heap.IsTuple l its.toArray := ⟨o, k1, k2, n, k3⟩
    have t2 : s.heap.IsTuple m #[] := ⟨o2, m1, m2, n2, m3⟩
    have e1 := SeqAt.RcAt.tuples (e := fun _ => true) t1 t2 hu' (fun j j1 j2 => absurd j2 (by simp)) X.prog X.w X.xe Q
    have e2 := SeqAt.RcNeAt.tuples (e := fun _ => true) t1 t2 hu' (fun j j1 j2 => absurd j2 (by simp)) X.prog X.w X.xe Q
    cases rs with
    | nil => cases rv; exact ⟨fun q => e1 (by simpa using q), fun q => e2 (by simpa using q)⟩
    | cons _ _ => cases rv; exact ⟨fun q => e1 (by simpa using q), fun q => e2 (by simpa using q)⟩
def cEq (a b : D) : OV := if eqOk a b then .v (.bool (PyData.eqv a b)) else match emptyEq a b with
  | some r => .v (.bool r)
  | none => .no
def cNe (a b : D) : OV := if eqOk a b then .v (.bool (!PyData.eqv a b)) else match emptyEq a b with
  | some r => .v (.bool (!r))
  | none => .no
theorem sc_eq {K : PySem.W.Frag} {Hi H : Hp} {x y : V} {a b : D} (ha : Opd K Hi H x a) (hb : Opd K Hi H y b) (h : scD a b = true) : scal x y = true ∧ decide (x = y) = PyData.eqv a b := by
  cases a <;> cases b <;> first | exact absurd (show false = true from h) Bool.false_ne_true | skip
  all_goals first
    | (cases ha.none_; cases hb.none_; exact ⟨rfl, by decide⟩)
    | (cases ha.none_; cases hb.bool_; exact ⟨rfl, by simp [PyData.eqv]⟩)
    | (cases ha.none_; cases hb.int_; exact ⟨rfl, by simp [PyData.eqv]⟩)
    | (cases ha.none_; cases hb.str_; exact ⟨rfl, by simp [PyData.eqv]⟩)
    | (cases ha.bool_; cases hb.none_; exact ⟨rfl, by simp [PyData.eqv]⟩)
    | (cases ha.int_; cases hb.none_; exact ⟨rfl, by simp [PyData.eqv]⟩)
    | (cases ha.str_; cases hb.none_; exact ⟨rfl, by simp [PyData.eqv]⟩)
    | (cases ha.int_; cases hb.int_; exact ⟨rfl, by rw [dec_int]; simp [PyData.eqv]⟩)
    | (cases ha.bool_; cases hb.bool_; exact ⟨rfl, by rw [dec_bl]; simp [PyData.eqv]⟩)
    | (cases ha.str_; cases hb.str_; exact ⟨rfl, by rw [dec_str]; simp [PyData.eqv]⟩)
    | (cases ha.int_; cases hb.str_; exact ⟨rfl, by simp [PyData.eqv]⟩)
    | (cases ha.str_; cases hb.int_; exact ⟨rfl, by simp [PyData.eqv]⟩)
    | (cases ha.bool_; cases hb.str_; exact ⟨rfl, by simp [PyData.eqv]⟩)
    | (cases ha.str_; cases hb.bool_; exact ⟨rfl, by simp [PyData.eqv]⟩)
theorem op2_eq (hu : X.A.units + 64 < cLine) : Op2 X (compareOp .Eq) cEq := by
  intro Hi pins s σ H x y v u Q I rx ry ⟨sub, dx, dy, ox, oy, q⟩
  by_cases h : eqOk dx dy = true
  · simp only [cEq, if_pos h] at q
    unfold eqOk at h
    rw [Bool.or_eq_true] at h
    rcases h with h | h
    · obtain ⟨h1, h2⟩ := sc_eq ox oy h
      refine op_eq pins s σ H x y v u Q I rx ry ⟨h1, ?_⟩
      rw [h2]
      exact q.leaf sub (.bl _)
    · rw [Bool.and_eq_true] at h
      exact op_eqD hu pins s σ H x y v u Q I rx ry ⟨dx, dy, (ox.full sub).dp (SeqAt.canLay_of_shaped h.1), (oy.full sub).dp (SeqAt.canLay_of_shaped h.2), h.1, h.2, q.leaf sub (.bl _)⟩
  · simp only [cEq, if_neg h] at q
    split at q
    · rename_i r hr
      exact (eq_empty hu I rx ry sub ox oy hr).1 ⟨.bl _, H, I, rfl, q.leaf sub (.bl _)⟩
    · exact OPost.no q
theorem op2_ne (hu : X.A.units + 64 < cLine) : Op2 X (compareOp .NotEq) cNe := by
  intro Hi pins s σ H x y v u Q I rx ry ⟨sub, dx, dy, ox, oy, q⟩
  by_cases h : eqOk dx dy = true
  · simp only [cNe, if_pos h] at q
    unfold eqOk at h
    rw [Bool.or_eq_true] at h
    rcases h with h | h
    · obtain ⟨h1, h2⟩ := sc_eq ox oy h
      refine op_ne pins s σ H x y v u Q I rx ry ⟨h1, ?_⟩
      rw [h2]
      exact q.leaf sub (.bl _)
    · rw [Bool.and_eq_true] at h
      exact op_neD hu pins s σ H x y v u Q I rx ry ⟨dx, dy, (ox.full sub).dp (SeqAt.canLay_of_shaped h.1), (oy.full sub).dp (SeqAt.canLay_of_shaped h.2), h.1, h.2, q.leaf sub (.bl _)⟩
  · simp only [cNe, if_neg h] at q
    split at q
    · rename_i r hr
      exact (eq_empty hu I rx ry sub ox oy hr).2 ⟨.bl _, H, I, rfl, q.leaf sub (.bl _)⟩
    · exact OPost.no q
def cLt : D → D → OV
  | .int i, .int j => .v (.bool (decide (i < j)))
  | .str i, .str j => .v (.bool (decide (i.cps.toList < j.cps.toList)))
  | _, _ => .no
def cLe : D → D → OV
  | .int i, .int j => .v (.bool (decide (i ≤ j)))
  | _, _ => .no
def cGt : D → D → OV
  | .int i, .int j => .v (.bool (decide (j < i)))
  | _, _ => .no
def cGe : D → D → OV
  | .int i, .int j => .v (.bool (decide (j ≤ i)))
  | _, _ => .no
theorem op2_lt : Op2 X (compareOp .Lt) cLt := by
  intro Hi pins s σ H x y v u Q I rx ry ⟨sub, dx, dy, ox, oy, q⟩
  cases dx <;> cases dy <;> first | exact OPost.no q | skip
  · cases ox.int_; cases oy.int_
    exact op_lt pins s σ H _ _ v u Q I rx ry ⟨_, _, rfl, rfl, q.leaf sub (.bl _)⟩
  · cases ox.str_; cases oy.str_
    exact op_lt_str pins s σ H _ _ v u Q I rx ry ⟨_, _, rfl, rfl, q.leaf sub (.bl _)⟩
theorem op2_le : Op2 X (compareOp .LtE) cLe := by
  intro Hi pins s σ H x y v u Q I rx ry ⟨sub, dx, dy, ox, oy, q⟩
  cases dx <;> cases dy <;> first | exact OPost.no q | skip
  cases ox.int_; cases oy.int_
  exact op_le pins s σ H _ _ v u Q I rx ry ⟨_, _, rfl, rfl, q.leaf sub (.bl _)⟩
theorem op2_gt : Op2 X (compareOp .Gt) cGt := by
  intro Hi pins s σ H x y v u Q I rx ry ⟨sub, dx, dy, ox, oy, q⟩
  cases dx <;> cases dy <;> first | exact OPost.no q | skip
  cases ox.int_; cases oy.int_
  exact op_gt pins s σ H _ _ v u Q I rx ry ⟨_, _, rfl, rfl, q.leaf sub (.bl _)⟩
theorem op2_ge : Op2 X (compareOp .GtE) cGe := by
  intro Hi pins s σ H x y v u Q I rx ry ⟨sub, dx, dy, ox, oy, q⟩
  cases dx <;> cases dy <;> first | exact OPost.no q | skip
  cases ox.int_; cases oy.int_
  exact op_ge pins s σ H _ _ v u Q I rx ry ⟨_, _, rfl, rfl, q.leaf sub (.bl _)⟩
def strIn (i j : Str) : Bool := !(Builtin.Str.occurrences j i 0 j.length 1).isEmpty
omit [Ctx] in
theorem strIn_one (c : Nat) (z : Str) : strIn ⟨#[c]⟩ z = decide (c ∈ z.cps.toList) := PySem.StrLaws.found_one z c
def flatD : D → Bool
  | .none => true | .bool _ => true | .int _ => true | .str _ => true
  | _ => false
/-- the value under a key -/
def dGet (k : D) : List (D × D) → Option D
  | [] => none
  | (a, d) :: r => if PyData.eqv a k then some d else dGet k r
def keyOf : D → Option Key
  | .int i => some (.inl i)
  | .str x => some (.inr x)
  | _ => none
theorem keyOf_eq {d : D} {k : Key} (h : keyOf d = some k) : d = kD k := by
  cases d <;> cases h <;> rfl
def keysOf : List D → Option (List Key)
  | [] => some []
  | d :: ds => match keyOf d, keysOf ds with
    | some k, some ks => some (k :: ks)
    | _, _ => none
theorem keysOf_eq : ∀ {ds : List D} {ks : List Key}, keysOf ds = some ks → ds = ks.map kD
  | [], _, h => by cases h; rfl
  | d :: ds, _, h => by
    simp only [keysOf] at h
    split at h
    · rename_i k ks h1 h2
      cases h
      rw [keyOf_eq h1, keysOf_eq h2]; rfl
    · cases h
/-- the program, the world are those of the surroundings -/
structure Hx (X : Cx) : Prop where
  p : X.prog = Ctx.P
  w : X.w = Ctx.w
def inD (a : D) (ds : List D) : Bool := ds.any fun y => PyData.eqv y a
def inOk (a : D) (ds : List D) : Bool := (flatD a && ds.all flatD) || (SeqAt.shaped a && SeqAt.shaped (.list ds))
def cIn : D → D → OV
  | .str i, .str j => .v (.bool (strIn i j))
  | a, .list ds => if inOk a ds then .v (.bool (inD a ds)) else .no
  | a, .tuple ds => if inOk a ds then .v (.bool (inD a ds)) else .no
  | .str k, .dict es => if unm es then .v (.bool (dGet (.str k) es).isSome) else .no
  | .int k, .dict es => if unm es then .v (.bool (dGet (.int k) es).isSome) else .no
  | .tuple ks, .dict es => if tkm es && (keysOf ks).isSome then .v (.bool (dGet (.tuple ks) es).isSome) else .no
  | _, _ => .no
theorem flat_of {K : PySem.W.Frag} {Hi H : Hp} {x : V} {a : D} (ha : Opd K Hi H x a) (h : flatD a = true) : flatV x = true := by
  cases a <;> first | exact absurd (show false = true from h) Bool.false_ne_true | skip
  · cases ha.none_; rfl
  · cases ha.bool_; rfl
  · cases ha.int_; rfl
  · cases ha.str_; rfl
theorem eqV_of {K : PySem.W.Frag} {Hi H : Hp} {x y : V} {a b : D} (ha : Opd K Hi H x a) (hb : Opd K Hi H y b) (fa : flatD a = true) (fb : flatD b = true) : eqV x y = PyData.eqv a b := by
  cases a <;> first | exact absurd (show false = true from fa) Bool.false_ne_true | skip
  all_goals (cases b <;> first | exact absurd (show false = true from fb) Bool.false_ne_true | skip)
  all_goals first | cases ha.none_ | cases ha.bool_ | cases ha.int_ | cases ha.str_
  all_goals first | cases hb.none_ | cases hb.bool_ | cases hb.int_ | cases hb.str_
  all_goals simp [eqV, PyData.eqv]
theorem flats_of {K : PySem.W.Frag} {Hi H : Hp} : ∀ {xs : List V} {ds : List D}, Rps K Hi xs ds → ds.all flatD = true → xs.all flatV = true
  | _, _, .nil, _ => rfl
  | _, _, .cons h r, f => by
    rw [List.all_cons, Bool.and_eq_true] at f ⊢
    exact ⟨flat_of (H := H) (.val h) f.1, flats_of (H := H) r f.2⟩
theorem inV_of {K : PySem.W.Frag} {Hi H : Hp} {x : V} {a : D} (ha : Opd K Hi H x a) (fa : flatD a = true) : ∀ {xs : List V} {ds : List D}, Rps K Hi xs ds → ds.all flatD = true → inV x xs = inD a ds
  | _, _, .nil, _ => rfl
  | _, _, .cons h r, f => by
    rw [List.all_cons, Bool.and_eq_true] at f
    have ih := inV_of ha fa r f.2
    unfold inV inD at ih ⊢
    rw [List.any_cons, List.any_cons, ih, eqV_of (.val h) ha f.1 fa]
/-! #### what a dict holds -/
theorem key_eqv (k k' : Key) : PyData.eqv (kD k) (kD k') = decide (k = k') := by
  cases k with
  | inl i => cases k' with
    | inl j => rw [Bool.eq_iff_iff]; simp [kD, PyData.eqv]
    | inr y => simp [kD, PyData.eqv]
  | inr x => cases k' with
    | inl j => simp [kD, PyData.eqv]
    | inr y => rw [Bool.eq_iff_iff]; simp [kD, PyData.eqv]
theorem dGet_of {K : PySem.W.Frag} {Hi : Hp} (k : Key) : ∀ {kvs : List (Key × V)} {es : List (D × D)}, Rpk K Hi kvs es → (valV kvs k = none ∧ dGet (kD k) es = none) ∨ ∃ v d, valV kvs k = some v ∧ dGet (kD k) es = some d ∧ Rp K Hi v d
  | _, _, .nil => .inl ⟨rfl, rfl⟩
  | (k', v) :: r, (_, d) :: es, .cons h t => by
    by_cases e : k' = k
    · subst e
      exact .inr ⟨v, d, valV_pos rfl, by simp [dGet, key_eqv], h⟩
    · rw [valV_neg (show ¬ (k', v).1 = k from e)]
      have e2 : dGet (kD k) ((kD k', d) :: es) = dGet (kD k) es := by simp [dGet, key_eqv, e]
      rw [e2]
      exact dGet_of k t
theorem keys_eqvAll : ∀ k k' : List Key, PyData.eqvAll (k.map kD) (k'.map kD) = decide (k = k')
  | [], [] => by simp [PyData.eqvAll]
  | [], _ :: _ => by simp [PyData.eqvAll]
  | _ :: _, [] => by simp [PyData.eqvAll]
  | a :: k, b :: k' => by
    rw [List.map_cons, List.map_cons, PyData.eqvAll, key_eqv, keys_eqvAll k k', Bool.eq_iff_iff]
    simp
theorem keys_eqv (k k' : List Key) : PyData.eqv (.tuple (k.map kD)) (.tuple (k'.map kD)) = decide (k = k') := by
  rw [PyData.eqv, keys_eqvAll]
theorem rps_keys {K : PySem.W.Frag} {H : Hp} : ∀ {k : List Key} {xs : List V}, Rps K H xs (k.map kD) → xs = k.map kV
  | [], _, .nil => rfl
  | .inl i :: k, _, .cons h r => by
    have h : Rp K H _ (.int i) := h
    cases h
    rw [rps_keys r]; rfl
  | .inr i :: k, _, .cons h r => by
    have h : Rp K H _ (.str i) := h
    cases h
    rw [rps_keys r]; rfl
theorem Rps.keys {K : PySem.W.Frag} {H : Hp} : ∀ k : List Key, Rps K H (k.map kV) (k.map kD)
  | [] => .nil
  | .inl i :: k => .cons (.int i) (Rps.keys k)
  | .inr i :: k => .cons (.str i) (Rps.keys k)
def valT (L : TL) (k : List Key) : Option V := (L.find? fun x => decide (x.1 = k)).map (·.2.2)
theorem dGetT_of {K : PySem.W.Frag} {Hi : Hp} (k : List Key) : ∀ {L : TL} {es : List (D × D)}, RpT K Hi L es → (valT L k = none ∧ dGet (.tuple (k.map kD)) es = none) ∨ ∃ v d, valT L k = some v ∧ dGet (.tuple (k.map kD)) es = some d ∧ Rp K Hi v d
  | _, _, .nil => .inl ⟨rfl, rfl⟩
  | (k', b, v) :: r, (_, d) :: es, .cons _ h t => by
    by_cases e : k' = k
    · subst e
      exact .inr ⟨v, d, by simp [valT], by simp only [dGet, keys_eqv]; simp, h⟩
    · have e1 : valT ((k', b, v) :: r) k = valT r k := by simp [valT, List.find?_cons, e]
      have e2 : dGet (.tuple (k.map kD)) ((.tuple (k'.map kD), d) :: es) = dGet (.tuple (k.map kD)) es := by simp only [dGet, keys_eqv]; simp [e]
      rw [e1, e2]
      exact dGetT_of k t
theorem pt_val {L : TL} {xs : TX} (r : PtL L xs) (k : List Key) : RelO (valT L k) ((atKey xs k).map (·.2)) := by
  induction r with
  | nil => exact True.intro
  | @cons p q ps qs h t ih =>
    by_cases e : p.1 = k
    · have e2 : q.1 = k := h.1.symm.trans e
      have e3 : valT (p :: ps) k = some p.2.2 := by simp [valT, List.find?_cons, e]
      have e4 : (atKey (q :: qs) k).map (·.2) = some q.2.2 := by simp [atKey, List.find?_cons, e2]
      rw [e3, e4]; exact h.2.2
    · have e2 : ¬ q.1 = k := fun z => e (h.1.trans z)
      have e3 : valT (p :: ps) k = valT ps k := by simp [valT, List.find?_cons, e]
      have e4 : (atKey (q :: qs) k) = atKey qs k := by simp [atKey, List.find?_cons, e2]
      rw [e3, e4]; exact ih
theorem tk_of {X : Cx} {pins : List (Addr × Obj)} {σ : L2.St} {H : Hp} {s : Shared} {b : Addr} {k : List Key} (I : Inv X pins σ H s) (h : SqT X.K H b (k.map kV)) : IsTupleKey (mixKind X.prog X.w) s.heap k b := by
  obtain ⟨its, r, ⟨o, ho, hc, n, hd⟩, _⟩ := I.tuple h
  exact ⟨o, its.toArray, n, ho, hc, hd, by simpa using items_are r⟩
theorem dt_all {P : Program} {w : World} {K : PySem.W.Frag} {Hi H : Hp} {h : Heap} (sub : Same Hi H) (tk : ∀ b k, SqT K H b (k.map kV) → IsTupleKey (mixKind P w) h k b) : ∀ {L : TL} {xs : TX} {es : List (D × D)}, PtL L xs → RpT K Hi L es → ∀ x ∈ xs, (tupleKind (mixKind P w)).is h x.1 x.2.1
  | _, _, _, .nil, _ => fun x hx => (by cases hx)
  | _, _, _, .cons (a := p) (b := q) e t, .cons sq _ r => fun x hx => by
    rcases List.mem_cons.mp hx with rfl | hx
    · have := tk _ _ (sqT_mono sub sq)
      rw [← e.1, ← e.2.1]; exact this
    · exact dt_all sub tk t r x hx
theorem DtAt.facts {P : Program} {w : World} {a : Addr} {L : TL} {h : Heap} (hP : P = Ctx.P) (hw : w = Ctx.w) (d : DtAt a L h) : L.length ≤ sizeLine ∧ (a == sysModules) = false ∧ ∃ xs : TX, PtL L xs ∧
    ((∀ x ∈ xs, (tupleKind (mixKind P w)).is h x.1 x.2.1) → h.DictOfH (tupleKind (mixKind P w)) a xs) := by
  subst hP; subst hw
  obtain ⟨z, y, xs, r, o, es, ep, h1, h2, h3, h4, h5⟩ := d
  exact ⟨z, y, xs, r, fun all => ⟨o, es, ep, h1, h2, h3, h4, all, h5⟩⟩
theorem DtAt.mk {P : Program} {w : World} {a : Addr} {L : TL} {h : Heap} (hP : P = Ctx.P) (hw : w = Ctx.w) (z : L.length ≤ sizeLine) (y : (a == sysModules) = false) {xs : TX} (r : PtL L xs) (d : h.DictOfH (tupleKind (mixKind P w)) a xs) : DtAt a L h := by
  subst hP; subst hw
  obtain ⟨o, es, ep, h1, h2, h3, h4, _, h5⟩ := d
  exact ⟨z, y, xs, r, o, es, ep, h1, h2, h3, h4, h5⟩
theorem dtO_ok {P : Program} {w : World} {H : Hp} {a : Addr} {L : TL} {h : Heap} (d : DtAt a L h) : ObjOk P w H h a (dtO a L) := by
  have d0 := d
  obtain ⟨z, y, xs, r, o, es, ep, h1, h2⟩ := d
  refine ⟨d0, ⟨o, h1⟩, fun g1 g2 p k => ?_⟩
  obtain ⟨z, y, xs, r, o, es, ep, h1, h2⟩ := p
  exact ⟨z, y, xs, r, o, es, ep, k o h1, h2⟩
/-- a dict with tuple keys, or empty, in the heap -/
theorem dt_in {X : Cx} {pins : List (Addr × Obj)} {σ : L2.St} {Hi H : Hp} {s : Shared} {x : V} {es : List (D × D)} (hx : Hx X) (I : Inv X pins σ H s) (sub : Same Hi H) (c : tkm es = true) (o : Opd X.K Hi H x (.dict es)) :
    ∃ a L xs, x = .ref a ∧ RpT X.K Hi L es ∧ PtL L xs ∧ s.heap.DictOfH (tupleKind (mixKind X.prog X.w)) a xs ∧ (a == sysModules) = false ∧ L.length ≤ sizeLine := by
  obtain ⟨a, rfl, h⟩ := o.dictT_ sub c
  rcases h with ⟨rfl, h⟩ | ⟨L, h, r, _⟩
  · obtain ⟨z, y, vs, kv, od, es2, ep2, ho2, ex2, hd2, _, pr, _⟩ := dk_rd I.hok h
    cases kv
    cases pr0 : es2.toList with
    | nil => exact ⟨a, [], [], rfl, .nil, .nil, ⟨od, es2, ep2, ho2, ex2, hd2, by rw [pr0]; rfl, (fun x hx => nomatch hx), List.nodup_nil⟩, y, Nat.zero_le _⟩
    | cons e r => rw [pr0] at pr; cases pr
  · obtain ⟨z, y, xs, pt, d⟩ := DtAt.facts hx.p hx.w (show ObjOk X.prog X.w H s.heap a (dtO a L) from I.hok a _ h).1
    exact ⟨a, L, xs, rfl, r, pt, d (dt_all sub (fun b k q => tk_of I q) pt r), y, z⟩
/-- a tuple key -/
theorem tkey_in {X : Cx} {pins : List (Addr × Obj)} {σ : L2.St} {Hi H : Hp} {s : Shared} {x : V} {ks : List D} {k : List Key} (I : Inv X pins σ H s) (sub : Same Hi H) (o : Opd X.K Hi H x (.tuple ks)) (hk : keysOf ks = some k) :
    ∃ b, x = .ref b ∧ SqT X.K Hi b (k.map kV) ∧ IsTupleKey (mixKind X.prog X.w) s.heap k b := by
  have e := keysOf_eq hk
  subst e
  cases o with
  | val r => cases r with
    | tup q r =>
      have e := rps_keys r
      subst e
      exact ⟨_, rfl, q, tk_of I (sqT_mono sub q)⟩
  | own r => cases r
theorem key_opd {K : PySem.W.Frag} {Hi H : Hp} {x : V} {d : D} (h : Opd K Hi H x d) (k : Key) (e : d = kD k) : x = kV k := by
  cases k with
  | inl i => subst e; exact h.int_
  | inr z => subst e; exact h.str_
theorem op2_in (hx : Hx X) (hu : X.A.units + 65 < cLine) : Op2 X (compareOp .In) cIn := by
  intro Hi pins s σ H x y v u Q I rx ry ⟨sub, dx, dy, ox, oy, q⟩
  have lst : ∀ {a : D} {ds : List D}, Opd X.K Hi H x a → Opd X.K Hi H y (.list ds) → OPost X.K Hi H Q (if inOk a ds then .v (.bool (inD a ds)) else .no) → wpAny (model X.prog X.w) X.A (compareOp .In v u) (EP X pins σ Q) X.xe s := fun {a ds} ha hb q => by
    by_cases h : inOk a ds = true
    · rw [if_pos h] at q
      unfold inOk at h
      rw [Bool.or_eq_true] at h
      rcases h with h | h
      · rw [Bool.and_eq_true] at h
        obtain ⟨c, ys, rfl, hy, rt⟩ := hb.list_ sub
        refine op_in_seq pins s σ H _ _ v u Q I rx ry ⟨c, ys, rfl, .inl (SqL.of hy), flat_of ha h.1, flats_of (H := H) rt h.2, ?_⟩
        rw [inV_of ha h.1 rt h.2]
        exact q.leaf sub (.bl _)
      · rw [Bool.and_eq_true] at h
        exact op_inD hu pins s σ H _ _ v u Q I rx ry ⟨a, ds, (ha.full sub).dp (SeqAt.canLay_of_shaped h.1), (hb.full sub).dp (SeqAt.canLay_of_shaped h.2), h.1, h.2, q.leaf sub (.bl _)⟩
    · rw [if_neg h] at q; exact OPost.no q
  have tup : ∀ {a : D} {ds : List D}, Opd X.K Hi H x a → Opd X.K Hi H y (.tuple ds) → OPost X.K Hi H Q (if inOk a ds then .v (.bool (inD a ds)) else .no) → wpAny (model X.prog X.w) X.A (compareOp .In v u) (EP X pins σ Q) X.xe s := fun {a ds} ha hb q => by
    by_cases h : inOk a ds = true
    · rw [if_pos h] at q
      unfold inOk at h
      rw [Bool.or_eq_true] at h
      rcases h with h | h
      · rw [Bool.and_eq_true] at h
        obtain ⟨c, ys, rfl, hy, rt, _⟩ := hb.tuple_ sub
        refine op_in_seq pins s σ H _ _ v u Q I rx ry ⟨c, ys, rfl, .inr hy, flat_of ha h.1, flats_of (H := H) rt h.2, ?_⟩
        rw [inV_of ha h.1 rt h.2]
        exact q.leaf sub (.bl _)
      · rw [Bool.and_eq_true] at h
        have ct : (PyData.tuple ds).canLay0 = true := by
          have := SeqAt.canLay_of_shaped h.2
          simpa [PyData.canLay0] using this
        obtain ⟨as, r1⟩ := Dp.reads I a x v ((ha.full sub).dp (SeqAt.canLay_of_shaped h.1)) rx
        obtain ⟨bs, r2⟩ := Dp.reads I (.tuple ds) y u ((hb.full sub).dp ct) ry
        exact SeqAt.in_tuple_reads r2 r1 (SeqAt.canLay_of_shaped h.2) (SeqAt.canLay_of_shaped h.1) (room_in_shaped h.1 hu) ⟨.bl _, H, I, rfl, q.leaf sub (.bl _)⟩
    · rw [if_neg h] at q; exact OPost.no q
  have dic : ∀ {a : D} {es : List (D × D)} (k : Key), a = kD k → Opd X.K Hi H x a → Opd X.K Hi H y (.dict es) → OPost X.K Hi H Q (if unm es then .v (.bool (dGet a es).isSome) else .no) → wpAny (model X.prog X.w) X.A (compareOp .In v u) (EP X pins σ Q) X.xe s := fun {a es} k ek ha hb q => by
    by_cases hm : unm es = true
    case neg => rw [if_neg hm] at q; exact OPost.no q
    rw [if_pos hm] at q
    obtain ⟨c, kvs, rfl, hy, rt⟩ := hb.dict_ sub hm
    have ex := key_opd ha k ek
    subst ex
    obtain rfl : u = Value.ref c := ry
    refine d_in (by omega) I (dgetR hy) rx fun s' I' => ⟨.bl (valV kvs k).isSome, H, I', rfl, ?_⟩
    rw [ek] at q
    rcases dGet_of (K := X.K) (Hi := Hi) k rt with ⟨h1, h2⟩ | ⟨w, d, h1, h2, _⟩
    · rw [h1]; rw [h2] at q; exact q.leaf sub (.bl _)
    · rw [h1]; rw [h2] at q; exact q.leaf sub (.bl _)
  have dicT : ∀ {ks : List D} {es : List (D × D)}, Opd X.K Hi H x (.tuple ks) → Opd X.K Hi H y (.dict es) → OPost X.K Hi H Q (if tkm es && (keysOf ks).isSome then .v (.bool (dGet (.tuple ks) es).isSome) else .no) → wpAny (model X.prog X.w) X.A (compareOp .In v u) (EP X pins σ Q) X.xe s := fun {ks es} ha hb q => by
    by_cases hm : (tkm es && (keysOf ks).isSome) = true
    case neg => rw [if_neg hm] at q; exact OPost.no q
    rw [if_pos hm] at q
    rw [Bool.and_eq_true] at hm
    obtain ⟨k, hk⟩ := Option.isSome_iff_exists.mp hm.2
    obtain ⟨c, L, xs, rfl, rt, pt, dd, hs, _⟩ := dt_in hx I sub hm.1 hb
    obtain ⟨b, rfl, _, tk⟩ := tkey_in I sub ha hk
    cases rx; cases ry
    refine wpAny_in_heap (tupleKind_room_in1 (by omega)) tk hs dd ⟨.bl (atKey xs k).isSome, H, I.tok _, rfl, ?_⟩
    have e := (pt_val pt k).isSome_eq
    rw [Option.isSome_map] at e
    rw [keysOf_eq hk] at q
    rcases dGetT_of k rt with ⟨h1, h2⟩ | ⟨w, d, h1, h2, _⟩
    · rw [← e, h1]; rw [h2] at q; exact q.leaf sub (.bl _)
    · rw [← e, h1]; rw [h2] at q; exact q.leaf sub (.bl _)
  cases dy with
  | list ds => cases dx <;> exact lst ox oy q
  | tuple ds => cases dx <;> exact tup ox oy q
  | dict es => cases dx with
    | str k => exact dic (.inr k) rfl ox oy q
    | int k => exact dic (.inl k) rfl ox oy q
    | tuple ks => exact dicT ox oy q
    | _ => exact OPost.no q
  | str j => cases dx with
    | str i =>
      cases ox.str_; cases oy.str_
      exact op_in_str pins s σ H _ _ v u Q I rx ry ⟨_, _, rfl, rfl, q.leaf sub (.bl _)⟩
    | _ => exact OPost.no q
  | _ => cases dx <;> exact OPost.no q
def notV : OV → OV
  | .v (.bool b) => .v (.bool (!b))
  | _ => .no
def cNotIn (a b : D) : OV := notV (cIn a b)
theorem op2_notIn (hx : Hx X) (hu : X.A.units + 65 < cLine) : Op2 X (compareOp .NotIn) cNotIn := by
  intro Hi pins s σ H x y v u Q I rx ry ⟨sub, dx, dy, ox, oy, q⟩
  have lst : ∀ {a : D} {ds : List D}, Opd X.K Hi H x a → Opd X.K Hi H y (.list ds) → OPost X.K Hi H Q (notV (if inOk a ds then .v (.bool (inD a ds)) else .no)) → wpAny (model X.prog X.w) X.A (compareOp .NotIn v u) (EP X pins σ Q) X.xe s := fun {a ds} ha hb q => by
    by_cases h : inOk a ds = true
    · rw [if_pos h] at q
      unfold inOk at h
      rw [Bool.or_eq_true] at h
      rcases h with h | h
      · rw [Bool.and_eq_true] at h
        obtain ⟨c, ys, rfl, hy, rt⟩ := hb.list_ sub
        refine op_notIn_seq pins s σ H _ _ v u Q I rx ry ⟨c, ys, rfl, .inl (SqL.of hy), flat_of ha h.1, flats_of (H := H) rt h.2, ?_⟩
        rw [inV_of ha h.1 rt h.2]
        exact q.leaf sub (.bl _)
      · rw [Bool.and_eq_true] at h
        exact op_notInD hu pins s σ H _ _ v u Q I rx ry ⟨a, ds, (ha.full sub).dp (SeqAt.canLay_of_shaped h.1), (hb.full sub).dp (SeqAt.canLay_of_shaped h.2), h.1, h.2, q.leaf sub (.bl _)⟩
    · rw [if_neg h] at q; exact OPost.no q
  have tup : ∀ {a : D} {ds : List D}, Opd X.K Hi H x a → Opd X.K Hi H y (.tuple ds) → OPost X.K Hi H Q (notV (if inOk a ds then .v (.bool (inD a ds)) else .no)) → wpAny (model X.prog X.w) X.A (compareOp .NotIn v u) (EP X pins σ Q) X.xe s := fun {a ds} ha hb q => by
    by_cases h : inOk a ds = true
    · rw [if_pos h] at q
      unfold inOk at h
      rw [Bool.or_eq_true] at h
      rcases h with h | h
      · rw [Bool.and_eq_true] at h
        obtain ⟨c, ys, rfl, hy, rt, _⟩ := hb.tuple_ sub
        refine op_notIn_seq pins s σ H _ _ v u Q I rx ry ⟨c, ys, rfl, .inr hy, flat_of ha h.1, flats_of (H := H) rt h.2, ?_⟩
        rw [inV_of ha h.1 rt h.2]
        exact q.leaf sub (.bl _)
      · rw [Bool.and_eq_true] at h
        have ct : (PyData.tuple ds).canLay0 = true := by
          have := SeqAt.canLay_of_shaped h.2
          simpa [PyData.canLay0] using this
        obtain ⟨as, r1⟩ := Dp.reads I a x v ((ha.full sub).dp (SeqAt.canLay_of_shaped h.1)) rx
        obtain ⟨bs, r2⟩ := Dp.reads I (.tuple ds) y u ((hb.full sub).dp ct) ry
        exact SeqAt.notIn_tuple_reads r2 r1 (SeqAt.canLay_of_shaped h.2) (SeqAt.canLay_of_shaped h.1) (room_in_shaped h.1 hu) ⟨.bl _, H, I, rfl, q.leaf sub (.bl _)⟩
    · rw [if_neg h] at q; exact OPost.no q
  have dic : ∀ {a : D} {es : List (D × D)} (k : Key), a = kD k → Opd X.K Hi H x a → Opd X.K Hi H y (.dict es) → OPost X.K Hi H Q (notV (if unm es then .v (.bool (dGet a es).isSome) else .no)) → wpAny (model X.prog X.w) X.A (compareOp .NotIn v u) (EP X pins σ Q) X.xe s := fun {a es} k ek ha hb q => by
    by_cases hm : unm es = true
    case neg => rw [if_neg hm] at q; exact OPost.no q
    rw [if_pos hm] at q
    obtain ⟨c, kvs, rfl, hy, rt⟩ := hb.dict_ sub hm
    have ex := key_opd ha k ek
    subst ex
    obtain rfl : u = Value.ref c := ry
    refine d_notIn (by omega) I (dgetR hy) rx fun s' I' => ⟨.bl (!(valV kvs k).isSome), H, I', rfl, ?_⟩
    rw [ek] at q
    rcases dGet_of (K := X.K) (Hi := Hi) k rt with ⟨h1, h2⟩ | ⟨w, d, h1, h2, _⟩
    · rw [h1]; rw [h2] at q; exact q.leaf sub (.bl _)
    · rw [h1]; rw [h2] at q; exact q.leaf sub (.bl _)
  have dicT : ∀ {ks : List D} {es : List (D × D)}, Opd X.K Hi H x (.tuple ks) → Opd X.K Hi H y (.dict es) → OPost X.K Hi H Q (notV (if tkm es && (keysOf ks).isSome then .v (.bool (dGet (.tuple ks) es).isSome) else .no)) → wpAny (model X.prog X.w) X.A (compareOp .NotIn v u) (EP X pins σ Q) X.xe s := fun {ks es} ha hb q => by
    by_cases hm : (tkm es && (keysOf ks).isSome) = true
    case neg => rw [if_neg hm] at q; exact OPost.no q
    rw [if_pos hm] at q
    rw [Bool.and_eq_true] at hm
    obtain ⟨k, hk⟩ := Option.isSome_iff_exists.mp hm.2
    obtain ⟨c, L, xs, rfl, rt, pt, dd, hs, _⟩ := dt_in hx I sub hm.1 hb
    obtain ⟨b, rfl, _, tk⟩ := tkey_in I sub ha hk
    cases rx; cases ry
    refine wpAny_notIn_heap (tupleKind_room_in1 (by omega)) tk hs dd ⟨.bl (!(atKey xs k).isSome), H, I.tok _, rfl, ?_⟩
    have e := (pt_val pt k).isSome_eq
    rw [Option.isSome_map] at e
    rw [keysOf_eq hk] at q
    rcases dGetT_of k rt with ⟨h1, h2⟩ | ⟨w, d, h1, h2, _⟩
    · rw [← e, h1]; rw [h2] at q; exact q.leaf sub (.bl _)
    · rw [← e, h1]; rw [h2] at q; exact q.leaf sub (.bl _)
  cases dy with
  | list ds => cases dx <;> exact lst ox oy q
  | tuple ds => cases dx <;> exact tup ox oy q
  | dict es => cases dx with
    | str k => exact dic (.inr k) rfl ox oy q
    | int k => exact dic (.inl k) rfl ox oy q
    | tuple ks => exact dicT ox oy q
    | _ => exact OPost.no q
  | str j => cases dx with
    | str i =>
      cases ox.str_; cases oy.str_
      exact op_notIn_str pins s σ H _ _ v u Q I rx ry ⟨_, _, rfl, rfl, q.leaf sub (.bl _)⟩
    | _ => exact OPost.no q
  | _ => cases dx <;> exact OPost.no q
def cIs : D → D → OV
  | .bool a, .bool b => .v (.bool (decide (a = b)))
  | a, .none => .v (.bool (match a with | .none => true | _ => false))
  | _, _ => .no
def cIsNot : D → D → OV
  | .bool a, .bool b => .v (.bool (!decide (a = b)))
  | a, .none => .v (.bool (match a with | .none => false | _ => true))
  | _, _ => .no
theorem isNone_of {K : PySem.W.Frag} {Hi H : Hp} {x : V} {a : D} (h : Opd K Hi H x a) : decide (x = .non) = (match a with | .none => true | _ => false) := by
  cases h with
  | val r => cases r <;> simp
  | own r => cases r <;> simp
theorem op2_is : Op2 X (compareOp .Is) cIs := by
  intro Hi pins s σ H x y v u Q I rx ry ⟨sub, dx, dy, ox, oy, q⟩
  cases dy with
  | none =>
    cases oy.none_
    refine op_isN pins s σ H x _ v u Q I rx ry ⟨rfl, ?_⟩
    rw [isNone_of ox]
    cases dx <;> exact q.leaf sub (.bl _)
  | bool b => cases dx with
    | bool a =>
      cases ox.bool_; cases oy.bool_
      exact op_isBl pins s σ H _ _ v u Q I rx ry ⟨_, _, rfl, rfl, q.leaf sub (.bl _)⟩
    | _ => exact OPost.no q
  | _ => cases dx <;> exact OPost.no q
theorem op2_isNot : Op2 X (compareOp .IsNot) cIsNot := by
  intro Hi pins s σ H x y v u Q I rx ry ⟨sub, dx, dy, ox, oy, q⟩
  cases dy with
  | none =>
    cases oy.none_
    refine op_notN pins s σ H x _ v u Q I rx ry ⟨rfl, ?_⟩
    rw [isNone_of ox]
    cases dx <;> exact q.leaf sub (.bl _)
  | bool b => cases dx with
    | bool a =>
      cases ox.bool_; cases oy.bool_
      exact op_notBl pins s σ H _ _ v u Q I rx ry ⟨_, _, rfl, rfl, q.leaf sub (.bl _)⟩
    | _ => exact OPost.no q
  | _ => cases dx <;> exact OPost.no q

/-! ### places and slices -/
def Ix2 (X : Cx) (f : D → D → OV) : Prop := ∀ Hi, IxR X (R2D X.K Hi f)
def oIdx : D → D → OV
  | .list ds, .int i => match atI ds i with
    | some d => .v d
    | none => .no
  | .tuple ds, .int i => match atI ds i with
    | some d => .v d
    | none => .no
  | .str z, .int i => if z.length ≤ sizeLine then (match atI z.cps.toList i with
    | some c => .v (.str ⟨#[c]⟩)
    | none => .no) else .no
  | .dict es, .str k => if unm es then (match dGet (.str k) es with
    | some d => .v d
    | none => .no) else .no
  | .dict es, .int k => if unm es then (match dGet (.int k) es with
    | some d => .v d
    | none => .no) else .no
  | .dict es, .tuple ks => if tkm es && (keysOf ks).isSome then (match dGet (.tuple ks) es with
    | some d => .v d
    | none => .no) else .no
  | _, _ => .no
theorem atI_rps {K : PySem.W.Frag} {Hi : Hp} {xs : List V} {ds : List D} {i : Int} {d : D} (r : Rps K Hi xs ds) (h : atI ds i = some d) : ∃ v, atI xs i = some v ∧ Rp K Hi v d := by
  unfold atI at h ⊢
  rw [r.length]
  cases e : ixN ds.length i with
  | none => rw [e] at h; cases h
  | some j =>
    rw [e] at h
    exact r.get h
theorem ix2 (hx : Hx X) (hu : X.A.units + 1 < cLine) : Ix2 X oIdx := by
  intro Hi value slice pins s σ H x y v u Q I rx ry ⟨sub, dx, dy, ox, oy, q⟩ hs
  have dic : ∀ {a : D} {es : List (D × D)} (k : Key), a = kD k → Opd X.K Hi H x (.dict es) → Opd X.K Hi H y a → OPost X.K Hi H Q (if unm es then (match dGet a es with | some d => .v d | none => .no) else .no) → wpAny (model X.prog X.w) X.A (subscriptTail value slice v u) (EP X pins σ Q) X.xe s := fun {a es} k ek hb ha q => by
    by_cases hm : unm es = true
    case neg => rw [if_neg hm] at q; exact OPost.no q
    rw [if_pos hm] at q
    obtain ⟨c, kvs, rfl, hy, rt⟩ := hb.dict_ sub hm
    have ex := key_opd ha k ek
    subst ex
    obtain rfl : v = Value.ref c := rx
    subst ek
    rcases dGet_of (K := X.K) (Hi := Hi) k rt with ⟨h1, h2⟩ | ⟨w, d, h1, h2, r⟩
    · rw [h2] at q; exact OPost.no q
    · rw [h2] at q
      have g : DGet H c (kV k) (some w) := by rw [← h1]; exact dgetR hy
      exact tail_any (dict_typeIs I g) PySem.F.slot_dict_getitem.lookup (d_getItem hu I g ry fun w' s3 I3 rw' => ⟨w, H, I3, rw', q.leaf sub r⟩) hs
  cases dx with
  | list ds => cases dy with
    | int i =>
      obtain ⟨a, xs, rfl, hx, rs⟩ := ox.list_ sub
      cases oy.int_
      simp only [oIdx] at q
      split at q
      · rename_i d hd
        obtain ⟨w, h1, h2⟩ := atI_rps rs hd
        exact ix_list value slice pins s σ H _ _ v u Q I rx ry ⟨a, xs, i, w, rfl, rfl, SqL.of hx, h1, q.leaf sub h2⟩ hs
      · exact OPost.no q
    | _ => exact OPost.no q
  | tuple ds => cases dy with
    | int i =>
      obtain ⟨a, xs, rfl, hx, rs, _⟩ := ox.tuple_ sub
      cases oy.int_
      simp only [oIdx] at q
      split at q
      · rename_i d hd
        obtain ⟨w, h1, h2⟩ := atI_rps rs hd
        exact ix_tup value slice pins s σ H _ _ v u Q I rx ry ⟨a, xs, i, w, rfl, rfl, hx, h1, q.leaf sub h2⟩ hs
      · exact OPost.no q
    | _ => exact OPost.no q
  | str z => cases dy with
    | int i =>
      cases ox.str_; cases oy.int_
      by_cases hz : z.length ≤ sizeLine
      · simp only [oIdx, if_pos hz] at q
        split at q
        · rename_i c hc
          exact ix_str value slice pins s σ H _ _ v u Q I rx ry ⟨z, i, c, rfl, rfl, hz, hc, q.leaf sub (.str _)⟩ hs
        · exact OPost.no q
      · simp only [oIdx, if_neg hz] at q; exact OPost.no q
    | _ => exact OPost.no q
  | dict es => cases dy with
    | str k => exact dic (.inr k) rfl ox oy q
    | int k => exact dic (.inl k) rfl ox oy q
    | tuple ks =>
      simp only [oIdx] at q
      by_cases hm : (tkm es && (keysOf ks).isSome) = true
      case neg => rw [if_neg hm] at q; exact OPost.no q
      rw [if_pos hm] at q
      rw [Bool.and_eq_true] at hm
      obtain ⟨k, hk⟩ := Option.isSome_iff_exists.mp hm.2
      obtain ⟨c, L, xs, rfl, rt, pt, dd, hsy, _⟩ := dt_in hx I sub hm.1 ox
      obtain ⟨b, rfl, _, tk⟩ := tkey_in I sub oy hk
      cases rx; cases ry
      rw [keysOf_eq hk] at q
      rcases dGetT_of k rt with ⟨h1, h2⟩ | ⟨w, d, h1, h2, r⟩
      · rw [h2] at q; exact OPost.no q
      · rw [h2] at q
        obtain ⟨w', hw, rw'⟩ := RelO.some_of (v := w) (o := (atKey xs k).map (·.2)) (by rw [← h1]; exact pt_val pt k)
        obtain ⟨p, hp, hp2⟩ := Option.map_eq_some_iff.mp hw
        refine tail_any dd.typeIs PySem.F.slot_dict_getitem.lookup (wpAny_getItem_heap (tupleKind_room_in1 hu) tk dd hp ⟨w, H, I.tok _, ?_, q.leaf sub r⟩) hs
        rw [hp2]; exact rw'
    | _ => exact OPost.no q
  | _ => cases dy <;> exact OPost.no q
def cutD (ds : List D) (lo hi : Option Int) : List D := (ds.drop (HT.sIx ds.length 0 lo)).take (HT.sIx ds.length ds.length hi - HT.sIx ds.length 0 lo)
def oSl : D → Option Int → Option Int → OV
  | .list ds, lo, hi => .f (.list (cutD ds lo hi))
  | .tuple ds, lo, hi => .v (.tuple (cutD ds lo hi))
  | .str z, lo, hi => if z.length ≤ sizeLine then .v (.str (cutS z lo hi)) else .no
  | _, _, _ => .no
theorem cut_rps {K : PySem.W.Frag} {Hi : Hp} {xs : List V} {ds : List D} (r : Rps K Hi xs ds) (lo hi : Option Int) : Rps K Hi (cutV xs lo hi) (cutD ds lo hi) := by
  unfold cutV cutD
  rw [r.length]
  exact (r.drop _).take _
def SlD (X : Cx) (f : D → Option Int → Option Int → OV) : Prop := ∀ Hi, SlR X (fun x lo hi H Q => Same Hi H ∧ ∃ d, Opd X.K Hi H x d ∧ OPost X.K Hi H Q (f d lo hi))
theorem sl2 : SlD X oSl := by
  intro Hi pins s σ H x v vl vu lo hi sl Q I rx hs pl pu ⟨sub, d, ox, q⟩
  cases d with
  | list ds =>
    obtain ⟨a, xs, rfl, hx, rs⟩ := ox.list_ sub
    exact sl_list pins s σ H _ v vl vu lo hi sl Q I rx hs pl pu ⟨a, xs, rfl, SqL.of hx, fun p hp => q.newL sub hp (cut_rps rs lo hi)⟩
  | tuple ds =>
    obtain ⟨a, xs, rfl, hx, rs, r0⟩ := ox.tuple_ sub
    refine sl_tupA pins s σ H _ v vl vu lo hi sl Q I rx hs pl pu ⟨a, xs, rfl, hx, fun e => ?_, fun _ p hp => q.newT sub hp (cut_rps rs lo hi)⟩
    have e2 : cutD ds lo hi = ds := by
      unfold cutD
      rw [← rs.length, e.1, e.2, rs.length]
      simp
    rw [oSl, e2] at q
    exact q.leaf sub r0
  | str z =>
    cases ox.str_
    by_cases hz : z.length ≤ sizeLine
    · simp only [oSl, if_pos hz] at q
      exact sl_str pins s σ H _ v vl vu lo hi sl Q I rx hs pl pu ⟨z, rfl, hz, q.leaf sub (.str _)⟩
    · simp only [oSl, if_neg hz] at q; exact OPost.no q
  | _ => exact OPost.no q
end
end Wk

/-! Wk3: built-in functions and methods, over plain data. -/
namespace Wk
open PySem PySem.Spec PyProof.Rows L2
variable [Ctx]

inductive Opds (K : PySem.W.Frag) (Hi H : Hp) : List V → List D → Prop
  | nil : Opds K Hi H [] []
  | cons {x : V} {xs : List V} {d : D} {ds : List D} : Opd K Hi H x d → Opds K Hi H xs ds → Opds K Hi H (x :: xs) (d :: ds)
def RAD (K : PySem.W.Frag) (Hi : Hp) (F : List D → OV) : List V → Hp → VK → Prop := fun xs H Q => Same Hi H ∧ ∃ ds, Opds K Hi H xs ds ∧ OPost K Hi H Q (F ds)
def CallD (X : Cx) (f : Value) (F : List D → OV) : Prop := ∀ Hi, CallR X f (RAD X.K Hi F)
section
variable {X : Cx}
theorem Opds.one {K : PySem.W.Frag} {Hi H : Hp} {xs : List V} {d : D} (h : Opds K Hi H xs [d]) : ∃ x, xs = [x] ∧ Opd K Hi H x d := by
  cases h with | cons a b => cases b; exact ⟨_, rfl, a⟩
theorem Opds.two {K : PySem.W.Frag} {Hi H : Hp} {xs : List V} {d e : D} (h : Opds K Hi H xs [d, e]) : ∃ x y, xs = [x, y] ∧ Opd K Hi H x d ∧ Opd K Hi H y e := by
  cases h with | cons a b => cases b with | cons c r => cases r; exact ⟨_, _, rfl, a, c⟩

/-- one argument -/
def f1 (F : D → OV) : List D → OV
  | [d] => F d
  | _ => .no
/-- a rule for one argument -/
theorem call1 {f : Value} {F : D → OV} (h : ∀ (Hi : Hp) (pins : List (Addr × Obj)) (s : Shared) (σ : L2.St) (H : Hp) (x : V) (d : D) (us : List Value) (Q : VK), Inv X pins σ H s → Vals [x] us → Same Hi H → Opd X.K Hi H x d → OPost X.K Hi H Q (F d) →
    wpAny (model X.prog X.w) X.A (call f us) (EP X pins σ Q) X.xe s) : CallD X f (f1 F) := by
  intro Hi pins s σ H xs us Q I r ⟨sub, ds, os, q⟩
  cases os with
  | nil => exact OPost.no q
  | cons a b =>
    cases b with
    | nil => exact h Hi pins s σ H _ _ us Q I r sub a q
    | cons _ _ => exact OPost.no q

def bLen : D → OV
  | .str x => if x.length ≤ sizeLine then .v (.int x.length) else .no
  | .list ds => .v (.int ds.length)
  | .tuple ds => .v (.int ds.length)
  | .dict es => .v (.int es.length)
  | _ => .no
theorem Rpk.length {K : PySem.W.Frag} {H : Hp} : ∀ {kvs : List (Key × V)} {es : List (D × D)}, Rpk K H kvs es → kvs.length = es.length
  | _, _, .nil => rfl
  | _, _, .cons _ r => congrArg (· + 1) r.length
omit [Ctx] in
theorem tkm_of {es : List (D × D)} (h : ¬ unm es = true) : tkm es = true := by
  match es, h with
  | [], h => exact absurd rfl h
  | (.tuple _, _) :: _, _ => rfl
  | (.none, _) :: _, h => exact absurd rfl h
  | (.bool _, _) :: _, h => exact absurd rfl h
  | (.int _, _) :: _, h => exact absurd rfl h
  | (.str _, _) :: _, h => exact absurd rfl h
  | (.list _, _) :: _, h => exact absurd rfl h
  | (.dict _, _) :: _, h => exact absurd rfl h
theorem dt_keys {K : PySem.W.Frag} {Hi : Hp} : ∀ {L : TL} {xs : TX} {es : List (D × D)}, PtL L xs → RpT K Hi L es → Vals (L.map fun p => V.ref p.2.1) (xs.map fun x => Value.ref x.2.1) ∧ Rps K Hi (L.map fun p => V.ref p.2.1) (es.map (·.1))
  | _, _, _, .nil, .nil => ⟨.nil, .nil⟩
  | _, _, _, .cons e t, .cons sq _ r => by
    obtain ⟨h1, h2⟩ := dt_keys t r
    exact ⟨.cons (show Value.ref _ = Value.ref _ by rw [e.2.1]) h1, .cons (.tup sq (Rps.keys _)) h2⟩
theorem dt_len {L : TL} {xs : TX} (r : PtL L xs) : L.length = xs.length := Paired.length r
theorem call_len (hx : Hx X) : CallD X (.builtin "len") (f1 bLen) := by
  refine call1 fun Hi pins s σ H x d us Q I r sub o q => ?_
  cases d with
  | str x =>
    cases o.str_
    by_cases hz : x.length ≤ sizeLine
    · simp only [bLen, if_pos hz] at q
      exact call_len_str pins s σ H _ us Q I r ⟨x, rfl, hz, q.leaf sub (.int _)⟩
    · simp only [bLen, if_neg hz] at q; exact OPost.no q
  | list ds =>
    obtain ⟨a, xs, rfl, hx, rs⟩ := o.list_ sub
    refine call_len_seq pins s σ H _ us Q I r ⟨a, xs, rfl, .inl (SqL.of hx), ?_⟩
    rw [rs.length]
    exact q.leaf sub (.int _)
  | tuple ds =>
    obtain ⟨a, xs, rfl, hx, rs, _⟩ := o.tuple_ sub
    refine call_len_seq pins s σ H _ us Q I r ⟨a, xs, rfl, .inr hx, ?_⟩
    rw [rs.length]
    exact q.leaf sub (.int _)
  | dict es =>
    by_cases hm : unm es = true
    · obtain ⟨a, kvs, rfl, hx, rs⟩ := o.dict_ sub hm
      rw [Vals.ref1 r]
      refine d_len I hx fun t s' I' => ⟨.int kvs.length, H, I', ⟨t, rfl⟩, ?_⟩
      rw [rs.length]
      exact q.leaf sub (.int _)
    · obtain ⟨a, L, xs, rfl, rt, pt, dd, hs, hz⟩ := dt_in hx I sub (tkm_of hm) o
      rw [Vals.ref1 r]
      have e1 := dt_len pt
      have e2 := rt.length
      refine call_len_dictH hs dd (by rw [sizeLine_eq] at hz; omega) ⟨.int es.length, H, I.tok _, ⟨_, by rw [← e1, e2]⟩, q.leaf sub (.int _)⟩
  | _ => exact OPost.no q
def asBools : List D → Option (List Bool)
  | [] => some []
  | .bool b :: r => (asBools r).map (b :: ·)
  | _ :: _ => none
theorem asBools_of : ∀ {ds : List D} {bs : List Bool}, asBools ds = some bs → ds = bs.map .bool
  | [], bs, h => by cases h; rfl
  | d :: r, bs, h => by
    cases d with
    | bool b =>
      simp only [asBools, Option.map_eq_some_iff] at h
      obtain ⟨t, ht, rfl⟩ := h
      rw [asBools_of ht]; rfl
    | _ => cases h
theorem asBools_map (bs : List Bool) : asBools (bs.map .bool) = some bs := by
  induction bs with
  | nil => rfl
  | cons b r ih => show (asBools (r.map .bool)).map (b :: ·) = _; rw [ih]; rfl
def bAll : D → OV
  | .list ds => match asBools ds with
    | some bs => .v (.bool (bs.all id))
    | none => .no
  | _ => .no
def bAny : D → OV
  | .list ds => match asBools ds with
    | some bs => .v (.bool (bs.any id))
    | none => .no
  | _ => .no
theorem call_all (hc : X.calm = true) : CallD X (.builtin "all") (f1 bAll) := by
  refine call1 fun Hi pins s σ H x d us Q I r sub o q => ?_
  cases d with
  | list ds =>
    obtain ⟨a, xs, rfl, hx, rs⟩ := o.list_ sub
    simp only [bAll] at q
    split at q
    · rename_i bs hb
      have e := asBools_of hb
      subst e
      have e2 := rs.bls
      subst e2
      exact cr_all hc pins s σ H _ us Q I r ⟨a, bs, rfl, SqL.of hx, q.leaf sub (.bl _)⟩
    · exact OPost.no q
  | _ => exact OPost.no q
theorem call_any (hc : X.calm = true) : CallD X (.builtin "any") (f1 bAny) := by
  refine call1 fun Hi pins s σ H x d us Q I r sub o q => ?_
  cases d with
  | list ds =>
    obtain ⟨a, xs, rfl, hx, rs⟩ := o.list_ sub
    simp only [bAny] at q
    split at q
    · rename_i bs hb
      have e := asBools_of hb
      subst e
      have e2 := rs.bls
      subst e2
      exact cr_any hc pins s σ H _ us Q I r ⟨a, bs, rfl, SqL.of hx, q.leaf sub (.bl _)⟩
    · exact OPost.no q
  | _ => exact OPost.no q
def bAbs : D → OV
  | .int i => .v (.int (if i < 0 then -i else i))
  | _ => .no
theorem call_absD : CallD X (.builtin "abs") (f1 bAbs) := by
  refine call1 fun Hi pins s σ H x d us Q I r sub o q => ?_
  cases d with
  | int i => cases o.int_; exact call_abs pins s σ H _ us Q I r ⟨i, rfl, q.leaf sub (.int _)⟩
  | _ => exact OPost.no q
def bInt : D → OV
  | .int i => .v (.int i)
  | .bool k => .v (.int (if k then 1 else 0))
  | _ => .no
theorem call_intD : CallD X (.type "int") (f1 bInt) := by
  refine call1 fun Hi pins s σ H x d us Q I r sub o q => ?_
  cases d with
  | int i => cases o.int_; exact call_int1 pins s σ H _ us Q I r (.inl ⟨i, rfl, q.leaf sub (.int _)⟩)
  | bool k => cases o.bool_; exact call_int1 pins s σ H _ us Q I r (.inr ⟨k, rfl, q.leaf sub (.int _)⟩)
  | _ => exact OPost.no q
def bStr : D → OV
  | .int i => if i.natAbs.log2 < 1920 then .v (.str (toString i)) else .no
  | _ => .no
theorem call_strD : CallD X (.type "str") (f1 bStr) := by
  refine call1 fun Hi pins s σ H x d us Q I r sub o q => ?_
  cases d with
  | int i =>
    cases o.int_
    by_cases h : i.natAbs.log2 < 1920
    · simp only [bStr, if_pos h] at q
      exact call_str_int pins s σ H _ us Q I r ⟨i, rfl, h, q.leaf sub (.str _)⟩
    · simp only [bStr, if_neg h] at q; exact OPost.no q
  | _ => exact OPost.no q
def signs (z : Str) : List D := z.cps.toList.map fun c => .str ⟨#[c]⟩
def bList : D → OV
  | .str z => if z.length ≤ sizeLine then .f (.list (signs z)) else .no
  | .list ds => .f (.list ds)
  | .tuple ds => .f (.list ds)
  | .dict es => .f (.list (es.map (·.1)))
  | _ => .no
theorem Rpk.keys {K : PySem.W.Frag} {H : Hp} : ∀ {kvs : List (Key × V)} {es : List (D × D)}, Rpk K H kvs es → Rps K H (kvs.map fun kv => kV kv.1) (es.map (·.1))
  | _, _, .nil => .nil
  | (k, v) :: _, _, .cons _ r => by
    refine .cons ?_ r.keys
    cases k with
    | inl i => exact .int i
    | inr x => exact .str x
theorem signs_rps (K : PySem.W.Frag) (H : Hp) : ∀ cs : List Nat, Rps K H (cs.map fun c => V.str ⟨#[c]⟩) (cs.map fun c => PyData.str ⟨#[c]⟩)
  | [] => .nil
  | c :: cs => .cons (.str _) (signs_rps K H cs)
theorem call_listD (hx : Hx X) (hc : X.calm = true) : CallD X (.type "list") (f1 bList) := by
  refine call1 fun Hi pins s σ H x d us Q I r sub o q => ?_
  cases d with
  | str z =>
    simp only [bList] at q
    split at q
    · rename_i hz
      cases o.str_
      obtain ⟨u, rfl, ru⟩ := vals1 r
      obtain ⟨t, rfl⟩ := ru
      refine call_list_str (I.ok.hd hc) z t (fun h' tk acc c' hk hS hi => ?_) hz
      have hn : H s.heap.objs.size = none := I.hok.fresh (Nat.le_refl _)
      refine ⟨.ref s.heap.objs.size, upd H s.heap.objs.size (.lst (z.cps.toList.map fun c => V.str ⟨#[c]⟩)), I.laid hk (Nat.le_refl _) (show ObjOk X.prog X.w _ _ _ (.lst _) from ⟨?_, acc.toList, c', ?_, ?_⟩), rfl, q.newL sub hn (signs_rps _ _ _)⟩
      · rw [List.length_map]; simpa [Str.length] using hz
      · refine vals_of_at (by rw [List.length_map, Array.length_toList, Array.length_toList]; exact hi.1.symm) fun j x u h1 h2 => ?_
        obtain ⟨c, v, e1, rfl⟩ := hi.2 j u (by rw [← h2, Array.getElem?_toList])
        rw [List.getElem?_map, Array.getElem?_toList, e1] at h1
        cases h1
        exact ⟨v, rfl⟩
      · rw [Array.toArray_toList]; exact hS
    · exact OPost.no q
  | list ds =>
    obtain ⟨a, xs, rfl, hx, rs⟩ := o.list_ sub
    exact call_list_of pins s σ H _ us Q I r ⟨a, xs, rfl, .inl (SqL.of hx), fun l hl => q.newL sub hl rs⟩
  | tuple ds =>
    obtain ⟨a, xs, rfl, hx, rs, _⟩ := o.tuple_ sub
    exact call_list_of pins s σ H _ us Q I r ⟨a, xs, rfl, .inr hx, fun l hl => q.newL sub hl rs⟩
  | dict es =>
    by_cases hm : unm es = true
    · obtain ⟨a, kvs, rfl, hx, rs⟩ := o.dict_ sub hm
      exact L2.call_listD hc pins s σ H _ us Q I r ⟨a, kvs, rfl, hx, fun l hl => q.newL sub hl rs.keys⟩
    · obtain ⟨a, L, xs, rfl, rt, pt, dd, hs, hz⟩ := dt_in hx I sub (tkm_of hm) o
      obtain ⟨z1, z2⟩ := dt_keys pt rt
      obtain ⟨ob, er, ep, ho, hex, hd, he, _, _⟩ := dd
      rw [Vals.ref1 r]
      have l1 : er.size = xs.length := size_of_entries he
      have l2 := dt_len pt
      refine PySem.W.kdl_call (kdl_raw hs hex hd) (I.ok.hd hc) ho (by omega) fun h' tk acc c' kp e it => ?_
      have ea : acc.toList = xs.map fun x => Value.ref x.2.1 := by
        apply List.ext_getElem?
        intro j
        rw [List.getElem?_map]
        cases hj : acc.toList[j]? with
        | none =>
          have h1 := List.getElem?_eq_none_iff.mp hj
          rw [Array.length_toList, it.1] at h1
          rw [List.getElem?_eq_none (by omega)]; rfl
        | some v =>
          obtain ⟨en, hen, hv⟩ := it.2 j v (by rw [← Array.getElem?_toList]; exact hj)
          have qe := entry_at he j
          rw [hen] at qe
          obtain ⟨b, hb, eb⟩ := Option.map_eq_some_iff.mp qe.symm
          rw [hb, hv, ← eb]; rfl
      rw [← ea] at z1
      have hz2 : (L.map fun p => V.ref p.2.1).length ≤ sizeLine := by rw [List.length_map]; exact hz
      exact ⟨.ref s.heap.objs.size, _, I.laid (t' := tk) kp (Nat.le_refl _) (show ObjOk X.prog X.w _ _ _ (.lst (L.map fun p => V.ref p.2.1)) from ⟨hz2, acc.toList, c', z1, by rw [Array.toArray_toList]; exact e⟩), rfl, q.newL sub (I.hok.fresh (Nat.le_refl _)) z2⟩
  | _ => exact OPost.no q
def bTuple : D → OV
  | .list ds => .v (.tuple ds)
  | .tuple ds => .v (.tuple ds)
  | _ => .no
theorem call_tupleD : CallD X (.type "tuple") (f1 bTuple) := by
  refine call1 fun Hi pins s σ H x d us Q I r sub o q => ?_
  cases d with
  | list ds =>
    obtain ⟨a, xs, rfl, hx, rs⟩ := o.list_ sub
    exact call_tuple_of pins s σ H _ us Q I r ⟨a, xs, rfl, .inl ⟨SqL.of hx, fun l hl => q.newT sub hl rs⟩⟩
  | tuple ds =>
    obtain ⟨a, xs, rfl, hx, rs, r0⟩ := o.tuple_ sub
    exact call_tuple_of pins s σ H _ us Q I r ⟨a, xs, rfl, .inr ⟨hx, q.leaf sub r0⟩⟩
  | _ => exact OPost.no q

/-! ### isinstance -/
def tyD : D → String
  | .none => "NoneType"
  | .bool _ => "bool"
  | .int _ => "int"
  | .str _ => "str"
  | .list _ => "list"
  | .tuple _ => "tuple"
  | .dict _ => "dict"
inductive Ty where
  | bool | int | str | list | tuple | dict
  deriving DecidableEq
def Ty.name : Ty → String
  | .bool => "bool" | .int => "int" | .str => "str" | .list => "list" | .tuple => "tuple" | .dict => "dict"
def isiD : Ty → D → Bool
  | .bool, .bool _ => true
  | .int, .bool _ => true
  | .int, .int _ => true
  | .str, .str _ => true
  | .list, .list _ => true
  | .tuple, .tuple _ => true
  | .dict, .dict _ => true
  | _, _ => false
theorem kit_isi : ∀ (T : Ty) (d : D), kitB (tyD d) T.name = some (isiD T d) := by
  intro T d
  cases T <;> cases d <;> (simp only [tyD, Ty.name, isiD]; decide +kernel)
def tkd : D → Bool
  | .dict es => !unm es
  | _ => false
theorem ty_opd {K : PySem.W.Frag} {Hi H : Hp} {x : V} {d : D} (sub : Same Hi H) (hd : tkd d = false) (h : Opd K Hi H x d) : TyX K H x (.type (tyD d)) := by
  cases d with
  | none => cases h.none_; exact .base .non
  | bool b => cases h.bool_; exact .base (.bl b)
  | int i => cases h.int_; exact .base (.int i)
  | str z => cases h.str_; exact .base (.str z)
  | list ds => obtain ⟨a, xs, rfl, hx, _⟩ := h.list_ sub; exact .base (.lst hx)
  | tuple ds =>
    obtain ⟨a, xs, rfl, hx, _⟩ := h.tuple_ sub
    rcases hx with (hx | ⟨o, hx⟩) | ⟨o, its, n, hk, hc, _⟩
    · exact .base (.tup hx)
    · exact .fTuple hx
    · exact .kTuple hk hc
  | dict es => obtain ⟨a, kvs, rfl, hx, _⟩ := h.dict_ sub (by simpa [tkd] using hd); exact hx.elim (fun hx => .base (.dK hx)) fun ⟨_, hx⟩ => .fDict hx
/-- isinstance(x, T) -/
theorem call_isiD (hx : Hx X) (T : Ty) : ∀ Hi, CallR X (.builtin "isinstance") (fun xs H Q => Same Hi H ∧ ∃ x d, xs = [x, .ty T.name] ∧ Opd X.K Hi H x d ∧ OPost X.K Hi H Q (.v (.bool (isiD T d)))) := by
  intro Hi pins s σ H xs us Q I r ⟨sub, x, d, e, o, q⟩
  subst e
  cases hd : tkd d with
  | false => exact call_isi pins s σ H _ us Q I r ⟨x, .ty T.name, _, _, isiD T d, rfl, .ty _, ty_opd sub hd o, kit_ty (kit_isi T d), q.leaf sub (.bl _)⟩
  | true =>
    cases d with
    | dict es =>
      obtain ⟨a, L, xs, rfl, rt, pt, ⟨ob, er, ep, ho, hex, _⟩, hs, hz⟩ := dt_in hx I sub (tkm_of (by simpa [tkd] using hd)) o
      obtain ⟨u1, u2, rfl, r1, r2⟩ := vals2 r
      cases r1; cases r2
      exact PySem.W.kia_one PySem.W.kitx_dict I.kIn ⟨ob, ho, hex.1⟩ (kit_ty (kit_isi T (.dict es))) (fun z => nomatch z) fun tk => ⟨.bl (isiD T (.dict es)), H, I.tok tk, rfl, q.leaf sub (.bl _)⟩
    | _ => cases hd

/-! ### methods -/
def RMD (K : PySem.W.Frag) (Hi : Hp) (F : D → List D → OV) : V → List V → Hp → VK → Prop := fun x xs H Q => Same Hi H ∧ ∃ d ds, Opd K Hi H x d ∧ Opds K Hi H xs ds ∧ OPost K Hi H Q (F d ds)
def MtD (X : Cx) (id : String) (F : D → List D → OV) : Prop := ∀ Hi, MtR X id (RMD X.K Hi F)
def asStrs : List D → Option (List Str)
  | [] => some []
  | .str b :: r => (asStrs r).map (b :: ·)
  | _ :: _ => none
theorem asStrs_of : ∀ {ds : List D} {bs : List Str}, asStrs ds = some bs → ds = bs.map .str
  | [], bs, h => by cases h; rfl
  | d :: r, bs, h => by
    cases d with
    | str b =>
      simp only [asStrs, Option.map_eq_some_iff] at h
      obtain ⟨t, ht, rfl⟩ := h
      rw [asStrs_of ht]; rfl
    | _ => cases h
theorem asStrs_map (bs : List Str) : asStrs (bs.map .str) = some bs := by
  induction bs with
  | nil => rfl
  | cons b r ih => show (asStrs (r.map .str)).map (b :: ·) = _; rw [ih]; rfl
def joinOk (a : Str) (ys : List Str) : Bool := decide ((ys.map (·.length)).sum + ys.length * a.length ≤ 16777216)
def mJoin : D → List D → OV
  | .str a, [.list ds] => match asStrs ds with
    | some ys => if joinOk a ys then .v (.str (Txt.join a ys)) else .no
    | none => .no
  | .str a, [.tuple ds] => match asStrs ds with
    | some ys => if joinOk a ys then .v (.str (Txt.join a ys)) else .no
    | none => .no
  | _, _ => .no
theorem mt_joinD : MtD X "str.join" mJoin := by
  intro Hi pins s σ H x xs v us Q I rx rs ⟨sub, d, ds, o, os, q⟩
  cases d with
  | str a =>
    cases o.str_
    cases os with
    | nil => exact OPost.no q
    | cons h t =>
      cases t with
      | cons _ _ => rename_i d _ _ _ _ _ _; cases d <;> exact OPost.no q
      | nil =>
        rename_i y e
        cases e with
        | list es =>
          obtain ⟨c, ys, rfl, hy, rt⟩ := h.list_ sub
          simp only [mJoin] at q
          split at q
          · rename_i bs hb
            by_cases hj : joinOk a bs = true
            · rw [if_pos hj] at q
              have e := asStrs_of hb
              subst e
              have e2 := rt.strs
              subst e2
              exact mt_join pins s σ H _ _ v us Q I rx rs ⟨a, c, bs, rfl, rfl, .inl (SqL.of hy), of_decide_eq_true hj, q.leaf sub (.str _)⟩
            · rw [if_neg hj] at q; exact OPost.no q
          · exact OPost.no q
        | tuple es =>
          obtain ⟨c, ys, rfl, hy, rt, _⟩ := h.tuple_ sub
          simp only [mJoin] at q
          split at q
          · rename_i bs hb
            by_cases hj : joinOk a bs = true
            · rw [if_pos hj] at q
              have e := asStrs_of hb
              subst e
              have e2 := rt.strs
              subst e2
              exact mt_join pins s σ H _ _ v us Q I rx rs ⟨a, c, bs, rfl, rfl, .inr hy, of_decide_eq_true hj, q.leaf sub (.str _)⟩
            · rw [if_neg hj] at q; exact OPost.no q
          · exact OPost.no q
        | _ => exact OPost.no q
  | _ => cases os <;> first | exact OPost.no q | skip
end
end Wk

/-! Wk4: states within states; what an expression's meaning is; the rules for expressions. -/
namespace Wk
open PySem PySem.Spec PyProof.Rows L2
variable [Ctx]

/-! ### an entry within an entry -/
section
variable {K : PySem.W.Frag} {e : Ent} {b b' : Nat} {as as' : List Addr} {Hi Hi' H H' : Hp} {ρ ρ' : En} {σ σ' : L2.St}
abbrev entIn (e : Ent) (as : List Addr) (Hi H : Hp) : Ent := ⟨Hi, H, e.pp, as⟩
theorem RvOk.inner {v : V} {r : Rv} (h : RvOk K e Hi' as' v r) : RvOk K (entIn e as Hi H) Hi' as' v r := by cases r <;> exact h
theorem RvOk.outer {v : V} {r : Rv} (h : RvOk K (entIn e as Hi H) Hi' as' v r) : RvOk K e Hi' as' v r := by cases r <;> exact h
theorem SO.into (S : SO K e b as Hi ρ σ H) : SO K (entIn e as Hi H) b as Hi ρ σ H :=
  ⟨S.sub, S.len, fun i r h => let ⟨v, h1, h2⟩ := S.slt i r h; ⟨v, h1, h2.inner⟩, S.alen, S.res, S.nd, fun a ha => .inr ha, List.prefix_refl _, S.penok, Same.refl _, fun a o h _ _ => h, fun a o h => .inl h, S.bud⟩
theorem SO.back (S : SO K e b as Hi ρ σ H) (S' : SO K (entIn e as Hi H) b' as' Hi' ρ' σ' H') : SO K e b' as' Hi' ρ' σ' H' := by
  refine ⟨S'.sub, S'.len, fun i r h => let ⟨v, h1, h2⟩ := S'.slt i r h; ⟨v, h1, h2.outer⟩, S'.alen, S'.res, S'.nd, fun a ha => ?_, S.pre.trans S'.pre, S'.penok, S.old.trans S'.old, fun a o h1 h2 h3 => ?_, fun a o h => ?_, S'.bud⟩
  · rcases S'.wr a ha with z | z
    · exact .inl (S.new z).1
    · exact S.wr a z
  · refine S'.same a o (S.same a o h1 h2 h3) h2 fun z => ?_
    rcases S.wr a z with w | w
    · rw [h1] at w; cases w
    · exact h3 w
  · rcases S'.newi a o h with z | z | z
    · exact S.newi a o z
    · exact .inr (.inl (S.new z).1)
    · exact .inr (S.wr a z)
/-- a thing beside the store is in the heap: the state is as it was -/
theorem SO.beside (S : SO K e b as Hi ρ σ H) {p : Addr} {o : HO} (hi : Hi p = none) (ha : p ∉ as) (hp : e.pp ≠ some p) (he : e.H p = none) : SO K e b as Hi ρ σ (upd H p o) := by
  have keep : ∀ a x, a ≠ p → H a = some x → upd H p o a = some x := fun a x n q => by rw [upd_ne n]; exact q
  refine ⟨fun a x q => keep a x (ne_of_none q hi) (S.sub _ _ q), S.len, S.slt, S.alen, fun k x a hx hk => ?_, S.nd, S.wr, S.pre, fun q hq => ?_, S.old, fun a x h1 h2 h3 => keep a x (ne_of_none h1 he) (S.same a x h1 h2 h3), S.newi, S.bud⟩
  · have hne : a ≠ p := fun z => ha (z ▸ List.mem_of_getElem? hk)
    exact (S.res k x a hx hk).mono (Same.refl _) (fun x q => keep a x hne q) fun z => z
  · obtain ⟨x, y, z⟩ := S.penok q hq
    have hne : q ≠ p := fun w => hp (w ▸ hq)
    exact ⟨x.mono (Same.refl _) (fun x q' => keep q x hne q') (Nat.le_refl _), y, z⟩
/-- a thing beside the store comes into it -/
theorem SO.adopt (S : SO K e b as Hi ρ σ H) {p : Addr} {d : D} (hi : Hi p = none) (ha : p ∉ as) (hp : e.pp ≠ some p) (he : e.H p = none) (own : OwnAt K Hi H p d) : SO K e b (as ++ [p]) Hi (ρ.alloc d) σ H := by
  refine ⟨S.sub, S.len, fun i r h => ?_, ?_, fun k x a hx hk => ?_, ?_, fun a h => ?_, S.pre.trans (List.prefix_append _ _), fun q hq => ?_, S.old, S.same, S.newi, S.bud⟩
  · obtain ⟨v, h1, h2⟩ := S.slt i r h
    exact ⟨v, h1, h2.mono ⟨Same.refl _, List.prefix_append _ _⟩⟩
  · show (as ++ [p]).length = (ρ.st ++ [(d, false)]).length
    simp [S.alen]
  · have hx : (ρ.st ++ [(d, false)])[k]? = some x := hx
    by_cases hl : k < as.length
    · rw [List.getElem?_append_left hl] at hk
      rw [List.getElem?_append_left (by rw [← S.alen]; exact hl)] at hx
      exact S.res k x a hx hk
    · rw [List.getElem?_append_right (by omega)] at hk
      rw [List.getElem?_append_right (by rw [← S.alen]; omega)] at hx
      have e1 : k - as.length = 0 := by
        have := (List.getElem?_eq_some_iff.mp hk).1
        simp at this; omega
      rw [e1] at hk
      rw [← S.alen, e1] at hx
      simp at hk hx
      subst hk; subst hx
      exact ⟨own, hi⟩
  · exact List.nodup_append.mpr ⟨S.nd, by simp, fun x hx y hy => by simp at hy; subst hy; exact fun z => ha (z ▸ hx)⟩
  · rcases List.mem_append.mp h with z | z
    · exact S.wr a z
    · simp at z; subst z; exact .inl he
  · obtain ⟨x, y, z⟩ := S.penok q hq
    refine ⟨x, y, fun w => ?_⟩
    rcases List.mem_append.mp w with w | w
    · exact z w
    · simp at w; subst w; exact hp hq
end

/-! ### meanings -/
abbrev ME := En → T (Rv × En)
abbrev MT := En → T (Bool × En)
abbrev MA := En → T (List Rv × En)
section
variable (X : Cx)
def EvOk (e : Expr) (σ : L2.St) (H : Hp) (R : VK) : Prop := ∀ pins s, Inv X pins σ H s → wpAny (model X.prog X.w) X.A (eval e X.env) (EP X pins σ R) X.xe s
def tE (e : Expr) : TE := fun σ H R => EvOk X e σ H R
theorem pe_tE (e : Expr) : PE X e (tE X e) := ⟨fun pins s σ H Q I h => h pins s I⟩
def TeOk (e : Expr) (σ : L2.St) (H : Hp) (R : Bool → Hp → Prop) : Prop := ∀ pins s, Inv X pins σ H s → wpAny (model X.prog X.w) X.A (isTrue e X.env (eval e X.env)) (TP X pins σ R) X.xe s
def tT (e : Expr) : TT := fun σ H R => TeOk X e σ H R
theorem pt_tT (e : Expr) : PT X e (tT X e) := ⟨fun pins s σ H Q I h => h pins s I⟩
def TwOk (e : Expr) (σ : L2.St) (H : Hp) (R : Bool → Hp → Prop) : Prop := ∀ whole pins s, Inv X pins σ H s → wpAny (model X.prog X.w) X.A (isTrue e X.env whole) (TP X pins σ R) X.xe s
def tW (e : Expr) : TT := fun σ H R => TwOk X e σ H R
theorem pw_tW (e : Expr) : PW X e (tW X e) := ⟨fun wh pins s σ H Q I h => h wh pins s I⟩
def ArOk (es : List Expr) (σ : L2.St) (H : Hp) (R : List V → Hp → Prop) : Prop := ∀ pos pins s, Inv X pins σ H s → wpAny (model X.prog X.w) X.A (spliced (backTo pos (starEach es X.env))) (AP X pins σ R) X.xe s
def tA (es : List Expr) : TA := fun σ H R => ArOk X es σ H R
theorem pa_tA (es : List Expr) : PA X es (tA X es) := ⟨fun pos pins s σ H Q I h => h pos pins s I⟩
variable {X}
theorem EvOk.of {e : Expr} {σ : L2.St} {H : Hp} {R : VK} {t : TE} (h : PE X e t) (q : t σ H R) : EvOk X e σ H R := fun pins s I => h.run pins s σ H R I q
theorem TeOk.of {e : Expr} {σ : L2.St} {H : Hp} {R : Bool → Hp → Prop} {t : TT} (h : PT X e t) (q : t σ H R) : TeOk X e σ H R := fun pins s I => h.run pins s σ H R I q
theorem TwOk.of {e : Expr} {σ : L2.St} {H : Hp} {R : Bool → Hp → Prop} {t : TT} (h : PW X e t) (q : t σ H R) : TwOk X e σ H R := fun wh pins s I => h.run wh pins s σ H R I q
theorem ArOk.of {es : List Expr} {σ : L2.St} {H : Hp} {R : List V → Hp → Prop} {t : TA} (h : PA X es t) (q : t σ H R) : ArOk X es σ H R := fun pos pins s I => h.run pos pins s σ H R I q
end
/-- what holds behind an evaluation -/
def Post (K : PySem.W.Frag) (e : Ent) (as : List Addr) (Hi : Hp) (σ : L2.St) (R : VK) : Nat → Rv × En → Prop := fun b' p =>
  ∀ v H' Hi' as', Ext Hi as Hi' as' → SO K e b' as' Hi' p.2 σ H' → RvOk K e Hi' as' v p.1 → R v H'
def PostB (K : PySem.W.Frag) (e : Ent) (as : List Addr) (Hi : Hp) (σ : L2.St) (R : Bool → Hp → Prop) : Nat → Bool × En → Prop := fun b' p =>
  ∀ H' Hi' as', Ext Hi as Hi' as' → SO K e b' as' Hi' p.2 σ H' → R p.1 H'
inductive RvsOk (K : PySem.W.Frag) (e : Ent) (Hi : Hp) (as : List Addr) : List V → List Rv → Prop
  | nil : RvsOk K e Hi as [] []
  | cons {v : V} {vs : List V} {r : Rv} {rs : List Rv} : RvOk K e Hi as v r → RvsOk K e Hi as vs rs → RvsOk K e Hi as (v :: vs) (r :: rs)
theorem RvsOk.mono {K : PySem.W.Frag} {e : Ent} {Hi Hi' : Hp} {as as' : List Addr} (x : Ext Hi as Hi' as') : ∀ {vs : List V} {rs : List Rv}, RvsOk K e Hi as vs rs → RvsOk K e Hi' as' vs rs
  | _, _, .nil => .nil
  | _, _, .cons h r => .cons (h.mono x) (r.mono x)
def PostA (K : PySem.W.Frag) (e : Ent) (as : List Addr) (Hi : Hp) (σ : L2.St) (R : List V → Hp → Prop) : Nat → List Rv × En → Prop := fun b' p =>
  ∀ vs H' Hi' as', Ext Hi as Hi' as' → SO K e b' as' Hi' p.2 σ H' → RvsOk K e Hi' as' vs p.1 → R vs H'
def Snd (X : Cx) (ex : Expr) (m : ME) : Prop := ∀ e b as Hi ρ σ H R, SO X.K e b as Hi ρ σ H → (m ρ).All b (Post X.K e as Hi σ R) → EvOk X ex σ H R
def SndT (X : Cx) (ex : Expr) (m : MT) : Prop := ∀ e b as Hi ρ σ H R, SO X.K e b as Hi ρ σ H → (m ρ).All b (PostB X.K e as Hi σ R) → TeOk X ex σ H R
def SndW (X : Cx) (ex : Expr) (m : MT) : Prop := ∀ e b as Hi ρ σ H R, SO X.K e b as Hi ρ σ H → (m ρ).All b (PostB X.K e as Hi σ R) → TwOk X ex σ H R
def SndA (X : Cx) (es : List Expr) (m : MA) : Prop := ∀ e b as Hi ρ σ H R, SO X.K e b as Hi ρ σ H → (m ρ).All b (PostA X.K e as Hi σ R) → ArOk X es σ H R
section
variable {K : PySem.W.Frag} {e : Ent} {b : Nat} {as as1 : List Addr} {Hi Hi1 H : Hp} {ρ : En} {σ : L2.St} {R : VK}
theorem Post.ext {b' : Nat} {p : Rv × En} (h : Post K e as Hi σ R b' p) (x : Ext Hi as Hi1 as1) : Post K e as1 Hi1 σ R b' p := fun v H' Hi' as' y => h v H' Hi' as' (x.trans y)
theorem PostB.ext {R : Bool → Hp → Prop} {b' : Nat} {p : Bool × En} (h : PostB K e as Hi σ R b' p) (x : Ext Hi as Hi1 as1) : PostB K e as1 Hi1 σ R b' p := fun H' Hi' as' y => h H' Hi' as' (x.trans y)
theorem PostA.ext {R : List V → Hp → Prop} {b' : Nat} {p : List Rv × En} (h : PostA K e as Hi σ R b' p) (x : Ext Hi as Hi1 as1) : PostA K e as1 Hi1 σ R b' p := fun v H' Hi' as' y => h v H' Hi' as' (x.trans y)

/-- an answer is laid -/
def ov (o : OV) (ρ : En) : T (Rv × En) := match o with
  | .v d => .ret (.val d, ρ)
  | .f d => .ret (.res ρ.st.length, ρ.alloc d)
  | .no => .fail
theorem ov_post {o : OV} (S : SO K e b as Hi ρ σ H) (h : (ov o ρ).All b (Post K e as Hi σ R)) : OPost K Hi H R o := by
  cases o with
  | v d => exact fun v Hi' H' g r => h v H' Hi' as ⟨g.i, List.prefix_refl _⟩ (S.grow g) r
  | f d =>
    intro a o Hi' H1 g hn own
    have S1 := S.grow g
    refine h (.ref a) _ Hi' (as ++ [a]) ⟨g.i, List.prefix_append _ _⟩ (S1.alloc hn (Gr.new (Hi := Hi') (o := o) g.s hn).h own) ⟨a, ?_, rfl⟩
    rw [← S.alen, List.getElem?_append_right (Nat.le_refl _), Nat.sub_self]
    rfl
  | no => exact h
def d1 (f : D → OV) (r : Rv) (ρ : En) : T (Rv × En) := match ρ.deref r with
  | some d => ov (f d) ρ
  | none => .fail
def d2 (f : D → D → OV) (r q : Rv) (ρ : En) : T (Rv × En) := match ρ.deref r, ρ.deref q with
  | some d, some d' => ov (f d d') ρ
  | _, _ => .fail
def derefs (ρ : En) : List Rv → Option (List D)
  | [] => some []
  | r :: rs => match ρ.deref r, derefs ρ rs with
    | some d, some ds => some (d :: ds)
    | _, _ => none
def dn (f : List D → OV) (rs : List Rv) (ρ : En) : T (Rv × En) := match derefs ρ rs with
  | some ds => ov (f ds) ρ
  | none => .fail
theorem d1_post {f : D → OV} {r : Rv} {v : V} (S : SO K e b as Hi ρ σ H) (hr : RvOk K e Hi as v r) (h : (d1 f r ρ).All b (Post K e as Hi σ R)) : ∃ d, Opd K Hi H v d ∧ OPost K Hi H R (f d) := by
  unfold d1 at h
  split at h
  · rename_i d hd
    exact ⟨d, S.opd hr hd, ov_post S h⟩
  · exact h.elim
theorem d2_post {f : D → D → OV} {r q : Rv} {v u : V} (S : SO K e b as Hi ρ σ H) (hr : RvOk K e Hi as v r) (hq : RvOk K e Hi as u q) (h : (d2 f r q ρ).All b (Post K e as Hi σ R)) : R2D K Hi f v u H R := by
  unfold d2 at h
  split at h
  · rename_i d d' hd hd'
    exact ⟨S.sub, d, d', S.opd hr hd, S.opd hq hd', ov_post S h⟩
  · exact h.elim
theorem derefs_opds (S : SO K e b as Hi ρ σ H) : ∀ {vs : List V} {rs : List Rv} {ds : List D}, RvsOk K e Hi as vs rs → derefs ρ rs = some ds → Opds K Hi H vs ds
  | _, _, _, .nil, h => by cases h; exact .nil
  | _, _, ds, .cons (r := r) (rs := rs) hv hr, h => by
    simp only [derefs] at h
    split at h
    · rename_i d ds' hd hds
      cases h
      exact .cons (S.opd hv hd) (derefs_opds S hr hds)
    · cases h
theorem dn_post {f : List D → OV} {rs : List Rv} {vs : List V} (S : SO K e b as Hi ρ σ H) (hr : RvsOk K e Hi as vs rs) (h : (dn f rs ρ).All b (Post K e as Hi σ R)) : RAD K Hi f vs H R := by
  unfold dn at h
  split at h
  · rename_i ds hd
    exact ⟨S.sub, ds, derefs_opds S hr hd, ov_post S h⟩
  · exact h.elim
def freezes (ρ : En) : List Rv → Option (List D × En)
  | [] => some ([], ρ)
  | r :: rs => match ρ.freeze r with
    | some (d, ρ1) => (match freezes ρ1 rs with
      | some (ds, ρ2) => some (d :: ds, ρ2)
      | none => none)
    | none => none
theorem SO.frzs : ∀ {vs : List V} {rs : List Rv} {ds : List D} {ρ ρ' : En} {Hi : Hp}, SO K e b as Hi ρ σ H → RvsOk K e Hi as vs rs → freezes ρ rs = some (ds, ρ') → ∃ Hi', Ext Hi as Hi' as ∧ SO K e b as Hi' ρ' σ H ∧ Rps K Hi' vs ds
  | _, _, _, _, _, Hi, S, .nil, h => by cases h; exact ⟨Hi, Ext.refl _ _, S, .nil⟩
  | _, _, _, _, _, Hi, S, .cons hv hr, h => by
    simp only [freezes] at h
    split at h
    · rename_i d ρ1 hd
      obtain ⟨Hi1, x1, S1, r1⟩ := S.frz hv hd
      split at h
      · rename_i ds ρ2 hds
        cases h
        obtain ⟨Hi2, x2, S2, r2⟩ := SO.frzs S1 (hr.mono x1) hds
        exact ⟨Hi2, x1.trans x2, S2, .cons (r1.mono x2.hi) r2⟩
      · cases h
    · cases h
end

/-! ### the rules -/
section
variable {X : Cx} {a c d : Expr} {pos : Pos} {ma mc md : ME}
def mVar (i : Nat) : ME := fun ρ => match ρ.sl[i]? with
  | some (some r) => .ret (r, ρ)
  | _ => .fail
theorem snd_var {i : Nat} {x : Str} (hN : X.N[i]? = some x) (hv : Vis X.env.scope x) (hd : (x == ("__debug__" : Str)) = false) (hcd : (x == ("__classdict__" : Str)) = false) : Snd X (.Name x pos) (mVar i) := by
  intro e b as Hi ρ σ H R S h
  unfold mVar at h
  split at h
  · rename_i r hr
    obtain ⟨v, h1, h2⟩ := S.slt i r hr
    exact .of (pe_var hN hv hd hcd) ⟨v, h1, h v H Hi as (Ext.refl _ _) S h2⟩
  · exact h.elim
def mC (d : D) : ME := fun ρ => .ret (.val d, ρ)
theorem snd_c {ex : Expr} {v : V} {dd : D} (hp : PE X ex (tC v)) (r : ∀ Hi, Rp X.K Hi v dd) : Snd X ex (mC dd) := by
  intro e b as Hi ρ σ H R S h
  exact .of hp (h v H Hi as (Ext.refl _ _) S (r Hi))
theorem snd_un {op : UnaryOp} {f : D → OV} (ho : ∀ Hi, UnR X (unaryOp op) (fun x H Q => Same Hi H ∧ ∃ d, Opd X.K Hi H x d ∧ OPost X.K Hi H Q (f d))) (ha : Snd X a ma) :
    Snd X (.UnaryOp op a pos) (fun ρ => (ma ρ).bind fun p => d1 f p.1 p.2) := by
  intro e b as Hi ρ σ H R S h
  have hoE : UnR X (unaryOp op) (fun x H Q => ∃ Hi, Same Hi H ∧ ∃ d, Opd X.K Hi H x d ∧ OPost X.K Hi H Q (f d)) := fun pins s σ H x v Q I rx ⟨Hi, q⟩ => ho Hi pins s σ H x v Q I rx q
  refine .of (pe_un hoE (pe_tE X a)) ?_
  refine ha e b as Hi ρ σ H _ S ((T.all_bind.mp h).mono fun b1 p _ h1 v H1 Hi1 as1 x1 S1 r1 => ?_)
  obtain ⟨d, od, q⟩ := d1_post S1 r1 (h1.mono fun _ _ _ z => z.ext x1)
  exact ⟨Hi1, S1.sub, d, od, q⟩
def mUn (f : D → OV) (ma : ME) : ME := fun ρ => (ma ρ).bind fun p => d1 f p.1 p.2
def mBin (f : D → D → OV) (ma mc : ME) : ME := fun ρ => (ma ρ).bind fun p => (mc p.2).bind fun q => d2 f p.1 q.1 q.2
def R2E (K : PySem.W.Frag) (f : D → D → OV) : R2 := fun x y H Q => ∃ Hi, R2D K Hi f x y H Q
theorem Op2.E {g : Value → Value → Sem Value} {f : D → D → OV} (h : Op2 X g f) : OpR X g (R2E X.K f) := fun pins s σ H x y v u Q I rx ry ⟨Hi, q⟩ => h Hi pins s σ H x y v u Q I rx ry q
theorem Ix2.E {f : D → D → OV} (h : Ix2 X f) : IxR X (R2E X.K f) := fun va sl pins s σ H x y v u Q I rx ry ⟨Hi, q⟩ hs => h Hi va sl pins s σ H x y v u Q I rx ry q hs
/-- two operands, whatever is done with them -/
theorem two_ops {f : D → D → OV} (ha : Snd X a ma) (hc : Snd X c mc) {e : Ent} {b : Nat} {as : List Addr} {Hi : Hp} {ρ : En} {σ : L2.St} {H : Hp} {R : VK} (S : SO X.K e b as Hi ρ σ H) (h : (mBin f ma mc ρ).All b (Post X.K e as Hi σ R)) :
    tOp (R2E X.K f) (tE X a) (tE X c) σ H R := by
  refine ha e b as Hi ρ σ H _ S ((T.all_bind.mp h).mono fun b1 p _ h1 v H1 Hi1 as1 x1 S1 r1 => ?_)
  refine hc e b1 as1 Hi1 p.2 σ H1 _ S1 ((T.all_bind.mp h1).mono fun b2 q _ h2 u H2 Hi2 as2 x2 S2 r2 => ?_)
  exact ⟨Hi2, d2_post S2 (r1.mono x2) r2 (h2.mono fun _ _ _ z => z.ext (x1.trans x2))⟩
theorem snd_bin {op : Operator} {f : D → D → OV} (ho : Op2 X (binaryOp op) f) (ha : Snd X a ma) (hc : Snd X c mc) : Snd X (.BinOp a op c pos) (mBin f ma mc) := fun e b as Hi ρ σ H R S h =>
  .of (pe_op ho.E (pe_tE X a) (pe_tE X c)) (two_ops ha hc S h)
theorem snd_cmp {op : CmpOp} {f : D → D → OV} (ho : Op2 X (compareOp op) f) (ha : Snd X a ma) (hc : Snd X c mc) (hm : behindInMarks op c = false) : Snd X (.Compare a [op] [c] pos) (mBin f ma mc) := fun e b as Hi ρ σ H R S h =>
  .of (pe_cmpR ho.E (pe_tE X a) (pe_tE X c) hm) (two_ops ha hc S h)
theorem snd_idx {f : D → D → OV} (ho : Ix2 X f) (ha : Snd X a ma) (hc : Snd X c mc) (hs : PlainIx c) : Snd X (.Subscript a c pos) (mBin f ma mc) := fun e b as Hi ρ σ H R S h =>
  .of (pe_ix ho.E (pe_tE X a) (pe_tE X c) hs) (two_ops ha hc S h)
/-! tests -/
def asB (p : Rv × En) : T (Bool × En) := match p.2.deref p.1 with
  | some (.bool k) => .ret (k, p.2)
  | _ => .fail
/-- a bool's value as a test -/
def tB' (ma : ME) : MT := fun ρ => (ma ρ).bind asB
theorem asB_post {K : PySem.W.Frag} {e : Ent} {b : Nat} {as : List Addr} {Hi : Hp} {σ : L2.St} {R : Bool → Hp → Prop} {p : Rv × En} (h : (asB p).All b (PostB K e as Hi σ R)) :
    Post K e as Hi σ (fun x H => ∃ k, x = .bl k ∧ R k H) b p := by
  intro v H' Hi' as' x S r
  unfold asB at h
  split at h
  · rename_i k hk
    have o := S.opd r hk
    exact ⟨k, o.bool_, h H' Hi' as' x S⟩
  · exact h.elim
theorem sndT_cmp {op : CmpOp} {f : D → D → OV} (ho : Op2 X (compareOp op) f) (ha : Snd X a ma) (hc : Snd X c mc) (hm : behindInMarks op c = false) : SndT X (.Compare a [op] [c] pos) (tB' (mBin f ma mc)) := fun e b as Hi ρ σ H R S h =>
  .of (pt_cmpR ho.E (pe_tE X a) (pe_tE X c) hm) (two_ops ha hc S ((T.all_bind.mp h).mono fun _ _ _ z => asB_post z))
def mNot (mt : MT) : MT := fun ρ => (mt ρ).bind fun p => .ret (!p.1, p.2)
theorem sndT_not {mt : MT} (ha : SndT X a mt) : SndT X (.UnaryOp .Not a pos) (mNot mt) := fun e b as Hi ρ σ H R S h =>
  .of (pt_not (pt_tT X a)) (ha e b as Hi ρ σ H _ S ((T.all_bind.mp h).mono fun b1 p _ h1 H' Hi' as' x S' => h1 H' Hi' as' x S'))
def mtAnd (mt nt : MT) : MT := fun ρ => (mt ρ).bind fun p => if p.1 then nt p.2 else .ret (false, p.2)
def mtOr (mt nt : MT) : MT := fun ρ => (mt ρ).bind fun p => if p.1 then .ret (true, p.2) else nt p.2
theorem sndW_and1 {mt : MT} (ha : SndT X a mt) : SndW X (.BoolOp .And [a] pos) mt := fun e b as Hi ρ σ H R S h =>
  .of (pw_and1 (pt_tT X a)) (ha e b as Hi ρ σ H _ S h)
theorem sndW_or1 {mt : MT} (ha : SndT X a mt) : SndW X (.BoolOp .Or [a] pos) mt := fun e b as Hi ρ σ H R S h =>
  .of (pw_or1 (pt_tT X a)) (ha e b as Hi ρ σ H _ S h)
theorem sndW_and {mt nt : MT} {r : List Expr} (ha : SndT X a mt) (hb : SndW X (.BoolOp .And (c :: r) pos) nt) : SndW X (.BoolOp .And (a :: c :: r) pos) (mtAnd mt nt) := fun e b as Hi ρ σ H R S h => by
  refine .of (pw_and (pt_tT X a) (pw_tW X _)) (ha e b as Hi ρ σ H _ S ((T.all_bind.mp h).mono fun b1 p _ h1 H' Hi' as' x S' => ?_))
  obtain ⟨k, ρ1⟩ := p
  cases k with
  | true => exact hb e b1 as' Hi' ρ1 σ H' _ S' (h1.mono fun _ _ _ z => z.ext x)
  | false => exact h1 H' Hi' as' x S'
theorem sndW_or {mt nt : MT} {r : List Expr} (ha : SndT X a mt) (hb : SndW X (.BoolOp .Or (c :: r) pos) nt) : SndW X (.BoolOp .Or (a :: c :: r) pos) (mtOr mt nt) := fun e b as Hi ρ σ H R S h => by
  refine .of (pw_or (pt_tT X a) (pw_tW X _)) (ha e b as Hi ρ σ H _ S ((T.all_bind.mp h).mono fun b1 p _ h1 H' Hi' as' x S' => ?_))
  obtain ⟨k, ρ1⟩ := p
  cases k with
  | true => exact h1 H' Hi' as' x S'
  | false => exact hb e b1 as' Hi' ρ1 σ H' _ S' (h1.mono fun _ _ _ z => z.ext x)
theorem SndW.t {mt : MT} (h : SndW X a mt) : SndT X a mt := fun e b as Hi ρ σ H R S q pins s I => h e b as Hi ρ σ H R S q _ pins s I
/-- truth -/
def truD : D → Option Bool
  | .none => some false
  | .bool k => some k
  | .int i => some (i != 0)
  | .str x => if x.length ≤ sizeLine then some ((x.length : Int) != 0) else none
  | .list ds => some (!ds.isEmpty)
  | .tuple ds => some (!ds.isEmpty)
  | .dict es => if unm es then some (!es.isEmpty) else none
theorem Rps.emp {K : PySem.W.Frag} {H : Hp} {vs : List V} {ds : List D} (r : Rps K H vs ds) : vs.isEmpty = ds.isEmpty := by cases r <;> rfl
/-- truth, of locked dicts too -/
def TruW (K : PySem.W.Frag) (x : V) (H : Hp) (k : Bool) : Prop := TruV K x H k ∨ ∃ a kvs, x = .ref a ∧ Rd H a (.dK kvs) ∧ k = !kvs.isEmpty
theorem truW_ok : TruR X (fun x H Q => ∃ k, TruW X.K x H k ∧ Q k H) := by
  intro pins s σ H x v Q I rx ⟨k, e, q⟩
  rcases e with e | ⟨a, kvs, rfl, h, rfl⟩
  · exact tru_ok pins s σ H x v Q I rx ⟨k, e, q⟩
  · cases rx
    exact d_truth I h fun s' I' => ⟨H, I', q⟩
theorem pt_truthW {a : Expr} {ta : TE} (ha : PE X a ta) (he : ∀ whole, isTrue a X.env whole = (do let v ← whole; standAt a.pos; holding [v] (truthy v))) :
    PT X a (fun σ H Q => ta σ H fun x H' => ∃ k, TruW X.K x H' k ∧ Q k H') := by
  refine ⟨fun pins s σ H Q I h => ?_⟩
  exact isTrue_plain (thn (ha.run pins s σ H _ I h) fun v s1 ⟨x, H1, I1, r1, q1⟩ => truW_ok pins s1 σ H1 x v Q I1 r1 q1) (he _)
theorem truD_of {K : PySem.W.Frag} {Hi H : Hp} {x : V} {d : D} {k : Bool} (sub : Same Hi H) (o : Opd K Hi H x d) (h : truD d = some k) : TruW K x H k := by
  cases d with
  | none => cases o.none_; cases h; exact .inl rfl
  | bool b => cases o.bool_; cases h; exact .inl rfl
  | int i => cases o.int_; cases h; exact .inl rfl
  | str z =>
    cases o.str_
    simp only [truD] at h
    split at h
    · rename_i hz; cases h; exact .inl ⟨hz, rfl⟩
    · cases h
  | list ds => obtain ⟨a, xs, rfl, hx, rs⟩ := o.list_ sub; cases h; exact .inl (.inl ⟨xs, SqL.of hx, by rw [rs.emp]⟩)
  | tuple ds => obtain ⟨a, xs, rfl, hx, rs, _⟩ := o.tuple_ sub; cases h; exact .inl (.inr (.inl ⟨xs, hx, by rw [rs.emp]⟩))
  | dict es =>
    simp only [truD] at h
    split at h
    · rename_i hm
      obtain ⟨a, kvs, rfl, hx, rs⟩ := o.dict_ sub hm; cases h; exact .inr ⟨a, kvs, rfl, hx, by cases rs <;> rfl⟩
    · cases h
def asT (p : Rv × En) : T (Bool × En) := match p.2.deref p.1 with
  | some d => (match truD d with
    | some k => .ret (k, p.2)
    | none => .fail)
  | none => .fail
def mTru (ma : ME) : MT := fun ρ => (ma ρ).bind asT
theorem sndT_tru (ha : Snd X a ma) (he : ∀ whole, isTrue a X.env whole = (do let v ← whole; standAt a.pos; holding [v] (truthy v))) : SndT X a (mTru ma) := fun e b as Hi ρ σ H R S h => by
  refine .of (pt_truthW (pe_tE X a) he) (ha e b as Hi ρ σ H _ S ((T.all_bind.mp h).mono fun b1 p _ h1 v H' Hi' as' x S' r => ?_))
  unfold asT at h1
  split at h1
  · rename_i d hd
    split at h1
    · rename_i k hk
      exact ⟨k, truD_of S'.sub (S'.opd r hd) hk, h1 H' Hi' as' x S'⟩
    · exact h1.elim
  · exact h1.elim
/-! and, or, not as values; a if t else c -/
def mAnd (ma mc : ME) : ME := fun ρ => (ma ρ).bind fun p => (asB p).bind fun k => if k.1 then mc k.2 else .ret (.val (.bool false), k.2)
def mOr (ma mc : ME) : ME := fun ρ => (ma ρ).bind fun p => (asB p).bind fun k => if k.1 then .ret (.val (.bool true), k.2) else mc k.2
theorem snd_and {r : List Expr} (ha : Snd X a ma) (hc : Snd X (.BoolOp .And (c :: r) pos) mc) : Snd X (.BoolOp .And (a :: c :: r) pos) (mAnd ma mc) := fun e b as Hi ρ σ H R S h => by
  refine .of (pe_and (pe_tE X a) (pe_tE X _)) (ha e b as Hi ρ σ H _ S ((T.all_bind.mp h).mono fun b1 p _ h1 v H' Hi' as' x S' rv => ?_))
  have h2 := T.all_bind.mp h1
  unfold asB at h2
  split at h2
  · rename_i k hk
    refine ⟨k, (S'.opd rv hk).bool_, ?_⟩
    cases k with
    | true => exact hc e b1 as' Hi' p.2 σ H' _ S' (T.All.mono h2 fun _ _ _ z => z.ext x)
    | false => exact h2 _ H' Hi' as' x S' (.bl _)
  · exact h2.elim
theorem snd_or {r : List Expr} (ha : Snd X a ma) (hc : Snd X (.BoolOp .Or (c :: r) pos) mc) : Snd X (.BoolOp .Or (a :: c :: r) pos) (mOr ma mc) := fun e b as Hi ρ σ H R S h => by
  refine .of (pe_or (pe_tE X a) (pe_tE X _)) (ha e b as Hi ρ σ H _ S ((T.all_bind.mp h).mono fun b1 p _ h1 v H' Hi' as' x S' rv => ?_))
  have h2 := T.all_bind.mp h1
  unfold asB at h2
  split at h2
  · rename_i k hk
    refine ⟨k, (S'.opd rv hk).bool_, ?_⟩
    cases k with
    | true => exact h2 _ H' Hi' as' x S' (.bl _)
    | false => exact hc e b1 as' Hi' p.2 σ H' _ S' (T.All.mono h2 fun _ _ _ z => z.ext x)
  · exact h2.elim
theorem snd_one {op : BoolOp} (ha : Snd X a ma) : Snd X (.BoolOp op [a] pos) ma := fun e b as Hi ρ σ H R S h => .of (pe_one (pe_tE X a)) (ha e b as Hi ρ σ H _ S h)
def mNotV (ma : ME) : ME := fun ρ => (ma ρ).bind fun p => (asB p).bind fun k => .ret (.val (.bool (!k.1)), k.2)
theorem snd_not (ha : Snd X a ma) : Snd X (.UnaryOp .Not a pos) (mNotV ma) := fun e b as Hi ρ σ H R S h => by
  refine .of (pe_not (pe_tE X a)) (ha e b as Hi ρ σ H _ S ((T.all_bind.mp h).mono fun b1 p _ h1 v H' Hi' as' x S' rv => ?_))
  have h2 := T.all_bind.mp h1
  unfold asB at h2
  split at h2
  · rename_i k hk
    exact ⟨k, (S'.opd rv hk).bool_, h2 _ H' Hi' as' x S' (.bl _)⟩
  · exact h2.elim
def mIf (mt : MT) (ma mc : ME) : ME := fun ρ => (mt ρ).bind fun p => if p.1 then ma p.2 else mc p.2
theorem snd_if {t : Expr} {mt : MT} (ht : SndT X t mt) (ha : Snd X a ma) (hc : Snd X c mc) : Snd X (.IfExp t a c pos) (mIf mt ma mc) := fun e b as Hi ρ σ H R S h => by
  refine .of (pe_ifExp (pt_tT X t) (pe_tE X a) (pe_tE X c)) (ht e b as Hi ρ σ H _ S ((T.all_bind.mp h).mono fun b1 p _ h1 H' Hi' as' x S' => ?_))
  obtain ⟨k, ρ1⟩ := p
  cases k with
  | true => exact ha e b1 as' Hi' ρ1 σ H' _ S' (T.All.mono h1 fun _ _ _ z => z.ext x)
  | false => exact hc e b1 as' Hi' ρ1 σ H' _ S' (T.All.mono h1 fun _ _ _ z => z.ext x)
/-! chains a op c op' d -/
def mtChain (f g : D → D → OV) (ma mc md : ME) : MT := fun ρ => (ma ρ).bind fun p => (mc p.2).bind fun q => (d2 f p.1 q.1 q.2).bind fun k => (asB k).bind fun k => if k.1 then (md k.2).bind fun w => (d2 g q.1 w.1 w.2).bind asB else .ret (false, k.2)
theorem sndT_chain {op op' : CmpOp} {f g : D → D → OV} (ho : Op2 X (compareOp op) f) (ho' : Op2 X (compareOp op') g) (ha : Snd X a ma) (hc : Snd X c mc) (hd : Snd X d md)
    (hm : lastMarks [op, op'] [c, d] = false) : SndT X (.Compare a [op, op'] [c, d] pos) (mtChain f g ma mc md) := fun e b as Hi ρ σ H R S h => by
  refine .of (pt_chain ho.E ho'.E (pe_tE X a) (pe_tE X c) (pe_tE X d) hm) ?_
  refine ha e b as Hi ρ σ H _ S ((T.all_bind.mp h).mono fun b1 p _ h1 v H1 Hi1 as1 x1 S1 r1 => ?_)
  refine hc e b1 as1 Hi1 p.2 σ H1 _ S1 ((T.all_bind.mp h1).mono fun b2 q _ h2 u H2 Hi2 as2 x2 S2 r2 => ?_)
  refine ⟨Hi2, d2_post S2 (r1.mono x2) r2 ((T.all_bind.mp h2).mono fun b3 k _ h3 z H3 Hi3 as3 x3 S3 r3 => ?_)⟩
  have h4 := T.all_bind.mp h3
  unfold asB at h4
  split at h4
  · rename_i kb hk
    refine ⟨kb, (S3.opd r3 hk).bool_, ?_⟩
    cases kb with
    | false => exact ⟨false, rfl, h4 H3 Hi3 as3 (x1.trans (x2.trans x3)) S3⟩
    | true =>
      have h5 : ((md k.2).bind fun w => (d2 g q.1 w.1 w.2).bind asB).All b3 (PostB X.K e as Hi σ R) := h4
      refine hd e b3 as3 Hi3 k.2 σ H3 _ S3 ((T.all_bind.mp h5).mono fun b4 w _ h6 y H4 Hi4 as4 x4 S4 r4 => ?_)
      exact ⟨Hi4, d2_post S4 ((r2.mono x3).mono x4) r4 ((T.all_bind.mp h6).mono fun _ _ _ z => (asB_post z).ext (x1.trans (x2.trans (x3.trans x4))))⟩
  · exact h4.elim
/-! #### argument lists, displays -/
def maNil : MA := fun ρ => .ret ([], ρ)
def maCons (ma : ME) (mr : MA) : MA := fun ρ => (ma ρ).bind fun p => (mr p.2).bind fun q => .ret (p.1 :: q.1, q.2)
theorem sndA_nil : SndA X [] maNil := fun e b as Hi ρ σ H R S h => .of pa_nil (h [] H Hi as (Ext.refl _ _) S .nil)
theorem sndA_cons {r : List Expr} {mr : MA} (ha : Snd X a ma) (hr : SndA X r mr) (hs : starEach (a :: r) X.env = (false, eval a X.env) :: starEach r X.env) : SndA X (a :: r) (maCons ma mr) := fun e b as Hi ρ σ H R S h => by
  refine .of (pa_cons (pe_tE X a) (pa_tA X r) hs) ?_
  refine ha e b as Hi ρ σ H _ S ((T.all_bind.mp h).mono fun b1 p _ h1 v H1 Hi1 as1 x1 S1 r1 => ?_)
  refine hr e b1 as1 Hi1 p.2 σ H1 _ S1 ((T.all_bind.mp h1).mono fun b2 q _ h2 vs H2 Hi2 as2 x2 S2 r2 => ?_)
  exact h2 (v :: vs) H2 Hi2 as2 (x1.trans x2) S2 (.cons (r1.mono x2) r2)
/-- a display's items become data -/
def mDisp (f : List D → OV) (mr : MA) : ME := fun ρ => (mr ρ).bind fun p => match freezes p.2 p.1 with
  | some (ds, ρ1) => ov (f ds) ρ1
  | none => .fail
theorem disp_post {f : List D → OV} {mr : MA} {es : List Expr} (hr : SndA X es mr) {e : Ent} {b : Nat} {as : List Addr} {Hi : Hp} {ρ : En} {σ : L2.St} {H : Hp} {R : VK} (S : SO X.K e b as Hi ρ σ H) (h : (mDisp f mr ρ).All b (Post X.K e as Hi σ R)) :
    ArOk X es σ H fun xs H1 => ∃ Hi1 ds, Same Hi1 H1 ∧ Rps X.K Hi1 xs ds ∧ OPost X.K Hi1 H1 R (f ds) := by
  refine hr e b as Hi ρ σ H _ S ((T.all_bind.mp h).mono fun b1 p _ h1 vs H1 Hi1 as1 x1 S1 r1 => ?_)
  split at h1
  · rename_i ds ρ1 hd
    obtain ⟨Hi2, x2, S2, r2⟩ := S1.frzs r1 hd
    exact ⟨Hi2, ds, S2.sub, r2, ov_post S2 (T.All.mono h1 fun _ _ _ z => z.ext (x1.trans x2))⟩
  · exact h1.elim
def szT (ds : List D) : OV := if ds.length ≤ sizeLine then .v (.tuple ds) else .no
def szL (ds : List D) : OV := if ds.length ≤ sizeLine then .f (.list ds) else .no
theorem snd_tup {es : List Expr} {mr : MA} {k : Nat} (hr : SndA X es mr) : Snd X (.Tuple es k pos) (mDisp szT mr) := fun e b as Hi ρ σ H R S h => by
  refine .of (pe_tup (pa_tA X es)) ?_
  have q := disp_post hr S h
  refine fun pos pins s I => wpAny_mono (q pos pins s I) (fun us s1 ⟨vs, H1, I1, rv, Hi1, ds, sub, rs, q1⟩ => ?_) fun _ _ z => z
  by_cases hz : ds.length ≤ sizeLine
  · simp only [szT, if_pos hz] at q1
    exact ⟨vs, H1, I1, rv, by rw [rs.length]; exact hz, fun p hp => q1.newT sub hp rs⟩
  · simp only [szT, if_neg hz] at q1; exact OPost.no q1
theorem snd_lst {es : List Expr} {mr : MA} (hr : SndA X es mr) : Snd X (.List es pos) (mDisp szL mr) := fun e b as Hi ρ σ H R S h => by
  refine .of (pe_lst (pa_tA X es)) ?_
  have q := disp_post hr S h
  refine fun pos pins s I => wpAny_mono (q pos pins s I) (fun us s1 ⟨vs, H1, I1, rv, Hi1, ds, sub, rs, q1⟩ => ?_) fun _ _ z => z
  by_cases hz : ds.length ≤ sizeLine
  · simp only [szL, if_pos hz] at q1
    exact ⟨vs, H1, I1, rv, by rw [rs.length]; exact hz, fun p hp => q1.newL sub hp rs⟩
  · simp only [szL, if_neg hz] at q1; exact OPost.no q1
/-! #### slices -/
def mPart (m : Option ME) (k : Option Int → En → T (Rv × En)) : En → T (Rv × En) := fun ρ => match m with
  | none => k none ρ
  | some m => (m ρ).bind fun p => match p.2.deref p.1 with
    | some (.int i) => k (some i) p.2
    | _ => .fail
def mSlice (f : D → Option Int → Option Int → OV) (ma : ME) (lo hi : Option ME) : ME := fun ρ => (ma ρ).bind fun p => mPart lo (fun l => mPart hi (fun h => d1 (fun d => f d l h) p.1)) p.2
def PoOk (X : Cx) (ex : Option Expr) (σ : L2.St) (H : Hp) (R : Option Int → Hp → Prop) : Prop := ∀ pins s, Inv X pins σ H s → wpAny (model X.prog X.w) X.A (evalPart ex X.env) (fun u s' => ∃ o H', Inv X pins σ H' s' ∧ IsPart u o ∧ R o H') X.xe s
def tPo (X : Cx) (ex : Option Expr) : TO := fun σ H R => PoOk X ex σ H R
theorem po_tPo (ex : Option Expr) : PO X ex (tPo X ex) := ⟨fun pins s σ H Q I h => h pins s I⟩
/-- a part and its meaning -/
inductive SndP (X : Cx) : Option Expr → Option ME → Prop
  | none : SndP X none none
  | some {ex : Expr} {m : ME} : Snd X ex m → SndP X (some ex) (some m)
theorem part_post {ex : Option Expr} {m : Option ME} (hp : SndP X ex m) {k : Option Int → En → T (Rv × En)} {e : Ent} {b : Nat} {as : List Addr} {Hi : Hp} {ρ : En} {σ : L2.St} {H : Hp} {P : Nat → Rv × En → Prop} {R : Option Int → Hp → Prop} (S : SO X.K e b as Hi ρ σ H) (h : (mPart m k ρ).All b P)
    (q : ∀ o b' ρ' H' Hi' as', Ext Hi as Hi' as' → SO X.K e b' as' Hi' ρ' σ H' → (k o ρ').All b' P → R o H') : PoOk X ex σ H R := by
  cases hp with
  | none => exact fun pins s I => po_none.run pins s σ H R I (q none b ρ H Hi as (Ext.refl _ _) S h)
  | some hs =>
    refine fun pins s I => (po_some (pe_tE X _)).run pins s σ H R I ?_
    refine hs e b as Hi ρ σ H _ S ((T.all_bind.mp h).mono fun b1 p _ h1 v H1 Hi1 as1 x1 S1 r1 => ?_)
    split at h1
    · rename_i i hi
      exact ⟨i, (S1.opd r1 hi).int_, q (some i) b1 p.2 H1 Hi1 as1 x1 S1 h1⟩
    · exact h1.elim
theorem snd_slice {f : D → Option Int → Option Int → OV} (hf : SlD X f) {lo hi : Option Expr} {mlo mhi : Option ME} {p2 : Pos} (ha : Snd X a ma) (hl : SndP X lo mlo) (hh : SndP X hi mhi) : Snd X (.Subscript a (.Slice lo hi none p2) pos) (mSlice f ma mlo mhi) := fun e b as Hi ρ σ H R S h => by
  have hE : SlR X (fun x lo hi H Q => ∃ Hi, Same Hi H ∧ ∃ d, Opd X.K Hi H x d ∧ OPost X.K Hi H Q (f d lo hi)) := fun pins s σ H x v vl vu lo hi sl Q I rx hs pl pu ⟨Hi, q⟩ => hf Hi pins s σ H x v vl vu lo hi sl Q I rx hs pl pu q
  refine .of (pe_slice hE (pe_tE X a) (po_tPo lo) (po_tPo hi)) ?_
  refine ha e b as Hi ρ σ H _ S ((T.all_bind.mp h).mono fun b1 p _ h1 v H1 Hi1 as1 x1 S1 r1 => ?_)
  refine part_post hl S1 h1 fun l b2 ρ2 H2 Hi2 as2 x2 S2 h2 => ?_
  refine part_post hh S2 h2 fun u b3 ρ3 H3 Hi3 as3 x3 S3 h3 => ?_
  obtain ⟨d, od, q⟩ := d1_post S3 ((r1.mono x2).mono x3) (h3.mono fun _ _ _ z => z.ext (x1.trans (x2.trans x3)))
  exact ⟨Hi3, S3.sub, d, od, q⟩
/-! #### calls of built-ins, methods -/
theorem CallD.E {f : Value} {F : List D → OV} (h : CallD X f F) : CallR X f (fun xs H Q => ∃ Hi, RAD X.K Hi F xs H Q) := fun pins s σ H xs us Q I r ⟨Hi, q⟩ => h Hi pins s σ H xs us Q I r q
def mCall (F : List D → OV) (mr : MA) : ME := fun ρ => (mr ρ).bind fun p => dn F p.1 p.2
theorem call_post {F : List D → OV} {mr : MA} {es : List Expr} (hr : SndA X es mr) {e : Ent} {b : Nat} {as : List Addr} {Hi : Hp} {ρ : En} {σ : L2.St} {H : Hp} {R : VK} (S : SO X.K e b as Hi ρ σ H) (h : (mCall F mr ρ).All b (Post X.K e as Hi σ R)) :
    ArOk X es σ H fun xs H1 => ∃ Hi1, RAD X.K Hi1 F xs H1 R := by
  refine hr e b as Hi ρ σ H _ S ((T.all_bind.mp h).mono fun b1 p _ h1 vs H1 Hi1 as1 x1 S1 r1 => ?_)
  exact ⟨Hi1, dn_post S1 r1 (h1.mono fun _ _ _ z => z.ext x1)⟩
theorem snd_callB {F : List D → OV} {id : String} {x : Str} {r : List Expr} {mr : MA} {p : Pos} (hc : CallD X (.builtin id) F) (hg : Gl X x) (hm : X.mg x = none) (hv : bootBuiltins x = some (.builtin id)) (hr : SndA X (a :: r) mr) (hn : x ≠ "__name__") (hdb : (x == ("__debug__" : Str)) = false)
    (he : starEach (a :: r) X.env = (false, eval a X.env) :: starEach r X.env) (hpl : (backTo pos (starEach r X.env)).any (·.1) = false) : Snd X (.Call (.Name x p) (a :: r) [] pos) (mCall F mr) := fun e b as Hi ρ σ H R S h =>
  .of (pe_callB hc.E hg hm hv (pa_tA X _) hn hdb he hpl) (call_post hr S h)
theorem snd_callTy {F : List D → OV} {T : String} {x : Str} {r : List Expr} {mr : MA} {p : Pos} (hc : CallD X (.type T) F) (hg : Gl X x) (hm : X.mg x = none) (hv : bootBuiltins x = some (.type T)) (hr : SndA X (a :: r) mr) (hn : x ≠ "__name__") (hdb : (x == ("__debug__" : Str)) = false)
    (he : starEach (a :: r) X.env = (false, eval a X.env) :: starEach r X.env) (hpl : (backTo pos (starEach r X.env)).any (·.1) = false) : Snd X (.Call (.Name x p) (a :: r) [] pos) (mCall F mr) := fun e b as Hi ρ σ H R S h =>
  .of (pe_callTy hc.E hg hm hv (pa_tA X _) hn hdb he hpl) (call_post hr S h)
def mIsi (Tt : Ty) (ma : ME) : ME := mUn (fun d => .v (.bool (isiD Tt d))) ma
theorem snd_isi {Tt : Ty} {p p2 : Pos} (hx : Hx X) (hg : Gl X "isinstance") (hm : X.mg "isinstance" = none) (hg2 : Gl X Tt.name) (hm2 : X.mg Tt.name = none) (ha : Snd X a ma)
    (he : ∀ y, starEach [a, .Name y p2] X.env = (false, eval a X.env) :: starEach [.Name y p2] X.env) : Snd X (.Call (.Name "isinstance" p) [a, .Name Tt.name p2] [] pos) (mIsi Tt ma) := fun e b as Hi ρ σ H R S h => by
  have hE : CallR X (.builtin "isinstance") (fun xs H Q => ∃ Hi, Same Hi H ∧ ∃ x d, xs = [x, .ty Tt.name] ∧ Opd X.K Hi H x d ∧ OPost X.K Hi H Q (.v (.bool (isiD Tt d)))) := fun pins s σ H xs us Q I r ⟨Hi, q⟩ => call_isiD hx Tt Hi pins s σ H xs us Q I r q
  have hT : PE X (.Name Tt.name p2) (tC (.ty Tt.name)) := by
    cases Tt
    · exact pe_bltn hg2 hm2 boot_bool rfl (by decide) (by decide)
    · exact pe_bltn hg2 hm2 boot_int rfl (by decide) (by decide)
    · exact pe_bltn hg2 hm2 boot_str rfl (by decide) (by decide)
    · exact pe_bltn hg2 hm2 boot_list rfl (by decide) (by decide)
    · exact pe_bltn hg2 hm2 boot_tuple rfl (by decide) (by decide)
    · exact pe_bltn hg2 hm2 boot_dict rfl (by decide) (by decide)
  refine .of (pe_callB hE hg hm boot_isinstance (pa_cons (pe_tE X a) (pa_cons hT pa_nil) (he _)) (by decide) (by decide) (he _)) ?_
  refine ha e b as Hi ρ σ H _ S ((T.all_bind.mp h).mono fun b1 p _ h1 v H1 Hi1 as1 x1 S1 r1 => ?_)
  obtain ⟨d, od, q⟩ := d1_post S1 r1 (h1.mono fun _ _ _ z => z.ext x1)
  exact ⟨Hi1, S1.sub, v, d, rfl, od, q⟩
/-- a text's method -/
def mMeth (F : D → List D → OV) (ma : ME) (mr : MA) : ME := fun ρ => (ma ρ).bind fun p => match p.2.deref p.1 with
  | some (.str z) => (mr p.2).bind fun q => dn (F (.str z)) q.1 q.2
  | _ => .fail
theorem snd_meth {F : D → List D → OV} {id : String} {name : Str} {o : Expr} {mo : ME} {r : List Expr} {mr : MA} {apos : Pos} (hm : MtD X id F) (slot : Slot "str" name id) (hty : typeOf (.builtin id) = pure (.type "method_descriptor")) (ho : Snd X o mo) (hr : SndA X (a :: r) mr)
    (hbase : attributeBase o name X.env (eval o X.env) = eval o X.env)
    (hfew : ((backTo pos (starEach (a :: r) X.env)).all (fun x => !x.1) && (backToKw pos (keywordEach [] X.env)).all (fun x => x.1.isSome)
      && decide ((a :: r).length + ([] : List Keyword).length + (if ([] : List Keyword).isEmpty then 0 else 1) < 30)) = true)
    (hline : (apos.endLine == pos.line) = true) (hs : starEach (a :: r) X.env = (false, eval a X.env) :: starEach r X.env) (hpl : (backTo pos (starEach r X.env)).any (·.1) = false) :
    Snd X (.Call (.Attribute o name apos) (a :: r) [] pos) (mMeth F mo mr) := fun e b as Hi ρ σ H R S h => by
  have hE : MtR X id (fun x xs H Q => ∃ Hi, RMD X.K Hi F x xs H Q) := fun pins s σ H x xs v us Q I rx rs ⟨Hi, q⟩ => hm Hi pins s σ H x xs v us Q I rx rs q
  refine .of (pe_bm PySem.F.plainAttrs_str slot hty hE (pe_tE X o) (pa_tA X _) hbase hfew hline hs hpl) ?_
  refine ho e b as Hi ρ σ H _ S ((T.all_bind.mp h).mono fun b1 p _ h1 v H1 Hi1 as1 x1 S1 r1 => ?_)
  split at h1
  · rename_i z hz
    have oz := S1.opd r1 hz
    cases oz.str_
    refine ⟨rfl, ?_⟩
    refine hr e b1 as1 Hi1 p.2 σ H1 _ S1 ((T.all_bind.mp h1).mono fun b2 q _ h2 us H2 Hi2 as2 x2 S2 r2 => ?_)
    have h3 := dn_post S2 r2 (h2.mono fun _ _ _ z => z.ext (x1.trans x2))
    obtain ⟨sub, ds, os, post⟩ := h3
    exact ⟨Hi2, sub, .str z, ds, .val (.str z), os, post⟩
  · exact h1.elim
end
end Wk

/-! Wk5: targets, what is walked, comprehensions. -/
namespace Wk
open PySem PySem.Spec PyProof.Rows L2
variable [Ctx]

/-! ### targets -/
mutual
inductive Tg where
  | nm (i : Nat)
  | tp (ts : Tgs)
inductive Tgs where
  | nil
  | cons (t : Tg) (ts : Tgs)
end
mutual
def Tg.set : Tg → D → En → Option En
  | .nm i, d, ρ => some (ρ.set i (.val d))
  | .tp ts, .tuple ds, ρ => ts.set ds ρ
  | .tp ts, .list ds, ρ => ts.set ds ρ
  | .tp _, _, _ => none
def Tgs.set : Tgs → List D → En → Option En
  | .nil, [], ρ => some ρ
  | .cons t ts, d :: ds, ρ => match t.set d ρ with
    | some ρ1 => ts.set ds ρ1
    | none => none
  | _, _, _ => none
end
mutual
def Tg.slots : Tg → List Nat
  | .nm i => [i]
  | .tp ts => ts.slots
def Tgs.slots : Tgs → List Nat
  | .nil => []
  | .cons t ts => t.slots ++ ts.slots
end
def GOk (X : Cx) (tg : Expr) (v : V) (σ : L2.St) (H : Hp) (Q : L2.St → Hp → Prop) : Prop := ∀ pins s u, Inv X pins σ H s → RelV v u → wpAny (model X.prog X.w) X.A (assign tg X.env u) (fun _ s' => ∃ σ' H', Inv X pins σ' H' s' ∧ Q σ' H') X.xe s
def tG (X : Cx) (tg : Expr) : TG := fun v σ H Q => GOk X tg v σ H Q
theorem pg_tG {X : Cx} (tg : Expr) : PG X tg (tG X tg) := ⟨fun pins s σ H v u Q I r h => h pins s u I r⟩
def GsOk (X : Cx) (ts : List Expr) (vs : List V) (σ : L2.St) (H : Hp) (Q : L2.St → Hp → Prop) : Prop := ∀ pins s us, Inv X pins σ H s → Vals vs us → wpAny (model X.prog X.w) X.A (assignInOrder ((assignEach ts X.env).map (·.2)) us) (fun _ s' => ∃ σ' H', Inv X pins σ' H' s' ∧ Q σ' H') X.xe s
def tGs (X : Cx) (ts : List Expr) : TGs := fun vs σ H Q => GsOk X ts vs σ H Q
theorem pgs_tGs {X : Cx} (ts : List Expr) : PGs X ts (tGs X ts) := ⟨fun pins s σ H vs us Q I r h => h pins s us I r⟩
/-- only these slots differ -/
def Only (is : List Nat) (σ σ' : L2.St) : Prop := ∀ vs : List Nat, (∀ i ∈ is, i ∈ vs) → wipe σ' vs = wipe σ vs
def SndG (X : Cx) (ex : Expr) (g : Tg) : Prop := ∀ e b as Hi ρ ρ' σ H v d Q, SO X.K e b as Hi ρ σ H → Rp X.K Hi v d → g.set d ρ = some ρ' → (∀ σ', SO X.K e b as Hi ρ' σ' H → Only g.slots σ σ' → Q σ' H) → GOk X ex v σ H Q
def SndGs (X : Cx) (es : List Expr) (g : Tgs) : Prop := ∀ e b as Hi ρ ρ' σ H vs ds Q, SO X.K e b as Hi ρ σ H → Rps X.K Hi vs ds → g.set ds ρ = some ρ' → (∀ σ', SO X.K e b as Hi ρ' σ' H → Only g.slots σ σ' → Q σ' H) → GsOk X es vs σ H Q
theorem wipe_set {i : Nat} {x : Option V} : ∀ {vs : List Nat} {σ : L2.St}, i ∈ vs → wipe (σ.set i x) vs = wipe σ vs
  | v :: vs, σ, h => by
    by_cases hv : i ∈ vs
    · show (wipe (σ.set i x) vs).set v none = (wipe σ vs).set v none
      rw [wipe_set hv]
    · have hi : i = v := by
        rcases List.mem_cons.mp h with z | z
        · exact z
        · exact absurd z hv
      subst hi
      have comm : ∀ (ws : List Nat) (τ : L2.St), i ∉ ws → wipe (τ.set i x) ws = (wipe τ ws).set i x := by
        intro ws
        induction ws with
        | nil => intro τ _; rfl
        | cons w ws ih =>
          intro τ hn
          show (wipe (τ.set i x) ws).set w none = ((wipe τ ws).set w none).set i x
          rw [ih τ fun z => hn (List.mem_cons_of_mem _ z)]
          exact List.set_comm _ _ (fun z => hn (z ▸ List.mem_cons_self))
      show (wipe (σ.set i x) vs).set i none = (wipe σ vs).set i none
      rw [comm vs σ hv, List.set_set]
theorem Only.refl (is : List Nat) (σ : L2.St) : Only is σ σ := fun _ _ => rfl
theorem Only.trans {is js : List Nat} {σ σ1 σ2 : L2.St} (h : Only is σ σ1) (k : Only js σ1 σ2) : Only (is ++ js) σ σ2 := fun vs hv =>
  (k vs fun i hi => hv i (List.mem_append_right _ hi)).trans (h vs fun i hi => hv i (List.mem_append_left _ hi))
section
variable {X : Cx} {pos : Pos}
theorem sndG_name {i : Nat} {x : Str} (hN : X.N.Nodup) (hi : X.N[i]? = some x) (hx : Loc X.env.scope x) (hf : X.fn x = true ∨ X.env.scope.names.lookup x = some .local) : SndG X (.Name x pos) (.nm i) := by
  intro e b as Hi ρ ρ' σ H v d Q S r h q
  cases h
  intro pins s u I ru
  exact (pg_name hN hi hx hf).run pins s σ H v u Q I ru (q _ (S.set (r := .val d) r) fun vs hv => wipe_set (hv i (by simp [Tg.slots])))
theorem sndGs_nil : SndGs X [] .nil := by
  intro e b as Hi ρ ρ' σ H vs ds Q S r h q
  cases r with
  | nil =>
    cases h
    exact fun pins s us I rv => pgs_nil.run pins s σ H [] us Q I rv ⟨rfl, q σ S (Only.refl _ _)⟩
  | cons _ _ => cases h
theorem sndGs_cons {ex : Expr} {es : List Expr} {g : Tg} {gs : Tgs} (h1 : SndG X ex g) (h2 : SndGs X es gs) (hs : (assignEach (ex :: es) X.env).map (·.2) = assign ex X.env :: (assignEach es X.env).map (·.2)) : SndGs X (ex :: es) (.cons g gs) := by
  intro e b as Hi ρ ρ' σ H vs ds Q S r h q
  cases r with
  | nil => cases h
  | cons rv rr =>
    simp only [Tgs.set] at h
    split at h
    · rename_i ρ1 h0
      refine fun pins s us I rvs => (pgs_cons (pg_tG ex) (pgs_tGs es) hs).run pins s σ H _ us Q I rvs ⟨_, _, rfl, ?_⟩
      refine h1 e b as Hi ρ ρ1 σ H _ _ _ S rv h0 fun σ1 S1 o1 => ?_
      exact h2 e b as Hi ρ1 ρ' σ1 H _ _ Q S1 rr h fun σ2 S2 o2 => q σ2 S2 (o1.trans o2)
    · cases h
/-- a tuple or a list, taken apart -/
theorem gs_opd {es : List Expr} {gs : Tgs} {k : Nat} (hc : X.calm = true) (h : SndGs X es gs) (hn : (assignEach es X.env).length = es.length) (hst : (assignEach es X.env).findIdx? (·.1) = none) (hl : ∀ ds ρ ρ', gs.set ds ρ = some ρ' → ds.length = es.length)
    {e : Ent} {b : Nat} {as : List Addr} {Hi : Hp} {ρ ρ' : En} {σ : L2.St} {H : Hp} {v : V} {d : D} {Q : L2.St → Hp → Prop} (S : SO X.K e b as Hi ρ σ H) (r : Opd X.K Hi H v d) (q0 : (Tg.tp gs).set d ρ = some ρ')
    (q : ∀ σ', SO X.K e b as Hi ρ' σ' H → Only gs.slots σ σ' → Q σ' H) : GOk X (.Tuple es k pos) v σ H Q := by
  cases d with
  | tuple ds =>
    obtain ⟨a, xs, rfl, hx, rs, _⟩ := r.tuple_ S.sub
    have q0 : gs.set ds ρ = some ρ' := q0
    exact fun pins s u I ru => (pg_tup hc (pgs_tGs es) hn hst).run pins s σ H _ u Q I ru ⟨a, xs, rfl, hx, by rw [rs.length]; exact hl _ _ _ q0, h e b as Hi ρ ρ' σ H xs ds Q S rs q0 q⟩
  | list ds =>
    obtain ⟨a, xs, rfl, hx, rs⟩ := r.list_ S.sub
    have q0 : gs.set ds ρ = some ρ' := q0
    exact fun pins s u I ru => (pg_lst hc (pgs_tGs es) hn hst).run pins s σ H _ u Q I ru ⟨a, xs, rfl, SqL.of hx, by rw [rs.length]; exact hl _ _ _ q0, h e b as Hi ρ ρ' σ H xs ds Q S rs q0 q⟩
  | _ => cases q0
theorem sndG_tup {es : List Expr} {gs : Tgs} {k : Nat} (hc : X.calm = true) (h : SndGs X es gs) (hn : (assignEach es X.env).length = es.length) (hst : (assignEach es X.env).findIdx? (·.1) = none) (hl : ∀ ds ρ ρ', gs.set ds ρ = some ρ' → ds.length = es.length) :
    SndG X (.Tuple es k pos) (.tp gs) := fun e b as Hi ρ ρ' σ H v d Q S r q0 q => gs_opd hc h hn hst hl S (.val r) q0 q
end

/-! ### what is walked -/
/-! ### a dict locked while it is walked -/
/-- the dict at a is the very object o -/
def lkH (a : Addr) (o : Obj) (H : Hp) : Hp := fun b => if b = a then (match H b with
  | some (.dK kvs) => some (.frz o (.dK kvs))
  | x => x) else H b
def lkE (a : Addr) (o : Obj) (e : Ent) : Ent := ⟨lkH a o e.Hi, lkH a o e.H, e.pp, e.ins⟩
section
variable {K : PySem.W.Frag} {a : Addr} {o : Obj} {H H' : Hp} {kvs : List (Key × V)}
theorem lk_at (h : H a = some (.dK kvs)) : lkH a o H a = some (.frz o (.dK kvs)) := by unfold lkH; rw [if_pos rfl, h]
theorem lk_ne {b : Addr} (h : b ≠ a) : lkH a o H b = H b := by unfold lkH; rw [if_neg h]
theorem lk_nd {b : Addr} {u : HO} (n : ∀ kvs, u ≠ .dK kvs) (h : H b = some u) : lkH a o H b = some u := by
  by_cases e : b = a
  · unfold lkH
    rw [if_pos e, h]
    cases u <;> first | rfl | exact absurd rfl (n _)
  · rw [lk_ne e]; exact h
theorem lk_none {b : Addr} : lkH a o H b = none ↔ H b = none := by
  by_cases e : b = a
  · unfold lkH
    rw [if_pos e]
    cases h : H b with
    | none => simp
    | some u => cases u <;> simp
  · rw [lk_ne e]
theorem lk_some {b : Addr} {u : HO} (h : H b = some u) : ∃ u', lkH a o H b = some u' := by
  cases q : lkH a o H b with
  | some u' => exact ⟨u', rfl⟩
  | none => rw [lk_none.mp q] at h; cases h
theorem lk_same (s : Same H H') : Same (lkH a o H) (lkH a o H') := fun b u h => by
  by_cases e : b = a
  · subst e
    cases q : H b with
    | none => rw [lk_none.mpr q] at h; cases h
    | some w =>
      unfold lkH at h ⊢
      rw [if_pos rfl, q] at h
      rw [if_pos rfl, s _ _ q]
      exact h
  · rw [lk_ne e] at h ⊢; exact s _ _ h
theorem lk_upd (h : H a = some (.dK kvs)) : lkH a o H = upd H a (.frz o (.dK kvs)) := by
  funext b
  by_cases e : b = a
  · subst e; rw [lk_at h, upd_same]
  · rw [lk_ne e, upd_ne e]
theorem lk_rd {b : Addr} {u : HO} (h : Rd H b u) : Rd (lkH a o H) b u := by
  rcases h with h | ⟨o', h⟩
  · by_cases n : ∃ kvs, u = .dK kvs
    · obtain ⟨kvs, rfl⟩ := n
      by_cases e : b = a
      · subst e; exact .inr ⟨o, lk_at h⟩
      · exact .inl (by rw [lk_ne e]; exact h)
    · exact .inl (lk_nd (fun k e => n ⟨k, e⟩) h)
  · exact .inr ⟨o', lk_nd (fun _ => nofun) h⟩
theorem lk_sqT {b : Addr} {xs : List V} (h : SqT K H b xs) : SqT K (lkH a o H) b xs := h.imp lk_rd id
theorem lk_lst {b : Addr} {xs : List V} (h : H b = some (.lst xs)) : lkH a o H b = some (.lst xs) := lk_nd (fun _ => nofun) h
theorem lk_dt {b : Addr} {L : TL} (h : H b = some (dtO b L)) : lkH a o H b = some (dtO b L) := lk_nd (fun _ => nofun) h
mutual
theorem Rp.lk : ∀ {v : V} {d : D}, Rp K H v d → Rp K (lkH a o H) v d
  | _, _, .non => .non
  | _, _, .bl b => .bl b
  | _, _, .int i => .int i
  | _, _, .str x => .str x
  | _, _, .lst h r => .lst (lk_lst h) r.lk
  | _, _, .tup h r => .tup (lk_sqT h) r.lk
  | _, _, .dik h r => .dik (lk_rd h) r.lk
  | _, _, .dit h r n => .dit (lk_dt h) r.lk n
theorem Rps.lk : ∀ {vs : List V} {ds : List D}, Rps K H vs ds → Rps K (lkH a o H) vs ds
  | _, _, .nil => .nil
  | _, _, .cons h r => .cons h.lk r.lk
theorem Rpk.lk : ∀ {vs : List (Key × V)} {ds : List (D × D)}, Rpk K H vs ds → Rpk K (lkH a o H) vs ds
  | _, _, .nil => .nil
  | _, _, .cons h r => .cons h.lk r.lk
theorem RpT.lk : ∀ {vs : TL} {ds : List (D × D)}, RpT K H vs ds → RpT K (lkH a o H) vs ds
  | _, _, .nil => .nil
  | _, _, .cons q h r => .cons (lk_sqT q) h.lk r.lk
end
theorem ul_ne {b : Addr} {u : HO} (hl : H a = some (.frz o (.dK kvs))) (n : u ≠ .frz o (.dK kvs)) (h : H b = some u) : upd H a (.dK kvs) b = some u := by
  have e : b ≠ a := fun z => by rw [z, hl] at h; exact n (Option.some.inj h).symm
  rw [upd_ne e]; exact h
theorem ul_rd {b : Addr} {u : HO} (hl : H a = some (.frz o (.dK kvs))) (n : ∀ o' w, u ≠ .frz o' w) (h : Rd H b u) : Rd (upd H a (.dK kvs)) b u := by
  rcases h with h | ⟨o', h⟩
  · exact .inl (ul_ne hl (n _ _) h)
  · by_cases e : b = a
    · subst e
      rw [hl] at h
      cases h
      exact .inl upd_same
    · exact .inr ⟨o', by rw [upd_ne e]; exact h⟩
theorem ul_sqT {b : Addr} {xs : List V} (hl : H a = some (.frz o (.dK kvs))) (h : SqT K H b xs) : SqT K (upd H a (.dK kvs)) b xs := h.imp (ul_rd hl fun _ _ => nofun) id
theorem ul_lst {b : Addr} {xs : List V} (hl : H a = some (.frz o (.dK kvs))) (h : H b = some (.lst xs)) : upd H a (.dK kvs) b = some (.lst xs) := ul_ne hl nofun h
theorem ul_dt {b : Addr} {L : TL} (hl : H a = some (.frz o (.dK kvs))) (h : H b = some (dtO b L)) : upd H a (.dK kvs) b = some (dtO b L) := ul_ne hl nofun h
theorem ul_dk {b : Addr} {kws : List (Key × V)} (hl : H a = some (.frz o (.dK kvs))) (h : Rd H b (.dK kws)) : Rd (upd H a (.dK kvs)) b (.dK kws) := ul_rd hl (fun _ _ => nofun) h
mutual
theorem Rp.ul (hl : H a = some (.frz o (.dK kvs))) : ∀ {v : V} {d : D}, Rp K H v d → Rp K (upd H a (.dK kvs)) v d
  | _, _, .non => .non
  | _, _, .bl b => .bl b
  | _, _, .int i => .int i
  | _, _, .str x => .str x
  | _, _, .lst h r => .lst (ul_lst hl h) (r.ul hl)
  | _, _, .tup h r => .tup (ul_sqT hl h) (r.ul hl)
  | _, _, .dik h r => .dik (ul_dk hl h) (r.ul hl)
  | _, _, .dit h r n => .dit (ul_dt hl h) (r.ul hl) n
theorem Rps.ul (hl : H a = some (.frz o (.dK kvs))) : ∀ {vs : List V} {ds : List D}, Rps K H vs ds → Rps K (upd H a (.dK kvs)) vs ds
  | _, _, .nil => .nil
  | _, _, .cons h r => .cons (h.ul hl) (r.ul hl)
theorem Rpk.ul (hl : H a = some (.frz o (.dK kvs))) : ∀ {vs : List (Key × V)} {ds : List (D × D)}, Rpk K H vs ds → Rpk K (upd H a (.dK kvs)) vs ds
  | _, _, .nil => .nil
  | _, _, .cons h r => .cons (h.ul hl) (r.ul hl)
theorem RpT.ul (hl : H a = some (.frz o (.dK kvs))) : ∀ {vs : TL} {ds : List (D × D)}, RpT K H vs ds → RpT K (upd H a (.dK kvs)) vs ds
  | _, _, .nil => .nil
  | _, _, .cons q h r => .cons (ul_sqT hl q) (h.ul hl) (r.ul hl)
end
end
section
variable {K : PySem.W.Frag} {e : Ent} {b : Nat} {as : List Addr} {Hi H : Hp} {ρ : En} {σ : L2.St} {a : Addr} {o : Obj} {kvs : List (Key × V)}
theorem RvOk.lk {v : V} {r : Rv} (h : RvOk K e Hi as v r) : RvOk K (lkE a o e) (lkH a o Hi) as v r := by
  cases r with
  | val d => exact Rp.lk h
  | res k => exact h
  | pen => exact h
  | scr => obtain ⟨c, ns, h1, h2, h3⟩ := h; exact ⟨c, ns, h1, h2.imp lk_rd id, h3⟩
  | fn j => exact h
theorem RvOk.ul (hl : Hi a = some (.frz o (.dK kvs))) {v : V} {r : Rv} (h : RvOk K (lkE a o e) Hi as v r) : RvOk K e (upd Hi a (.dK kvs)) as v r := by
  cases r with
  | val d => exact Rp.ul hl h
  | res k => exact h
  | pen => exact h
  | scr => obtain ⟨c, ns, h1, h2, h3⟩ := h; exact ⟨c, ns, h1, h2.imp (ul_rd hl (fun _ _ => nofun)) id, h3⟩
  | fn j => exact h
theorem OwnAt.lk {c : Addr} {d : D} (n : c ≠ a) (h : OwnAt K Hi H c d) : OwnAt K (lkH a o Hi) (lkH a o H) c d := by
  cases h with
  | lst q r => exact .lst (by rw [lk_ne n]; exact q) r.lk
  | dik q r => exact .dik (by rw [lk_ne n]; exact q) r.lk
  | dkt q r z => exact .dkt (by rw [lk_ne n]; exact q) r.lk z
theorem OwnAt.ul {c : Addr} {d : D} (hl : Hi a = some (.frz o (.dK kvs))) (n : c ≠ a) (h : OwnAt K Hi H c d) : OwnAt K (upd Hi a (.dK kvs)) (upd H a (.dK kvs)) c d := by
  cases h with
  | lst q r => exact .lst (by rw [upd_ne n]; exact q) (r.ul hl)
  | dik q r => exact .dik (by rw [upd_ne n]; exact q) (r.ul hl)
  | dkt q r z => exact .dkt (by rw [upd_ne n]; exact q) (r.ul hl) z
theorem SO.lock (S : SO K e b as Hi ρ σ H) (h : Hi a = some (.dK kvs)) : SO K (lkE a o e) b as (lkH a o Hi) ρ σ (lkH a o H) := by
  have na : ∀ {c}, Hi c = none → c ≠ a := fun {c} q z => by rw [z, h] at q; cases q
  refine ⟨lk_same S.sub, S.len, fun i r q => ?_, S.alen, fun k x c hx hc => ?_, S.nd, fun c hc => (S.wr c hc).imp lk_none.mpr id, S.pre, fun p hp => ?_, lk_same S.old, fun c u h1 h2 h3 => ?_, fun c u q => ?_, S.bud⟩
  · obtain ⟨v, h1, h2⟩ := S.slt i r q
    exact ⟨v, h1, h2.lk⟩
  · have := S.res k x c hx hc
    obtain ⟨d, fl⟩ := x
    cases fl with
    | true => obtain ⟨h1, u, h2⟩ := this; exact ⟨h1.lk, lk_some h2⟩
    | false => obtain ⟨h1, h2⟩ := this; exact ⟨h1.lk (na h2), lk_none.mpr h2⟩
  · obtain ⟨⟨c, ns, k, l, h1, h2, h3⟩, q1, q2⟩ := S.penok p hp
    exact ⟨⟨c, ns, k, l, by rw [lk_ne (na q1)]; exact h1, lk_nd (fun _ => nofun) h2, h3⟩, lk_none.mpr q1, q2⟩
  · have key : ∀ w, e.H c = some w → H c = some w := fun w q => S.same c w q h2 h3
    cases q : e.H c with
    | none => rw [show (lkE a o e).H c = none from lk_none.mpr q] at h1; cases h1
    | some w =>
      have q2 := key w q
      have h1 : lkH a o e.H c = some u := h1
      unfold lkH at h1 ⊢
      rw [q] at h1
      rw [q2]; exact h1
  · cases q2 : Hi c with
    | none => rw [lk_none.mpr q2] at q; cases q
    | some w =>
      rcases S.newi c w q2 with z | z | z
      · left
        show lkH a o e.Hi c = some u
        unfold lkH at q ⊢
        rw [q2] at q
        rw [z]; exact q
      · exact .inr (.inl (lk_none.mpr z))
      · exact .inr (.inr z)
theorem SO.unlock {b0 : Nat} {as0 : List Addr} {Hi0 H0 : Hp} {ρ0 : En} {σ0 : L2.St} (S0 : SO K e b0 as0 Hi0 ρ0 σ0 H0) (h : Hi0 a = some (.dK kvs)) (x : Ext (lkH a o Hi0) as0 Hi as) (S : SO K (lkE a o e) b as Hi ρ σ H) :
    Hi a = some (.frz o (.dK kvs)) ∧ H a = some (.frz o (.dK kvs)) ∧ Ext Hi0 as0 (upd Hi a (.dK kvs)) as ∧ SO K e b as (upd Hi a (.dK kvs)) ρ σ (upd H a (.dK kvs)) := by
  have hl : Hi a = some (.frz o (.dK kvs)) := x.hi _ _ (lk_at h)
  have hl2 := S.sub _ _ hl
  have na : ∀ {c}, Hi c = none → c ≠ a := fun {c} q z => by rw [z, hl] at q; cases q
  have noneU : ∀ {G : Hp} {c : Addr}, c ≠ a → G c = none → upd G a (.dK kvs) c = none := fun {G c} n q => by rw [upd_ne n]; exact q
  refine ⟨hl, hl2, ⟨fun c u q => ?_, x.as⟩, ⟨fun c u q => ?_, S.len, fun i r q => ?_, S.alen, fun k y c hy hc => ?_, S.nd, fun c hc => (S.wr c hc).imp lk_none.mp id, S.pre, fun p hp => ?_, fun c u q => ?_, fun c u h1 h2 h3 => ?_, fun c u q => ?_, S.bud⟩⟩
  · by_cases n : c = a
    · subst n; rw [h] at q; cases q; exact upd_same
    · rw [upd_ne n]; exact x.hi _ _ (by rw [lk_ne n]; exact q)
  · by_cases n : c = a
    · subst n; rw [upd_same] at q ⊢; exact q
    · rw [upd_ne n] at q ⊢; exact S.sub _ _ q
  · obtain ⟨v, h1, h2⟩ := S.slt i r q
    exact ⟨v, h1, h2.ul hl⟩
  · have := S.res k y c hy hc
    obtain ⟨d, fl⟩ := y
    cases fl with
    | true =>
      obtain ⟨h1, u, h2⟩ := this
      refine ⟨h1.ul hl, ?_⟩
      by_cases n : c = a
      · subst n; exact ⟨_, upd_same⟩
      · exact ⟨u, by rw [upd_ne n]; exact h2⟩
    | false => obtain ⟨h1, h2⟩ := this; exact ⟨h1.ul hl (na h2), noneU (na h2) h2⟩
  · obtain ⟨⟨c, ns, k, l, h1, h2, h3⟩, q1, q2⟩ := S.penok p hp
    exact ⟨⟨c, ns, k, l, by rw [upd_ne (na q1)]; exact h1, ul_ne hl nofun h2, h3⟩, noneU (na q1) q1, q2⟩
  · by_cases n : c = a
    · subst n
      have := S0.old _ _ q
      rw [h] at this
      cases this
      exact upd_same
    · rw [upd_ne n]; exact S.old _ _ (show lkH a o e.Hi c = some u by rw [lk_ne n]; exact q)
  · by_cases n : c = a
    · subst n
      have := S0.same _ _ h1 h2 h3
      rw [S0.sub _ _ h] at this
      cases this
      exact upd_same
    · rw [upd_ne n]; exact S.same c u (show lkH a o e.H c = some u by rw [lk_ne n]; exact h1) h2 h3
  · by_cases n : c = a
    · subst n
      rw [upd_same] at q
      cases q
      exact S0.newi _ _ h
    · rw [upd_ne n] at q
      rcases S.newi c u q with z | z | z
      · have z : lkH a o e.Hi c = some u := z
        rw [lk_ne n] at z; exact .inl z
      · exact .inr (.inl (lk_none.mp z))
      · exact .inr (.inr z)
end
/-- what holds, the dict unlocked again -/
def ULR (X : Cx) (R : VK) : VK := fun v H => R v H ∨ ∃ a o kvs, H a = some (.frz o (.dK kvs)) ∧ (∀ o' u', X.H_0 a ≠ some (.frz o' u')) ∧ R v (upd H a (.dK kvs))
theorem EvOk.unl {X : Cx} {ex : Expr} {σ : L2.St} {H : Hp} {R : VK} (h : EvOk X ex σ H (ULR X R)) : EvOk X ex σ H R := fun pins s I => by
  refine thn (h pins s I) fun v s1 ⟨x, H1, I1, r, q⟩ => ?_
  rcases q with q | ⟨a, o, kvs, ha, nf, q⟩
  · exact ⟨x, H1, I1, r, q⟩
  · exact ⟨x, _, I1.unlock ha nf, r, q⟩
theorem Post.unl {X : Cx} {e : Ent} {b0 : Nat} {as0 : List Addr} {Hi0 H0 : Hp} {ρ0 : En} {σ0 σ : L2.St} {a : Addr} {o : Obj} {kvs : List (Key × V)} {R : VK} (S0 : SO X.K e b0 as0 Hi0 ρ0 σ0 H0) (h : Hi0 a = some (.dK kvs)) (nf : ∀ o' u', X.H_0 a ≠ some (.frz o' u')) {b' : Nat} {p : Rv × En}
    (q : Post X.K e as0 Hi0 σ R b' p) : Post X.K (lkE a o e) as0 (lkH a o Hi0) σ (ULR X R) b' p := fun v H' Hi' as' x S rv => by
  obtain ⟨h1, h2, h3, h4⟩ := S0.unlock h x S
  exact .inr ⟨a, o, kvs, h2, nf, q v _ _ as' h3 h4 (rv.ul h1)⟩
theorem Post.inl {X : Cx} {e : Ent} {as : List Addr} {Hi : Hp} {σ : L2.St} {R : VK} {b' : Nat} {p : Rv × En} (q : Post X.K e as Hi σ R b' p) : Post X.K e as Hi σ (ULR X R) b' p := fun v H' Hi' as' x S rv => .inl (q v H' Hi' as' x S rv)
abbrev MI := En → T (List D × En)
def ItOk (X : Cx) (tg ex : Expr) (σ : L2.St) (H : Hp) (R : It → Hp → Prop) : Prop := ∀ pins s, Inv X pins σ H s → wpAny (model X.prog X.w) X.A (eval ex X.env) (fun v s1 => wpAny (model X.prog X.w) X.A (pyIter v) (PIE X pins σ tg R) X.xe s1) X.xe s
def tI (X : Cx) (tg ex : Expr) : TI := fun σ H R => ItOk X tg ex σ H R
theorem pi_tI {X : Cx} (tg ex : Expr) : PI X tg ex (tI X tg ex) := ⟨fun pins s σ H R I h => h pins s I⟩
/-- the turns give these data, one after the other -/
structure Walks (K : PySem.W.Frag) (Hi : Hp) (J : It) (ds : List D) : Prop where
  sz : ds.length ≤ sizeLine
  go : ∀ Hi' H' i, Same Hi Hi' → Same Hi' H' → i < ds.length → J.go i H'
  stop : ∀ Hi' H' i, Same Hi Hi' → Same Hi' H' → ds.length ≤ i → J.stop i H'
  yld : ∀ Hi' H' i d x H3, Same Hi Hi' → Same Hi' H' → ds[i]? = some d → J.yld i H' x H3 → ∃ Hi3, Gr Hi' H' Hi3 H3 ∧ Rp K Hi3 x d
def PostI (K : PySem.W.Frag) (e : Ent) (as : List Addr) (Hi : Hp) (σ : L2.St) (R : It → Hp → Prop) : Nat → List D × En → Prop := fun b' p =>
  ∀ J H' Hi' as', Ext Hi as Hi' as' → SO K e b' as' Hi' p.2 σ H' → Walks K Hi' J p.1 → R J H'
/-- .. as it is, or with the walked dict locked -/
def PostL (X : Cx) (e : Ent) (as : List Addr) (Hi : Hp) (σ : L2.St) (R : It → Hp → Prop) : Nat → List D × En → Prop := fun b' p =>
  PostI X.K e as Hi σ R b' p ∧ ∀ J H' Hi' as' a o kvs, Ext Hi as Hi' as' → SO X.K e b' as' Hi' p.2 σ H' → Hi' a = some (.dK kvs) → (∀ o' u', X.H_0 a ≠ some (.frz o' u')) → Walks X.K (lkH a o Hi') J p.1 → R J (lkH a o H')
def SndI (X : Cx) (tg ex : Expr) (m : MI) : Prop := ∀ e b as Hi ρ σ H R, SO X.K e b as Hi ρ σ H → (m ρ).All b (PostL X e as Hi σ R) → ItOk X tg ex σ H R
theorem SndI.of {X : Cx} {tg ex : Expr} {m : MI} (h : ∀ e b as Hi ρ σ H R, SO X.K e b as Hi ρ σ H → (m ρ).All b (PostI X.K e as Hi σ R) → ItOk X tg ex σ H R) : SndI X tg ex m := fun e b as Hi ρ σ H R S q => h e b as Hi ρ σ H R S (q.mono fun _ _ _ z => z.1)
section
variable {X : Cx} {tg ex : Expr}
def walkD : D → Option (List D)
  | .list ds => some ds
  | .tuple ds => some ds
  | .str z => if z.length ≤ sizeLine then some (signs z) else none
  | .dict es => if unm es then some (es.map (·.1)) else none
  | _ => none
def isDk : D → Bool
  | .dict _ => true
  | _ => false
theorem it_value {σ : L2.St} {H : Hp} {R : It → Hp → Prop} (h : EvOk X ex σ H fun x H1 => ∃ Hi1 d ds, Same Hi1 H1 ∧ Rp X.K Hi1 x d ∧ walkD d = some ds ∧ (∀ J, Walks X.K Hi1 J ds → R J H1) ∧ ∀ J a o kvs, Hi1 a = some (.dK kvs) → (∀ o' u', X.H_0 a ≠ some (.frz o' u')) → Walks X.K (lkH a o Hi1) J ds → R J (lkH a o H1)) : ItOk X tg ex σ H R := by
  intro pins s I
  refine thn (h pins s I) fun v s1 ⟨x, H1, I1, r1, Hi1, d, ds, sub, rp, hw, q, qL⟩ => ?_
  cases d with
  | dict es =>
    simp only [walkD] at hw
    split at hw
    case isFalse => cases hw
    rename_i hm
    cases hw
    cases rp with
    | dit q0 r n => rw [r.unm n] at hm; cases hm
    | @dik a kvs _ hx rk =>
      cases r1
      have walks : ∀ {Hj : Hp} {od : Obj}, Hj a = some (.frz od (.dK kvs)) → kvs.length ≤ sizeLine → Walks X.K Hj (Itk a od kvs) (es.map (·.1)) := fun {Hj od} hj hz => by
        have hl : (es.map (·.1)).length = kvs.length := by rw [List.length_map, rk.length]
        refine ⟨by rw [hl]; exact hz, fun Hi' H' i s1 s2 hi => ⟨s2 _ _ (s1 _ _ hj), by rw [← hl]; exact hi⟩, fun Hi' H' i s1 s2 hi => ⟨s2 _ _ (s1 _ _ hj), by rw [← hl]; exact hi⟩, fun Hi' H' i d x H3 s1 s2 hd hy => ?_⟩
        obtain ⟨rfl, k, w, hk, rfl⟩ := hy
        have e : d = kD k := by
          have : ∀ {l1 : List (Key × V)} {l2 : List (D × D)} (i : Nat), Rpk X.K Hi1 l1 l2 → l1[i]? = some (k, w) → (l2.map (·.1))[i]? = some d → d = kD k := by
            intro l1 l2 i r
            induction i generalizing l1 l2 with
            | zero =>
              cases r with
              | nil => intro h; cases h
              | cons h t => intro h1 h2; cases h1; cases h2; rfl
            | succ i ih =>
              cases r with
              | nil => intro h; cases h
              | cons h t => intro h1 h2; exact ih t h1 h2
          exact this i rk hk hd
        subst e
        exact ⟨Hi', Gr.refl s2, by cases k with | inl i => exact .int i | inr x => exact .str x⟩
      rcases hx with hx | ⟨od, hx⟩
      · have h1 := sub _ _ hx
        obtain ⟨z, _⟩ := (show ObjOk X.prog X.w H1 s1.heap a (.dK kvs) from I1.hok a _ h1)
        obtain ⟨od, I2⟩ := I1.lock h1 trivial
        have q2 := qL (Itk a od kvs) a od kvs hx (I1.nofrz h1 trivial) (walks (lk_at hx) z)
        rw [lk_upd h1] at q2
        obtain ⟨hs, hgd, hex, es', ep', vs, hdt, hsz, kv, hmm⟩ := I2.frzK upd_same
        refine iter_keys hs hgd hex hdt (pi_one (tk := s1.toks) I2 _ (turn_keys _ hdt) ⟨_, Heap.get?_push_size _ rfl, rfl, ?_⟩ q2)
        rw [hsz] <;> rfl
      · have h1 := sub _ _ hx
        obtain ⟨hs, hgd, hex, es', ep', vs, hdt, hsz, kv, hmm⟩ := I1.frzK h1
        obtain ⟨z, _⟩ := dk_rd I1.hok (.inr ⟨od, h1⟩)
        refine iter_keys hs hgd hex hdt (pi_one (tk := s1.toks) I1 _ (turn_keys _ hdt) ⟨_, Heap.get?_push_size _ rfl, rfl, ?_⟩ (q _ (walks hx z)))
        rw [hsz] <;> rfl
  | list es =>
    cases hw
    cases rp with
    | @lst a xs _ hx rs =>
      have hq : SqL X.K H1 a xs := SqL.of (sub _ _ hx)
      cases r1
      obtain ⟨its, rv, p, hz⟩ := I1.list hq
      have W : Walks X.K Hi1 (Itl X.K a) ds := by
        refine ⟨by rw [← rs.length]; exact hz, fun Hi' H' i s1 s2 hi => ?_, fun Hi' H' i s1 s2 hi => ?_, fun Hi' H' i d x H3 s1 s2 hd hy => ?_⟩
        · have hi' : i < xs.length := by rw [rs.length]; exact hi
          exact ⟨xs, xs[i], SqL.of (s2 _ _ (s1 _ _ hx)), List.getElem?_eq_getElem hi'⟩
        · exact ⟨xs, SqL.of (s2 _ _ (s1 _ _ hx)), by rw [rs.length]; exact hi⟩
        · obtain ⟨rfl, hv⟩ := hy
          obtain ⟨w, h1, h2⟩ := rs.get hd
          have e1 := (hv xs (SqL.of (s2 _ _ (s1 _ _ hx)))).symm.trans h1
          cases e1
          exact ⟨Hi', Gr.refl s2, h2.mono s1⟩
      refine wpAny_pyIter_list p.isList ?_
      refine ⟨s1.heap.objs.size, [s1.heap.objs.size], _, _, H1, rfl, I1.kept (t' := s1.toks) fun b o e => Heap.get?_push_of_some _ e, turn_list a _, ⟨_, Heap.get?_push_size _ rfl, rfl, rfl⟩, fun b hb => ?_, q _ W⟩
      have e : b = s1.heap.objs.size := by simpa using hb
      subst e
      exact I1.fpOk (Nat.le_refl _) (I1.hok.fresh (Nat.le_refl _))
  | tuple es =>
    cases hw
    cases rp with
    | @tup a xs _ hx rs =>
      have hq : SqT X.K H1 a xs := sqT_mono sub hx
      cases r1
      obtain ⟨its, rv, p, hz⟩ := I1.tuple hq
      have W : Walks X.K Hi1 (Itt X.K a) ds := by
        refine ⟨by rw [← rs.length]; exact hz, fun Hi' H' i s1 s2 hi => ?_, fun Hi' H' i s1 s2 hi => ?_, fun Hi' H' i d x H3 s1 s2 hd hy => ?_⟩
        · have hi' : i < xs.length := by rw [rs.length]; exact hi
          exact ⟨xs, xs[i], sqT_mono s2 (sqT_mono s1 hx), List.getElem?_eq_getElem hi'⟩
        · exact ⟨xs, sqT_mono s2 (sqT_mono s1 hx), by rw [rs.length]; exact hi⟩
        · obtain ⟨rfl, hv⟩ := hy
          obtain ⟨w, h1, h2⟩ := rs.get hd
          have e1 := (hv xs (sqT_mono s2 (sqT_mono s1 hx))).symm.trans h1
          cases e1
          exact ⟨Hi', Gr.refl s2, h2.mono s1⟩
      refine wpAny_pyIter_tuple (show s1.heap.IsTuple a its.toArray from p) ?_
      refine ⟨s1.heap.objs.size, [s1.heap.objs.size], _, _, H1, rfl, I1.kept (t' := s1.toks) fun b o e => Heap.get?_push_of_some _ e, turn_tuple a _, ⟨_, Heap.get?_push_size _ rfl, rfl, rfl⟩, fun b hb => ?_, q _ W⟩
      have e : b = s1.heap.objs.size := by simpa using hb
      subst e
      exact I1.fpOk (Nat.le_refl _) (I1.hok.fresh (Nat.le_refl _))
  | str z =>
    simp only [walkD] at hw
    split at hw
    · rename_i hz
      cases hw
      cases rp
      have W : Walks X.K Hi1 (Its z) (signs z) := by
        have hl : (signs z).length = z.cps.size := by simp [signs]
        refine ⟨by rw [hl]; exact hz, fun Hi' H' i s1 s2 hi => ?_, fun Hi' H' i s1 s2 hi => ?_, fun Hi' H' i d x H3 s1 s2 hd hy => ?_⟩
        · rw [hl] at hi; exact hi
        · rw [hl] at hi; exact hi
        · obtain ⟨rfl, c, hc, rfl⟩ := hy
          have e1 : (signs z)[i]? = some (.str ⟨#[c]⟩) := by
            unfold signs
            rw [List.getElem?_map, Array.getElem?_toList, hc]
            rfl
          rw [e1] at hd
          cases hd
          exact ⟨Hi', Gr.refl s2, .str _⟩
      obtain ⟨t, rfl⟩ := r1
      cases ha : z.cps.all (· < 128)
      · exact wpAny_pyIter_wide ha (pi_one (tk := s1.toks) I1 _ (turn_str _ z t "str_iterator" (.inr rfl)) ⟨_, Heap.get?_push_size _ rfl, rfl, rfl⟩ (q _ W))
      · exact wpAny_pyIter_ascii ha (pi_one (tk := s1.toks) I1 _ (turn_str _ z t "str_ascii_iterator" (.inl rfl)) ⟨_, Heap.get?_push_size _ rfl, rfl, rfl⟩ (q _ W))
    · cases hw
  | _ => cases hw
def mWalk (ma : ME) : MI := fun ρ => (ma ρ).bind fun p => match p.2.freeze p.1 with
  | some (d, ρ1) => (match walkD d with
    | some ds => .ret (ds, ρ1)
    | none => .fail)
  | none => .fail
theorem sndI_walk {ma : ME} (ha : Snd X ex ma) : SndI X tg ex (mWalk ma) := fun e b as Hi ρ σ H R S h => by
  refine it_value (ha e b as Hi ρ σ H _ S ((T.all_bind.mp h).mono fun b1 p _ h1 v H1 Hi1 as1 x1 S1 r1 => ?_))
  split at h1
  · rename_i d ρ1 hd
    obtain ⟨Hi2, x2, S2, rp⟩ := S1.frz r1 hd
    split at h1
    · rename_i ds hw
      exact ⟨Hi2, d, ds, S2.sub, rp, hw, fun J W => h1.1 J H1 Hi2 as1 (x1.trans x2) S2 W, fun J a o kvs ha nf W => h1.2 J H1 Hi2 as1 a o kvs (x1.trans x2) S2 ha nf W⟩
    · exact h1.elim
  · exact h1.elim
def rangeD (lo : Int) (n : Nat) : List D := (List.range n).map fun i => .int (lo + (i : Nat))
theorem walks_range {K : PySem.W.Frag} {Hi : Hp} {lo : Int} {n : Nat} (hn : n ≤ 1000000) : Walks K Hi (Itr lo n) (rangeD lo n) := by
  have hl : (rangeD lo n).length = n := by simp [rangeD]
  refine ⟨by rw [hl]; exact Nat.le_trans hn (by rw [sizeLine_eq]; decide), fun Hi' H' i s1 s2 hi => ?_, fun Hi' H' i s1 s2 hi => ?_, fun Hi' H' i d x H3 s1 s2 hd hy => ?_⟩
  · rw [hl] at hi; exact hi
  · rw [hl] at hi; exact hi
  · obtain ⟨rfl, rfl⟩ := hy
    unfold rangeD at hd
    rw [List.getElem?_map] at hd
    cases e : (List.range n)[i]? with
    | none => rw [e] at hd; cases hd
    | some j =>
      rw [e] at hd
      obtain ⟨h1, h2⟩ := List.getElem?_eq_some_iff.mp e
      rw [List.getElem_range] at h2
      subst h2
      cases hd
      exact ⟨Hi', Gr.refl s2, .int _⟩
def mRange1 (ma : ME) : MI := fun ρ => (ma ρ).bind fun p => match p.2.deref p.1 with
  | some (.int n) => if decide (-1000000 ≤ n) && decide (n ≤ 1000000) then .ret (rangeD 0 n.toNat, p.2) else .fail
  | _ => .fail
theorem sndI_range1 {a : Expr} {ma : ME} {p pos : Pos} (hg : Gl X "range") (hm : X.mg "range" = none) (ha : Snd X a ma) (hs : starEach [a] X.env = (false, eval a X.env) :: starEach [] X.env) : SndI X tg (.Call (.Name "range" p) [a] [] pos) (mRange1 ma) := .of fun e b as Hi ρ σ H R S h => by
  refine fun pins s I => (pi_range1 hg hm (pa_cons (pe_tE X a) pa_nil hs) (by rw [hs]; rfl)).run pins s σ H R I ?_
  refine ha e b as Hi ρ σ H _ S ((T.all_bind.mp h).mono fun b1 p _ h1 v H1 Hi1 as1 x1 S1 r1 => ?_)
  split at h1
  · rename_i n hn
    split at h1
    · rename_i hb
      simp only [Bool.and_eq_true, decide_eq_true_eq] at hb
      have e1 := (S1.opd r1 hn).int_
      exact ⟨n, by rw [e1], by omega, by omega, h1 _ H1 Hi1 as1 x1 S1 (walks_range (by omega))⟩
    · exact h1.elim
  · exact h1.elim
def mRange2 (ma mc : ME) : MI := fun ρ => (ma ρ).bind fun p => (mc p.2).bind fun q => match q.2.deref p.1, q.2.deref q.1 with
  | some (.int m), some (.int n) => if decide (-400000 ≤ m) && decide (m ≤ 400000) && decide (-400000 ≤ n) && decide (n ≤ 400000) then .ret (rangeD m (n - m).toNat, q.2) else .fail
  | _, _ => .fail
theorem sndI_range2 {a c : Expr} {ma mc : ME} {p pos : Pos} (hg : Gl X "range") (hm : X.mg "range" = none) (ha : Snd X a ma) (hc : Snd X c mc) (hs : starEach [a, c] X.env = (false, eval a X.env) :: starEach [c] X.env) (hs2 : starEach [c] X.env = (false, eval c X.env) :: starEach [] X.env) :
    SndI X tg (.Call (.Name "range" p) [a, c] [] pos) (mRange2 ma mc) := .of fun e b as Hi ρ σ H R S h => by
  refine fun pins s I => (pi_range2 hg hm (pa_cons (pe_tE X a) (pa_cons (pe_tE X c) pa_nil hs2) hs) (by rw [hs, hs2]; rfl) (by rw [hs2]; rfl)).run pins s σ H R I ?_
  refine ha e b as Hi ρ σ H _ S ((T.all_bind.mp h).mono fun b1 p _ h1 v H1 Hi1 as1 x1 S1 r1 => ?_)
  refine hc e b1 as1 Hi1 p.2 σ H1 _ S1 ((T.all_bind.mp h1).mono fun b2 q _ h2 u H2 Hi2 as2 x2 S2 r2 => ?_)
  split at h2
  · rename_i m n hm hn
    split at h2
    · rename_i hb
      simp only [Bool.and_eq_true, decide_eq_true_eq] at hb
      have e1 := (S2.opd (r1.mono x2) hm).int_
      have e2 := (S2.opd r2 hn).int_
      exact ⟨m, n, by rw [e1, e2], by omega, h2 _ H2 Hi2 as2 (x1.trans x2) S2 (walks_range (by omega))⟩
    · exact h2.elim
  · exact h2.elim
end

/-! ### comprehensions -/
def wipeS {α : Type} : List (Option α) → List Nat → List (Option α)
  | σ, [] => σ
  | σ, v :: vs => (wipeS σ vs).set v none
theorem wipeS_some {α : Type} {σ : List (Option α)} {i : Nat} {x : α} : ∀ {vs : List Nat}, (wipeS σ vs)[i]? = some (some x) → σ[i]? = some (some x) ∧ i ∉ vs
  | [], h => ⟨h, by simp⟩
  | v :: vs, h => by
    unfold wipeS at h
    rcases getElem?_set_cases h with ⟨_, e⟩ | ⟨hne, h⟩
    · cases e
    · obtain ⟨h1, h2⟩ := wipeS_some h
      exact ⟨h1, by simp only [List.mem_cons, not_or]; exact ⟨hne, h2⟩⟩
theorem wipeS_length {α : Type} (σ : List (Option α)) : ∀ vs : List Nat, (wipeS σ vs).length = σ.length
  | [] => rfl
  | v :: vs => by unfold wipeS; rw [List.length_set, wipeS_length σ vs]
theorem wipe_wipe (σ : L2.St) : ∀ (vs ws : List Nat), (∀ i ∈ vs, i ∈ ws) → wipe (wipe σ vs) ws = wipe σ ws
  | [], ws, _ => rfl
  | v :: vs, ws, h => by
    show wipe ((wipe σ vs).set v none) ws = _
    rw [wipe_set (h v List.mem_cons_self)]
    exact wipe_wipe σ vs ws fun i hi => h i (List.mem_cons_of_mem _ hi)
section
variable {K : PySem.W.Frag} {e : Ent} {b : Nat} {as : List Addr} {Hi H : Hp} {ρ : En} {σ : L2.St}
theorem SO.wiped (S : SO K e b as Hi ρ σ H) (own : List Nat) : SO K e b as Hi { ρ with sl := wipeS ρ.sl own } (wipe σ own) H := by
  refine S.slots (by rw [wipeS_length, wipe_length]; exact S.len) fun i r h => ?_
  obtain ⟨h1, h2⟩ := wipeS_some h
  obtain ⟨v, h3, h4⟩ := S.slt i r h1
  exact ⟨v, by rw [wipe_out h2]; exact h3, h4⟩
end
def cLoop (sl0 : List (Option Rv)) (g : Tg) (tt : MT) (el : ME) : List D → List D → En → T (List D × En)
  | [], acc, ρ => .ret (acc, ρ)
  | d :: ds, acc, ρ => match g.set d { ρ with sl := sl0 } with
    | none => .fail
    | some ρ1 => (tt ρ1).bind fun p => if p.1 then (el p.2).bind fun q => (match q.2.freeze q.1 with
      | some (d', ρ2) => cLoop sl0 g tt el ds (acc ++ [d']) ρ2
      | none => .fail) else cLoop sl0 g tt el ds acc p.2
/-- the list is done: it comes into the store, the slots are as they were -/
def cDone (sl : List (Option Rv)) (q : List D × En) : T (Rv × En) := .ret (.res q.2.st.length, En.alloc { q.2 with sl := sl } (.list q.1))
def mComp (own : List Nat) (g : Tg) (mi : MI) (tt : MT) (el : ME) : ME := fun ρ => (mi ρ).bind fun p => (cLoop (wipeS p.2.sl own) g tt el p.1 [] p.2).bind (cDone p.2.sl)
def mtYes : MT := fun ρ => .ret (true, ρ)
section
variable (X : Cx)
def TsOk (ifs : List Expr) (σ : L2.St) (H : Hp) (R : Bool → Hp → Prop) : Prop := ∀ pins s, Inv X pins σ H s → wpAny (model X.prog X.w) X.A (forIn ifs true fun c r => if r = true then do let ok ← isTrue c X.env (eval c X.env); pure (ForInStep.yield ok) else pure (ForInStep.yield r)) (TP X pins σ R) X.xe s
def SndTs (ifs : List Expr) (m : MT) : Prop := ∀ e b as Hi ρ σ H R, SO X.K e b as Hi ρ σ H → (m ρ).All b (PostB X.K e as Hi σ R) → TsOk X ifs σ H R
variable {X}
theorem sndTs_nil : SndTs X [] mtYes := fun e b as Hi ρ σ H R S h => fun pins s I => pts_nil.run pins s σ H R I (h H Hi as (Ext.refl _ _) S)
theorem sndTs_one {c : Expr} {mt : MT} (hc : SndT X c mt) : SndTs X [c] mt := fun e b as Hi ρ σ H R S h => fun pins s I => (pts_one (pt_tT X c)).run pins s σ H R I (hc e b as Hi ρ σ H R S h)
abbrev blkAt (X : Cx) (scope : Scope) (s : Shared) (H : Hp) (C : Addr) (cl : List (Str × Addr)) (fp : List Addr) : Cx := X.blk s H scope (compEnvC scope cl C X.env) fp
def tGb (X : Cx) (scope : Scope) (tg : Expr) : TG := fun v σ H Q => ∀ s H0 C cl fp, GOk (blkAt X scope s H0 C cl fp) tg v σ H Q
def tTb (X : Cx) (scope : Scope) (ifs : List Expr) : TT := fun σ H Q => ∀ s H0 C cl fp, TsOk (blkAt X scope s H0 C cl fp) ifs σ H Q
def tEb (X : Cx) (scope : Scope) (ex : Expr) : TE := fun σ H Q => ∀ s H0 C cl fp, EvOk (blkAt X scope s H0 C cl fp) ex σ H Q
theorem lc_coreE {X : Cx} {tg elt : Expr} {ifs : List Expr} {scope : Scope} {own : List Nat} {g : Tg} {tt : MT} {el : ME}
    (hg : ∀ s H C cl fp, SndG (blkAt X scope s H C cl fp) tg g) (ht : ∀ s H C cl fp, SndTs (blkAt X scope s H C cl fp) ifs tt) (he : ∀ s H C cl fp, Snd (blkAt X scope s H C cl fp) elt el) (hown : ∀ i ∈ g.slots, i ∈ own)
    {e : Ent} {as : List Addr} {Hi : Hp} {σ : L2.St} {R : VK} {b1 : Nat} {as1 : List Addr} {Hi1 H1 : Hp} {ρ1 : En} {J : It} {ds : List D} (x1 : Ext Hi as Hi1 as1) (S1 : SO X.K e b1 as1 Hi1 ρ1 σ H1) (W1 : Walks X.K Hi1 J ds)
    (h1 : (cLoop (wipeS ρ1.sl own) g tt el ds [] ρ1).All b1 (fun b' q => (cDone ρ1.sl q).All b' (Post X.K e as Hi σ R))) :
    tLc (fun _ H R => R J H) (tGb X scope tg) (tTb X scope ifs) (tEb X scope elt) own σ H1 R := by
  intro D hD
  obtain ⟨nD1, nD2, nD3, nD4⟩ := S1.new hD
  let INV : Nat → Hp → Prop := fun i H => ∃ b' as' Hi' ρ' acc accV, Ext Hi1 as1 Hi' as' ∧ SO X.K e b' as' Hi' { ρ' with sl := ρ1.sl } σ H ∧ Hi' D = none ∧ D ∉ as' ∧ H D = some (.lst accV) ∧ Rps X.K Hi' accV acc ∧ acc.length ≤ i ∧
    (cLoop (wipeS ρ1.sl own) g tt el (ds.drop i) acc ρ').All b' (fun b' q => (cDone ρ1.sl q).All b' (Post X.K e as Hi σ R))
  refine ⟨fun i m H => m = ds.length - i ∧ i ≤ ds.length ∧ INV i H, ⟨ds.length, by simp, Nat.zero_le _, b1, as1, Hi1, ρ1, [], [], Ext.refl _ _, S1.beside nD4 nD2 nD3 nD1, nD4, nD2, upd_same, .nil, Nat.zero_le _, h1⟩, ?_⟩
  rintro i m H2 ⟨rfl, hle, b', as', Hi', ρ', acc, accV, x2, S2, d1, d2, d3, rac, hac, h2⟩
  by_cases hlt : i < ds.length
  · refine .inr ⟨W1.go Hi' H2 i x2.hi S2.sub hlt, INV (i + 1), fun H' q => ⟨ds.length - (i + 1), by omega, rfl, hlt, q⟩, fun x H3 hy => ?_⟩
    have hdi : ds[i]? = some ds[i] := List.getElem?_eq_getElem hlt
    obtain ⟨Hi3, gr, rp⟩ := W1.yld Hi' H2 i ds[i] x H3 x2.hi S2.sub hdi hy
    rw [List.drop_eq_getElem_cons hlt] at h2
    have d1' : Hi3 D = none := by
      cases q : Hi3 D with
      | none => rfl
      | some o =>
        rcases gr.n D o q with z | z
        · rw [d1] at z; cases z
        · rw [d3] at z; cases z
    have d3' : H3 D = some (.lst accV) := gr.h _ _ d3
    have S3 : SO X.K e b' as' Hi3 { ρ' with sl := ρ1.sl } σ H3 := S2.grow gr
    have S4 : SO X.K (entIn e as' Hi3 H3) b' as' Hi3 { ρ' with sl := wipeS ρ1.sl own } (wipe σ own) H3 := (S3.wiped own).into
    simp only [cLoop] at h2
    split at h2
    · exact h2.elim
    · rename_i ρ4 hset
      -- back from the block
      have again : ∀ {b5 as5 Hi5 ρ5 σ5 H5 accV' acc'}, SO X.K (entIn e as' Hi3 H3) b5 as5 Hi5 ρ5 σ5 H5 → Ext Hi3 as' Hi5 as5 → Rps X.K Hi5 accV' acc' → acc'.length ≤ i + 1 →
          (cLoop (wipeS ρ1.sl own) g tt el (ds.drop (i + 1)) acc' ρ5).All b5 (fun b' q => (cDone ρ1.sl q).All b' (Post X.K e as Hi σ R)) → INV (i + 1) (upd H5 D (.lst accV')) ∧ (accV' = accV → INV (i + 1) H5) := by
        intro b5 as5 Hi5 ρ5 σ5 H5 accV' acc' S5 x5 rac' hl' h5
        have SB : SO X.K e b5 as5 Hi5 ρ5 σ5 H5 := S3.back S5
        have xx : Ext Hi1 as1 Hi5 as5 := (x2.trans ⟨gr.i, List.prefix_refl _⟩).trans x5
        have SB2 : SO X.K e b5 as5 Hi5 { ρ5 with sl := ρ1.sl } σ H5 := SB.slots S1.len fun j r hj => by
          obtain ⟨v, q1, q2⟩ := S1.slt j r hj
          exact ⟨v, q1, q2.mono xx⟩
        have e1 : Hi5 D = none := by
          cases q : Hi5 D with
          | none => rfl
          | some o =>
            rcases S5.newi D o q with z | z | z
            · have z : Hi3 D = some o := z
              rw [d1'] at z; cases z
            · have z : H3 D = none := z
              rw [d3'] at z; cases z
            · exact absurd z d2
        have e2 : D ∉ as5 := fun z => by
          rcases S5.wr D z with w | w
          · have w : H3 D = none := w
            rw [d3'] at w; cases w
          · exact d2 w
        refine ⟨⟨b5, as5, Hi5, ρ5, acc', accV', xx, SB2.beside e1 e2 nD3 nD1, e1, e2, upd_same, rac', hl', h5⟩, fun ee => ?_⟩
        subst ee
        exact ⟨b5, as5, Hi5, ρ5, acc', accV', xx, SB2, e1, e2, S5.same D _ d3' nD3 d2, rac', hl', h5⟩
      intro s0 H0 C0 cl0 fp0
      refine hg s0 H0 C0 cl0 fp0 _ b' as' Hi3 _ ρ4 (wipe σ own) H3 x ds[i] _ S4 rp hset fun σ5 S5 o5 => ?_
      refine ⟨by rw [o5 own hown, wipe_wipe σ own own fun _ z => z], fun s6 H6 C6 cl6 fp6 => ?_⟩
      refine ht s6 H6 C6 cl6 fp6 _ b' as' Hi3 ρ4 σ5 H3 _ S5 ((T.all_bind.mp h2).mono fun b7 p7 _ h7 H7 Hi7 as7 x7 S7 => ?_)
      obtain ⟨k, ρ7⟩ := p7
      cases k with
      | false =>
        exact (again S7 x7 (rac.mono (gr.i.trans x7.hi)) (by omega) h7).2 rfl
      | true =>
        intro s8 H8 C8 cl8 fp8
        have h7 : ((el ρ7).bind fun q => (match q.2.freeze q.1 with
          | some (d', ρ2) => cLoop (wipeS ρ1.sl own) g tt el (ds.drop (i + 1)) (acc ++ [d']) ρ2
          | none => .fail)).All b7 (fun b' q => (cDone ρ1.sl q).All b' (Post X.K e as Hi σ R)) := h7
        refine he s8 H8 C8 cl8 fp8 _ b7 as7 Hi7 ρ7 σ5 H7 _ S7 ((T.all_bind.mp h7).mono fun b9 p9 _ h9 y H9 Hi9 as9 x9 S9 r9 => ?_)
        split at h9
        · rename_i d' ρ10 hfr
          obtain ⟨Hi10, x10, S10, r10⟩ := S9.frz r9 hfr
          have xx := (x7.trans x9).trans x10
          have rr : Rps X.K Hi10 (accV ++ [y]) (acc ++ [d']) := (rac.mono (gr.i.trans xx.hi)).append (.cons r10 .nil)
          have q := again S10 xx rr (by rw [List.length_append, List.length_singleton]; omega) h9
          have hD9 : H9 D = some (.lst accV) := S10.same D _ d3' nD3 d2
          refine ⟨accV, hD9, ?_, q.1⟩
          rw [rac.length]
          exact Nat.lt_of_le_of_lt hac (Nat.lt_of_lt_of_le hlt W1.sz)
        · exact h9.elim
  · have e1 : i = ds.length := by omega
    subst e1
    refine .inl ⟨W1.stop Hi' H2 _ x2.hi S2.sub (Nat.le_refl _), ?_⟩
    rw [List.drop_length] at h2
    have h3 : Post X.K e as Hi σ R b' (.res ρ'.st.length, En.alloc { ρ' with sl := ρ1.sl } (.list acc)) := h2
    refine h3 (.ref D) H2 Hi' (as' ++ [D]) ((x1.trans x2).trans ⟨Same.refl _, List.prefix_append _ _⟩) (S2.adopt d1 d2 nD3 nD1 (.lst d3 rac)) ⟨D, ?_, rfl⟩
    have e3 : ρ'.st.length = as'.length := S2.alen.symm
    show (as' ++ [D])[ρ'.st.length]? = some D
    rw [e3, List.getElem?_append_right (Nat.le_refl _), Nat.sub_self]
    rfl
theorem lc_post {tg iter elt : Expr} {ifs : List Expr} {scope : Scope} {own : List Nat} {g : Tg} {mi : MI} {tt : MT} {el : ME} (hi : SndI X tg iter mi)
    (hg : ∀ s H C cl fp, SndG (blkAt X scope s H C cl fp) tg g) (ht : ∀ s H C cl fp, SndTs (blkAt X scope s H C cl fp) ifs tt) (he : ∀ s H C cl fp, Snd (blkAt X scope s H C cl fp) elt el) (hown : ∀ i ∈ g.slots, i ∈ own)
    {e : Ent} {b : Nat} {as : List Addr} {Hi : Hp} {ρ : En} {σ : L2.St} {H : Hp} {R : VK} (S : SO X.K e b as Hi ρ σ H) (h : (mComp own g mi tt el ρ).All b (Post X.K e as Hi σ R)) :
    tLc (tI X tg iter) (tGb X scope tg) (tTb X scope ifs) (tEb X scope elt) own σ H (ULR X R) := by
  refine hi e b as Hi ρ σ H _ S ((T.all_bind.mp h).mono fun b1 p _ h1 => ?_)
  obtain ⟨ds, ρ1⟩ := p
  have h1 : (cLoop (wipeS ρ1.sl own) g tt el ds [] ρ1).All b1 (fun b' q => (cDone ρ1.sl q).All b' (Post X.K e as Hi σ R)) := T.all_bind.mp h1
  refine ⟨fun J H1 Hi1 as1 x1 S1 W1 => ?_, fun J H1 Hi1 as1 a o kvs x1 S1 ha nf W1 => ?_⟩
  · exact lc_coreE hg ht he hown x1 S1 W1 (h1.mono fun _ _ _ z => z.mono fun _ _ _ z => z.inl)
  · exact lc_coreE hg ht he hown (Ext.refl _ _) (S1.lock ha) W1 (h1.mono fun _ _ _ z => z.mono fun _ _ _ z => (z.ext x1).unl S1 ha nf)
theorem snd_comp {tg iter elt : Expr} {ifs : List Expr} {scope : Scope} {own : List (Str × Nat)} {g : Tg} {mi : MI} {tt : MT} {el : ME} {pos : Pos} (hc : X.calm = true) (hN : X.N.Nodup) (hi : SndI X tg iter mi) (ok : BlkOk X.N X.env.scope scope own)
    (hg : ∀ s H C cl fp, SndG (blkAt X scope s H C cl fp) tg g) (ht : ∀ s H C cl fp, SndTs (blkAt X scope s H C cl fp) ifs tt) (he : ∀ s H C cl fp, Snd (blkAt X scope s H C cl fp) elt el) (hown : ∀ i ∈ g.slots, i ∈ own.map (·.2))
    (hs : ∀ x, foldedSetIterable iter X.env x = pure x) : Snd X (.ListComp elt [⟨tg, iter, ifs, 0⟩] scope pos) (mComp (own.map (·.2)) g mi tt el) := fun e b as Hi ρ σ H R S h =>
  .unl (.of (pe_lc hc hN (pi_tI tg iter) ok (fun s H C cl fp => ⟨fun pins s σ H v u Q I r q => q _ _ _ _ _ pins s u I r⟩) (fun s H C cl fp => ⟨fun pins s σ H Q I q => q _ _ _ _ _ pins s I⟩) (fun s H C cl fp => ⟨fun pins s σ H Q I q => q _ _ _ _ _ pins s I⟩) hs) (lc_post hi hg ht he hown S h))
end
end Wk

/-! Wk5g: what a def keeps where nothing is being shown (so that repr's text is known): the promise, the call, the entry, the head. -/
namespace Wk
open PySem PySem.Spec PyProof.Rows L2

/-- the promise, asked only of surroundings without a guard -/
structure FnG (P : Program) (w : World) (K : PySem.W.Frag) (mg : Str → Option Value) (base : Heap) (k : Nat) (f : Addr) (fd : FuncData) (ps : List Str) (sp : Sp) : Prop where
  len : ∀ vs H Q E, sp vs H Q E → vs.length = ps.length
  run : ∀ (A : Around) (outer : List Env) (s : Shared) (H : Hp) (args : Args) (us : List Value) (vs : List V) (Q : VK) (E : XK), A.guards = some [] → Room k A → Env0 P w K mg base A outer s H →
    BindsTo s fd args (ps.zip us) → Vals vs us → sp vs H Q E → codeAny (model P w) A (.call (.ref f) args) (CR CX0 outer P w H s Q E) s
section
variable {P : Program} {w : World} {K : PySem.W.Frag} {mg : Str → Option Value} {base : Heap} {fd : FuncData} {ps : List Str} {f : Addr}
theorem FnG.mono {j k : Nat} {sp : Sp} (F : FnG P w K mg base j f fd ps sp) (h : j ≤ k) : FnG P w K mg base k f fd ps sp :=
  ⟨F.len, fun A o s H args us vs Q E hg hr => F.run A o s H args us vs Q E hg (hr.mono h)⟩
theorem FnG.imp {k : Nat} {sp sp' : Sp} (F : FnG P w K mg base k f fd ps sp) (h : ∀ vs H Q E, sp' vs H Q E → sp vs H Q E) : FnG P w K mg base k f fd ps sp' :=
  ⟨fun vs H Q E z => F.len vs H Q E (h _ _ _ _ z), fun A o s H args us vs Q E hg hr he hb hv z => F.run A o s H args us vs Q E hg hr he hb hv (h _ _ _ _ z)⟩
end
section
variable {X : Cx} {k : Nat} {f : Addr} {fd : FuncData} {ps : List Str} {sp : Sp} {x : Str} {p pos : Pos} {e : Expr} {es : List Expr} {t : TA}
theorem run_fnG {pins : List (Addr × Obj)} {σ : L2.St} {H : Hp} {s : Shared} {Q : VK} {us : List Value} {vs : List V} (F : FnG X.prog X.w X.K X.mg X.base k f fd ps sp) (gd : X.A.guards = some []) (room : Room k X.A) (bd : Binds X.K fd ps [])
    (I : Inv X pins σ H s) (rel : Vals vs us) (h : sp vs H Q E0) : wpAny (model X.prog X.w) X.A (call (.ref f) us) (EP X pins σ Q) X.xe s := by
  have hlen : (us ++ []).length = ps.length := by
    rw [List.append_nil, ← rel.length]
    exact F.len _ _ _ _ h
  have hbind := bd s us I.kIn hlen
  rw [List.append_nil] at hbind
  have runs := F.run X.A X.stack s H ⟨us, []⟩ us vs Q E0 gd room I.env0 hbind rel h
  refine wpAny_call (codeAny_mono runs ?_)
  intro res s' out
  match res, out with
  | .error _, out => exact False.elim out
  | .ok (.ret u), out => exact I.after out
  | .ok .next, out => exact False.elim out
  | .ok .brk, out => exact False.elim out
  | .ok .cont, out => exact False.elim out
theorem pe_callG (F : FnG X.prog X.w X.K X.mg X.base k f fd ps sp) (gd : X.A.guards = some []) (room : Room k X.A) (gl : Gl X x) (at_ : X.mg x = some (.ref f)) (kp : PySem.W.keepIn X.K (.ref f) = true) (bd : Binds X.K fd ps [])
    (ha : PA X (e :: es) t) (dbg : (x == ("__debug__" : Str)) = false) (st : starEach (e :: es) X.env = (false, eval e X.env) :: starEach es X.env) (pl : (backTo pos (starEach es X.env)).any (·.1) = false) :
    PE X (.Call (.Name x p) (e :: es) [] pos) (fun σ H Q => t σ H fun vs H1 => sp vs H1 Q E0) := ⟨by
  intro pins s σ H Q I h
  have inner := ha.run pos pins s σ H _ I h
  exact wpAny_Call_Name_kw (ld_glob I gl at_
    (PySem.W.callWith_K (h₀ := X.base) I.ok.mod.kin kp (thn inner fun us s1 ⟨vs, H1, I1, r, q⟩ => ⟨I1.kIn, run_fnG F gd room bd I1 r q⟩) st pl) dbg)⟩
theorem pe_call0G (F : FnG X.prog X.w X.K X.mg X.base k f fd ps sp) (gd : X.A.guards = some []) (room : Room k X.A) (gl : Gl X x) (at_ : X.mg x = some (.ref f)) (kp : PySem.W.keepIn X.K (.ref f) = true) (bd : Binds X.K fd ps [])
    (dbg : (x == ("__debug__" : Str)) = false) : PE X (.Call (.Name x p) [] [] pos) (fun σ H Q => sp [] H Q E0) := ⟨by
  intro pins s σ H Q I h
  exact wpAny_Call_Name_kw (ld_glob I gl at_ (PySem.W.callWith_K0 I.kIn kp (run_fnG (us := []) F gd room bd I .nil h)) dbg)⟩
end

/-! ### a def's entry -/
section
variable {P : Program} {w : World} {K : PySem.W.Frag} {mg : Str → Option Value} {base : Heap}
theorem Fun.okG {x qual : Str} {st : Stmt} {f : Addr} {fd : FuncData} {N ps : List Str} {k : Nat} {sp : Sp} (F : Fun K x qual st f fd) (S : FnScope N ps (defScope st)) (len : ∀ vs H Q E, sp vs H Q E → vs.length = ps.length)
    (hbody : ∀ (cdv : Value) (A : Around) (outer : List Env) (s : Shared) (H : Hp) (vs : List V) (Q : VK) (E : XK), A.guards = some [] → Room k (A.deeper (envOfC qual (defScope st) s.heap.objs.size f cdv)) → sp vs H Q E →
      ∃ t, PSs (cxOf CX0 P w K mg base N qual (defScope st) f cdv A outer s H E).nox (defBody st) t ∧ t { nx := fun _ H' => Q .non H', rt := Q } (L2.start N vs) H) : FnG P w K mg base (k + 1) f fd ps sp := by
  obtain ⟨oc, od, kV, doc, pm, an, cdv, ct, osl, efd, lk, hcd⟩ := F.ex
  subst efd
  constructor
  · exact len
  intro A outer s H args us vs Q E gd room e0 bnd rel hsp
  have hkeep : ∀ b o, base.get? b = some o → s.heap.get? b = some o := fun b o e => (e0.bs b o e).1
  have kin : K.In s.heap := e0.mod.kin.keeps hkeep
  have nol : s.heap.NoLimit := e0.mod.nolimit.keeps hkeep
  have kinds : ∀ y ∈ ps.zip us, (defScope st).names.lookup y.1 = some .local ∨ ((defScope st).names.lookup y.1 = some .cell ∧ ((cellsFrom (s.heap.objs.size + 1) (defScope st).names []).lookup y.1).isSome = true) := by
    rintro ⟨n, v⟩ hy
    exact (S.par n (List.of_mem_zip hy).1).imp (fun z => z) fun z => ⟨z, PySem.W.cellsFrom_some _ _ _ (.inl z)⟩
  refine codeAny_call_function room.depth (kin _ _ lk) rfl S.co S.gen rfl (PySem.W.codeRec_of kin hcd) (bnd _ _ _ _ (wpAny_newFunctionEnv_cells S.kind kinds ?_))
  intro env he s1 inC
  subst he
  refine ⟨nol.keeps inC.toInCall.keep, codeAny_func ?_⟩
  obtain ⟨t, tok, tq⟩ := hbody cdv A outer s H vs Q E gd (room.deeper _) hsp
  have start := inv_start (CX := CX0) (N := N) (qual := qual) (f := f) (cd := cdv) (E := E) S room.hd e0 (len _ _ _ _ hsp) rel inC
  have done := tok.nox.run [] s1 (L2.start N vs) H _ start tq
  refine wpAny_mono done ?_ fun e s' z => z
  intro fl s' z
  match fl, z with
  | .ret u, ⟨v, σ', H', J, rv, q⟩ => exact ⟨v, H', J.os, J.bare, J.base, J.hok, rv, q⟩
  | .next, ⟨σ', H', J, q⟩ => exact ⟨V.non, H', J.os, J.bare, J.base, J.hok, rfl, q⟩
  | .brk, ⟨_, _, _, q⟩ => exact False.elim q
  | .cont, ⟨_, _, _, q⟩ => exact False.elim q
end
end Wk

/-! Wk5h: the head, for the promise without guards. -/
namespace Wk
open PySem PySem.Spec PyProof.Rows L2
/-- how the law's own call ends -/
def Ends1 (s₁ : Shared) (r : Result) (s' : Shared) : Prop := r = .ok (.ret (.bool true)) ∧ OldK s₁.heap s'.heap ∧ s'.os = s₁.os ∧ AllBare s'.gens
section
variable {P : Program} {w : World} {K : PySem.W.Frag} {mg mb : Str → Option Value} {k : Nat} {fa a : Addr} {fd : FuncData} {x : Str} {sp : Sp} {s₁ : Shared} {vs : List Value} {ns : List Int}
/-- from a heap in which at most the script is tracked -/
theorem head_core (kin : K.In s₁.heap) (nsm : s₁.heap.Ns mainGlobals mg) (nsb : s₁.heap.Ns builtinsNs mb) (bts : ∀ x : Str, x ≠ "__name__" → mb x = bootBuiltins x) (nol : s₁.heap.NoLimit) (gens : s₁.gens = #[])
    (script : s₁.heap.get? a = some { cls := .type "list", data := .seq vs.toArray }) (room : Room k callerA)
    (F : ∀ base : Heap, K.In base → base.Ns mainGlobals mg → FnG P w K mg base k fa fd [x] sp) (binds : ∀ (s : Shared) (u : Value), BindsTo s fd ⟨[u], []⟩ [(x, u)])
    {H : Hp} (only : L2.Only H) (seq : SqL K H a (ns.map V.int)) (hok : HOk P w H s₁.heap) (none_but : ∀ b, H b ≠ none → b = a) (notK : H a ≠ none → K.lookup a = none)
    (spec : sp [.ref a] H (fun v _ => v = .bl true) E0) : codeAny (model P w) callerA (.call (.ref fa) ⟨[.ref a], []⟩) (Ends1 s₁) s₁ := by
  have tracked : ∀ {b : Addr} {u : HO}, H b = some u → b = a := fun {b u} q => none_but b fun z => by rw [z] at q; cases q
  have untr : ∀ {b : Addr} {o : Obj} {es : Array DictEntry} {ep : Nat}, s₁.heap.get? b = some o → o.data = .dict es ep → H b = none := by
    intro b o es ep at_ dat
    cases q : H b with
    | none => rfl
    | some u =>
      obtain rfl := tracked q
      rw [script] at at_
      cases at_
      cases dat
  have keepNs : ∀ {b : Addr} {m : Str → Option Value}, s₁.heap.Ns b m → (hidT s₁.heap H).Ns b m := by
    rintro b m ⟨o, es, ep, at_, dat, rest⟩
    exact ⟨o, es, ep, hidT_get at_ (untr at_ dat), dat, rest⟩
  have kinB : K.In (hidT s₁.heap H) := by
    intro b o lk
    refine hidT_get (kin b o lk) ?_
    cases q : H b with
    | none => rfl
    | some u =>
      obtain rfl := tracked q
      have := notK fun z => by rw [z] at q; cases q
      rw [this] at lk
      cases lk
  obtain ⟨mc, n1, n2⟩ := nol
  have md : Mod K mg (hidT s₁.heap H) := ⟨kinB, keepNs nsm, ⟨mb, keepNs nsb, bts⟩, mc, keepNs n1, n2⟩
  have nil_mem : ∀ b : Addr, b ∈ ([] : List Addr) → False := fun b z => by cases z
  have env : Env0 P w K mg (hidT s₁.heap H) callerA [] s₁ H := ⟨rfl, md, fun b o z => of_hidT z, Nat.le_of_eq (hidT_size _ _), trivial, fun b z => (nil_mem b z).elim, hok, .of_eq gens⟩
  have go := (F _ kinB (keepNs nsm)).run callerA [] s₁ H ⟨[.ref a], []⟩ [.ref a] [.ref a] (fun v _ => v = .bl true) E0 rfl room env (binds s₁ (.ref a)) (.cons rfl .nil) spec
  refine codeAny_mono go ?_
  intro r s' z
  match r, z with
  | .error _, z => exact False.elim z
  | .ok .next, z => exact False.elim z
  | .ok .brk, z => exact False.elim z
  | .ok .cont, z => exact False.elim z
  | .ok (.ret u), ⟨v, H', os, bare, un, hok', rv, q⟩ =>
    have q : v = .bl true := q
    subst q
    obtain rfl : u = Value.bool true := rv
    refine ⟨rfl, OldK.of_keep ?_, os, bare⟩
    intro b o at_
    cases hb : H b with
    | none => exact un.keep b o at_ hb (fun z => nil_mem b z) (fun z => nil_mem b z)
    | some u =>
      rcases only b with z | ⟨ob, xs, z⟩
      · rw [hb] at z; cases z
      · have before := (hok b _ z).1
        have after := (hok' b _ (un.frzs b ob _ z)).1
        rw [at_] at before
        cases before
        exact after
theorem head_call (kin : K.In s₁.heap) (nsm : s₁.heap.Ns mainGlobals mg) (nsb : s₁.heap.Ns builtinsNs mb) (bts : ∀ x : Str, x ≠ "__name__" → mb x = bootBuiltins x) (nol : s₁.heap.NoLimit) (gens : s₁.gens = #[])
    (script : s₁.heap.get? a = some { cls := .type "list", data := .seq vs.toArray }) (nums : IntsAre vs ns) (short : ns.length ≤ sizeLine) (room : Room k callerA)
    (F : ∀ base : Heap, K.In base → base.Ns mainGlobals mg → FnG P w K mg base k fa fd [x] sp) (binds : ∀ (s : Shared) (u : Value), BindsTo s fd ⟨[u], []⟩ [(x, u)])
    (spec : ∀ H : Hp, L2.Only H → SqL K H a (ns.map V.int) → sp [.ref a] H (fun v _ => v = .bl true) E0) : codeAny (model P w) callerA (.call (.ref fa) ⟨[.ref a], []⟩) (Ends1 s₁) s₁ := by
  have vals := vals_ints nums
  have size := nums.length
  have run := fun {H : Hp} (o : L2.Only H) (q : SqL K H a (ns.map V.int)) => head_core (P := P) (w := w) (H := H) kin nsm nsb bts nol gens script room F binds o q
  cases own : K.lookup a with
  | some ob =>
    have at_ := kin a ob own
    rw [script] at at_
    cases at_
    have only : L2.Only fun _ => none := fun _ => .inl rfl
    have seq : SqL K (fun _ => none) a (ns.map V.int) := .inr ⟨_, vs.toArray, _, own, rfl, rfl, rfl, by rw [List.size_toArray, size]; exact short, by simpa using vals⟩
    exact run only seq (fun b u z => by cases z) (fun b z => absurd rfl z) (fun z => absurd rfl z) (spec _ only seq)
  | none =>
    let H : Hp := fun b => if b = a then some (.frz { cls := .type "list", data := .seq vs.toArray } (.lst (ns.map V.int))) else none
    have here : H a = some (.frz { cls := .type "list", data := .seq vs.toArray } (.lst (ns.map V.int))) := if_pos rfl
    have off : ∀ b, b ≠ a → H b = none := fun b z => if_neg z
    have only : L2.Only H := fun b => by
      by_cases hb : b = a
      · subst hb; exact .inr ⟨_, _, here⟩
      · exact .inl (off b hb)
    have seq : SqL K H a (ns.map V.int) := .inl (.inr ⟨_, here⟩)
    refine run only seq ?_ ?_ (fun _ => own) (spec _ only seq)
    · intro b u z
      by_cases hb : b = a
      · subst hb
        rw [here] at z
        cases z
        exact ⟨script, by rw [List.length_map]; exact short, vs, _, vals, script⟩
      · rw [off b hb] at z; cases z
    · intro b z
      by_cases hb : b = a
      · exact hb
      · exact absurd (off b hb) z
end
theorem walk_ofG {l : PySem.W.OpenLaw} {n k : Nat} {q : Program} {loose : List Str} {XP : (Str → Option Value) → Heap → Prop} {YP : World → Heap → Prop} {d : DefRec} {K : Params → PySem.W.Frag} {sp : World → Sp} {x : Str}
    (hn : l.most = some n) (small : n ≤ sizeLine) (nodef : d.params.defaults = []) (room : Room k callerA) (kin : ∀ (w : World) (h : Heap), YP w h → (K w.params).In h)
    (F : ∀ (w : World) (mg : Str → Option Value) (fa : Addr) (h : Heap), (K w.params).In h → h.Ns mainGlobals mg → mg d.name = some (.ref fa) →
      ∃ fd : FuncData, (∀ (s : Shared) (u : Value), BindsTo s fd ⟨[u], []⟩ [(x, u)]) ∧ ∀ base : Heap, (K w.params).In base → base.Ns mainGlobals mg → FnG l.prog w (K w.params) mg base k fa fd [x] (sp w))
    (spec : ∀ (w : World) (H : Hp) (a : Addr) (ns : List Int), ns.length ≤ n → L2.Only H → SqL (K w.params) H a (ns.map V.int) → sp w [.ref a] H (fun v _ => v = .bl true) E0) :
    PySem.W.WalkO q loose XP YP l.row.toRowW d [] (fun f vs => PySem.call f vs) := by
  refine Att.attach_call hn nodef fun w s₀ s₁ mg mb fa o pm cd doc a vs ns G Y ho hd hcd named obj nums len gens => ?_
  have here := kin w _ Y
  obtain ⟨fd, binds, ok⟩ := F w mg fa _ here G.T.g named
  exact head_call here G.T.g G.T.b G.T.builtins G.T.nolimit gens obj nums (Nat.le_trans len small) room ok binds fun H o q => spec w H a ns len o q
end Wk

/-! Wk6: defs: what is handed in, what comes back; calls; statements. -/
namespace Wk
open PySem PySem.Spec PyProof.Rows L2
variable [Ctx]

/-! ### what is handed in, what comes back -/
inductive Arg where
  | val (d : D)
  | io (d : D)
  | pen
  | scr
  | fn (j : Nat)
inductive Ores where
  | val (d : D)
  | fresh (d : D)
  | arg (j : Nat)
structure Out where
  res : Ores
  ios : List (D × Bool)
abbrev Sem' := List Arg → T Out
inductive ArgsOk (K : PySem.W.Frag) (Hi H : Hp) (pp : Option Addr) : List V → List Arg → List Addr → Prop
  | nil : ArgsOk K Hi H pp [] [] []
  | val {v : V} {vs : List V} {d : D} {as : List Arg} {ins : List Addr} : Rp K Hi v d → ArgsOk K Hi H pp vs as ins → ArgsOk K Hi H pp (v :: vs) (.val d :: as) ins
  | io {a : Addr} {vs : List V} {d : D} {as : List Arg} {ins : List Addr} : OwnAt K Hi H a d → Hi a = none → ArgsOk K Hi H pp vs as ins → ArgsOk K Hi H pp (.ref a :: vs) (.io d :: as) (a :: ins)
  | pen {p : Addr} {vs : List V} {as : List Arg} {ins : List Addr} : pp = some p → ArgsOk K Hi H pp vs as ins → ArgsOk K Hi H pp (.ref p :: vs) (.pen :: as) ins
  | scr {a : Addr} {ns : List Int} {vs : List V} {as : List Arg} {ins : List Addr} : SqL K Hi a (ns.map V.int) → ns.length ≤ 63 → ArgsOk K Hi H pp vs as ins → ArgsOk K Hi H pp (.ref a :: vs) (.scr :: as) ins
  | fn {j : Nat} {f : Addr} {vs : List V} {as : List Arg} {ins : List Addr} : Ctx.pf j f → ArgsOk K Hi H pp vs as ins → ArgsOk K Hi H pp (.ref f :: vs) (.fn j :: as) ins
def OresOk (K : PySem.W.Frag) (e : Ent) (Hi H : Hp) (v : V) : Ores → Prop
  | .val d => Rp K Hi v d
  | .fresh d => ∃ a, v = .ref a ∧ e.H a = none ∧ OwnAt K Hi H a d ∧ Hi a = none
  | .arg j => ∃ a, e.ins[j]? = some a ∧ v = .ref a
structure FnEnd (K : PySem.W.Frag) (e : Ent) (b : Nat) (Hi H : Hp) (out : Out) (v : V) : Prop where
  sub : Same Hi H
  old : Same e.Hi Hi
  same : ∀ a o, e.H a = some o → e.pp ≠ some a → a ∉ e.ins → H a = some o
  newi : ∀ a o, Hi a = some o → e.Hi a = some o ∨ e.H a = none ∨ a ∈ e.ins
  pen : ∀ p, e.pp = some p → PenAt b Hi H p ∧ Hi p = none
  len : out.ios.length = e.ins.length
  ios : ∀ (j : Nat) x a, out.ios[j]? = some x → e.ins[j]? = some a → ResOk K Hi H a x
  res : OresOk K e Hi H v out.res
  bud : b ≤ 2 ^ 23
def SpF (K : PySem.W.Frag) (n : Nat) (sem : Sem') : Sp := fun vs H Q _ => ∃ (b : Nat) (Hi : Hp) (pp : Option Addr) (ins : List Addr) (args : List Arg), vs.length = n ∧ b ≤ 2 ^ 23 ∧ Same Hi H ∧ ArgsOk K Hi H pp vs args ins ∧ ins.Nodup ∧
  (∀ p, pp = some p → PenAt b Hi H p ∧ Hi p = none ∧ p ∉ ins) ∧ (sem args).All b fun b' out => ∀ v H' Hi', FnEnd K ⟨Hi, H, pp, ins⟩ b' Hi' H' out v → Q v H'

/-! ### a call -/
def argOf (io : Bool) (ρ : En) : Rv → Option (Arg × List Nat × En)
  | .val d => some (.val d, [], ρ)
  | .pen => some (.pen, [], ρ)
  | .scr => some (.scr, [], ρ)
  | .fn j => some (.fn j, [], ρ)
  | .res k => match io, ρ.st[k]? with
    | true, some (d, false) => some (.io d, [k], ρ)
    | _, _ => match ρ.freeze (.res k) with
      | some (d, ρ1) => some (.val d, [], ρ1)
      | none => none
def argsOf (io : Bool) (ρ : En) : List Rv → Option (List Arg × List Nat × En)
  | [] => some ([], [], ρ)
  | r :: rs => match argOf io ρ r with
    | some (a, ks, ρ1) => (match argsOf io ρ1 rs with
      | some (as, ks', ρ2) => some (a :: as, ks ++ ks', ρ2)
      | none => none)
    | none => none
def setAll (st : List (D × Bool)) : List Nat → List (D × Bool) → List (D × Bool)
  | k :: ks, x :: xs => setAll (st.set k x) ks xs
  | _, _ => st
structure Fn where
  /-- whether things of the store are handed in as they are -/
  io : Bool
  n : Nat
  sem : Sem'
def callEnd (ks : List Nat) (ρ : En) (out : Out) : T (Rv × En) :=
  match out.res with
  | .val d => .ret (.val d, { ρ with st := setAll ρ.st ks out.ios })
  | .fresh d => .ret (.res (setAll ρ.st ks out.ios).length, En.alloc { ρ with st := setAll ρ.st ks out.ios } d)
  | .arg j => match ks[j]? with
    | some k => .ret (.res k, { ρ with st := setAll ρ.st ks out.ios })
    | none => .fail
def lives (ρ : En) (ks : List Nat) : Bool := ks.all fun k => match ρ.st[k]? with
  | some (_, false) => true
  | _ => false
def mOwn (F : Fn) (mr : MA) : ME := fun ρ => (mr ρ).bind fun p => match argsOf F.io p.2 p.1 with
  | some (args, ks, ρ1) => if lives ρ1 ks && decide ks.Nodup && decide (p.1.length = F.n) then (F.sem args).bind (callEnd ks ρ1) else .fail
  | none => .fail
section
variable {K : PySem.W.Frag} {e : Ent} {b b' : Nat} {as : List Addr} {Hi Hi' H H' : Hp} {ρ ρ' : En} {σ σ' : L2.St}
theorem setAll_length : ∀ (ks : List Nat) (xs st : List (D × Bool)), (setAll st ks xs).length = st.length
  | [], _, _ => by unfold setAll; rfl
  | _ :: _, [], _ => by unfold setAll; rfl
  | k :: ks, x :: xs, st => by unfold setAll; rw [setAll_length ks xs, List.length_set]
theorem setAll_get : ∀ (ks : List Nat) (xs st : List (D × Bool)) (k : Nat) (x : D × Bool), ks.length = xs.length → (setAll st ks xs)[k]? = some x → (∃ j : Nat, ks[j]? = some k ∧ xs[j]? = some x) ∨ (k ∉ ks ∧ st[k]? = some x)
  | [], _, _, _, _, _, h => .inr ⟨by simp, by unfold setAll at h; exact h⟩
  | _ :: _, [], _, _, _, hl, _ => by simp at hl
  | k' :: ks, x' :: xs, st, k, x, hl, h => by
    unfold setAll at h
    rcases setAll_get ks xs (st.set k' x') k x (by simpa using hl) h with ⟨j, h1, h2⟩ | ⟨h1, h2⟩
    · exact .inl ⟨j + 1, by simpa using h1, by simpa using h2⟩
    · rcases getElem?_set_cases h2 with ⟨rfl, rfl⟩ | ⟨hne, h3⟩
      · exact .inl ⟨0, rfl, rfl⟩
      · exact .inr ⟨by simp only [List.mem_cons, not_or]; exact ⟨hne, h1⟩, h3⟩
/-- the store's places and their addresses -/
inductive At (as : List Addr) : List Nat → List Addr → Prop
  | nil : At as [] []
  | cons {k : Nat} {ks : List Nat} {a : Addr} {ins : List Addr} : as[k]? = some a → At as ks ins → At as (k :: ks) (a :: ins)
theorem At.append {ks ks' : List Nat} {ins ins' : List Addr} (h : At as ks ins) (h' : At as ks' ins') : At as (ks ++ ks') (ins ++ ins') := by
  induction h with
  | nil => exact h'
  | cons q _ ih => exact .cons q ih
theorem At.length {ks : List Nat} {ins : List Addr} (h : At as ks ins) : ks.length = ins.length := by
  induction h with
  | nil => rfl
  | cons _ _ ih => simp [ih]
theorem At.get : ∀ {ks : List Nat} {ins : List Addr}, At as ks ins → ∀ {j k : Nat}, ks[j]? = some k → ∃ a, ins[j]? = some a ∧ as[k]? = some a
  | _, _, .nil, j, k, q => by simp at q
  | _, _, .cons h _, 0, k, q => by simp at q; subst q; exact ⟨_, rfl, h⟩
  | _, _, .cons _ t, j + 1, k, q => by
    obtain ⟨a, h1, h2⟩ := t.get (j := j) (k := k) (by simpa using q)
    exact ⟨a, by simpa using h1, h2⟩
theorem At.mem {ks : List Nat} {ins : List Addr} (h : At as ks ins) {a : Addr} (ha : a ∈ ins) : ∃ k ∈ ks, as[k]? = some a := by
  induction h with
  | nil => simp at ha
  | cons q _ ih =>
    rcases List.mem_cons.mp ha with rfl | ha
    · exact ⟨_, List.mem_cons_self, q⟩
    · obtain ⟨k, h1, h2⟩ := ih ha
      exact ⟨k, List.mem_cons_of_mem _ h1, h2⟩
theorem At.nodup {ks : List Nat} {ins : List Addr} (h : At as ks ins) (nd : as.Nodup) (hk : ks.Nodup) : ins.Nodup := by
  induction h with
  | nil => simp
  | @cons k ks a ins q t ih =>
    rw [List.nodup_cons] at hk ⊢
    refine ⟨fun z => ?_, ih hk.2⟩
    obtain ⟨k', h1, h2⟩ := t.mem z
    have := nodup_at nd q h2
    exact hk.1 (this ▸ h1)
theorem ArgsOk.mono {pp : Option Addr} {vs : List V} {args : List Arg} {ins : List Addr} (h : ArgsOk K Hi H pp vs args ins) (s : Same Hi Hi') (k : ∀ a ∈ ins, Hi' a = none) : ArgsOk K Hi' H pp vs args ins := by
  induction h with
  | nil => exact .nil
  | val r _ ih => exact .val (r.mono s) (ih k)
  | io o _ _ ih => exact .io (o.mono s fun _ q => q) (k _ List.mem_cons_self) (ih fun a ha => k a (List.mem_cons_of_mem _ ha))
  | pen q _ ih => exact .pen q (ih k)
  | scr q l _ ih => exact .scr (sqL_mono s q) l (ih k)
  | fn q _ ih => exact .fn q (ih k)
theorem SO.arg (S : SO K e b as Hi ρ σ H) {io : Bool} {v : V} {r : Rv} {a : Arg} {ks : List Nat} (hr : RvOk K e Hi as v r) (h : argOf io ρ r = some (a, ks, ρ')) :
    ∃ Hi' ins, Ext Hi as Hi' as ∧ SO K e b as Hi' ρ' σ H ∧ At as ks ins ∧ (∀ k ∈ ks, ∃ d, ρ'.st[k]? = some (d, false)) ∧ ArgsOk K Hi' H e.pp [v] [a] ins := by
  cases r with
  | val d => cases h; exact ⟨Hi, [], Ext.refl _ _, S, .nil, fun _ z => absurd z (by simp), .val hr .nil⟩
  | pen =>
    cases h
    obtain ⟨p, hp, rfl⟩ := hr
    exact ⟨Hi, [], Ext.refl _ _, S, .nil, fun _ z => absurd z (by simp), .pen hp .nil⟩
  | scr =>
    cases h
    obtain ⟨p, ns, rfl, hp, hl⟩ := hr
    exact ⟨Hi, [], Ext.refl _ _, S, .nil, fun _ z => absurd z (by simp), .scr hp hl .nil⟩
  | fn j =>
    cases h
    obtain ⟨f, hf, rfl⟩ := hr
    exact ⟨Hi, [], Ext.refl _ _, S, .nil, fun _ z => absurd z (by simp), .fn hf .nil⟩
  | res k =>
    have frz : ∀ {d ρ1}, ρ.freeze (.res k) = some (d, ρ1) → a = .val d → ks = [] → ρ' = ρ1 → ∃ Hi' ins, Ext Hi as Hi' as ∧ SO K e b as Hi' ρ' σ H ∧ At as ks ins ∧ (∀ k ∈ ks, ∃ d, ρ'.st[k]? = some (d, false)) ∧ ArgsOk K Hi' H e.pp [v] [a] ins := by
      rintro d ρ1 hf rfl rfl rfl
      obtain ⟨Hi1, x1, S1, r1⟩ := S.frz hr hf
      exact ⟨Hi1, [], x1, S1, .nil, fun _ z => absurd z (by simp), .val r1 .nil⟩
    simp only [argOf] at h
    split at h
    · rename_i d hk
      cases h
      obtain ⟨p, hp, rfl⟩ := hr
      obtain ⟨own, hn⟩ := S.res k _ p hk hp
      exact ⟨Hi, [p], Ext.refl _ _, S, .cons hp .nil, fun k' z => by simp at z; subst z; exact ⟨d, hk⟩, .io own hn .nil⟩
    · split at h
      · rename_i d ρ1 hf
        cases h
        exact frz hf rfl rfl rfl
      · cases h
theorem ArgsOk.append {pp : Option Addr} {vs ws : List V} {as bs : List Arg} {ins jns : List Addr} (h : ArgsOk K Hi H pp vs as ins) (h' : ArgsOk K Hi H pp ws bs jns) : ArgsOk K Hi H pp (vs ++ ws) (as ++ bs) (ins ++ jns) := by
  induction h with
  | nil => exact h'
  | val r _ ih => exact .val r ih
  | io o n _ ih => exact .io o n ih
  | pen q _ ih => exact .pen q ih
  | scr q l _ ih => exact .scr q l ih
  | fn q _ ih => exact .fn q ih
/-- what is frozen later was no thing that is handed in -/
theorem freeze_live {r : Rv} {d : D} (h : ρ.freeze r = some (d, ρ')) {k : Nat} {d' : D} (hk : ρ'.st[k]? = some (d', false)) : ρ.st[k]? = some (d', false) := by
  cases r with
  | val d => cases h; exact hk
  | res j =>
    simp only [En.freeze] at h
    split at h
    · cases h
      rcases getElem?_set_cases hk with ⟨_, z⟩ | ⟨_, z⟩
      · cases z
      · exact z
    · cases h
  | pen => cases h
  | scr => cases h
  | fn j => cases h
theorem argOf_live {io : Bool} {r : Rv} {a : Arg} {ks : List Nat} (h : argOf io ρ r = some (a, ks, ρ')) {k : Nat} {d' : D} (hk : ρ'.st[k]? = some (d', false)) : ρ.st[k]? = some (d', false) := by
  cases r with
  | val d => cases h; exact hk
  | pen => cases h; exact hk
  | scr => cases h; exact hk
  | fn j => cases h; exact hk
  | res j =>
    simp only [argOf] at h
    split at h
    · cases h; exact hk
    · split at h
      · rename_i hf; cases h; exact freeze_live hf hk
      · cases h
theorem SO.args : ∀ {vs : List V} {rs : List Rv} {args : List Arg} {ks : List Nat} {ρ ρ' : En} {Hi : Hp} {io : Bool}, SO K e b as Hi ρ σ H → RvsOk K e Hi as vs rs → argsOf io ρ rs = some (args, ks, ρ') → (∀ k ∈ ks, ∃ d, ρ'.st[k]? = some (d, false)) →
    ∃ Hi' ins, Ext Hi as Hi' as ∧ SO K e b as Hi' ρ' σ H ∧ At as ks ins ∧ ArgsOk K Hi' H e.pp vs args ins
  | _, _, _, _, _, _, Hi, _, S, .nil, h, _ => by cases h; exact ⟨Hi, [], Ext.refl _ _, S, .nil, .nil⟩
  | _, _, _, _, ρ, _, Hi, io, S, .cons hv hr, h, hl => by
    simp only [argsOf] at h
    split at h
    · rename_i a ks1 ρ1 h1
      obtain ⟨Hi1, ins1, x1, S1, at1, l1, a1⟩ := S.arg hv h1
      split at h
      · rename_i args' ks2 ρ2 h2
        cases h
        obtain ⟨Hi2, ins2, x2, S2, at2, a2⟩ := SO.args S1 (hr.mono x1) h2 fun k hk => hl k (List.mem_append_right _ hk)
        refine ⟨Hi2, ins1 ++ ins2, x1.trans x2, S2, at1.append at2, ArgsOk.append (a1.mono x2.hi fun c hc => ?_) a2⟩
        obtain ⟨k, hk, hc'⟩ := at1.mem hc
        obtain ⟨d, hd⟩ := hl k (List.mem_append_left _ hk)
        exact (S2.res k _ c hd hc').2
      · cases h
    · cases h
/-- behind a call -/
theorem SO.called (S : SO K e b as Hi ρ σ H) {ks : List Nat} {ins : List Addr} (hat : At as ks ins) {out : Out} {v : V} (F : FnEnd K ⟨Hi, H, e.pp, ins⟩ b' Hi' H' out v) : SO K e b' as Hi' { ρ with st := setAll ρ.st ks out.ios } σ H' := by
  have hlen : ks.length = out.ios.length := hat.length.trans F.len.symm
  refine ⟨F.sub, S.len, fun i r h => ?_, ?_, fun k x a hx ha => ?_, S.nd, S.wr, S.pre, fun p hp => ?_, S.old.trans F.old, fun a o h1 h2 h3 => ?_, fun a o h => ?_, F.bud⟩
  · obtain ⟨w, h1, h2⟩ := S.slt i r h
    exact ⟨w, h1, h2.mono ⟨F.old, List.prefix_refl _⟩⟩
  · show as.length = (setAll ρ.st ks out.ios).length
    rw [setAll_length]; exact S.alen
  · rcases setAll_get ks out.ios ρ.st k x hlen hx with ⟨j, h1, h2⟩ | ⟨h1, h2⟩
    · obtain ⟨c, h3, h4⟩ := hat.get h1
      rw [ha] at h4; cases h4
      exact F.ios j x a h2 h3
    · have na : a ∉ ins := fun z => by
        obtain ⟨k', h3, h4⟩ := hat.mem z
        exact h1 (nodup_at S.nd h4 ha ▸ h3)
      have np : e.pp ≠ some a := fun z => (S.penok a z).2.2 (List.mem_of_getElem? ha)
      refine (S.res k x a h2 ha).mono F.old (fun o q => F.same a o q np na) fun n => ?_
      cases q : Hi' a with
      | none => rfl
      | some o =>
        rcases F.newi a o q with z | z | z
        · have z : Hi a = some o := z
          rw [n] at z; cases z
        · have z : H a = none := z
          obtain ⟨o', z'⟩ := S.resThere (List.mem_of_getElem? ha)
          rw [z] at z'; cases z'
        · exact absurd z na
  · obtain ⟨_, _, z⟩ := S.penok p hp
    obtain ⟨h1, h2⟩ := F.pen p hp
    exact ⟨h1, h2, z⟩
  · refine F.same a o (S.same a o h1 h2 h3) h2 fun z => ?_
    obtain ⟨k, _, hk⟩ := hat.mem z
    rcases S.wr a (List.mem_of_getElem? hk) with w | w
    · rw [h1] at w; cases w
    · exact h3 w
  · rcases F.newi a o h with z | z | z
    · exact S.newi a o z
    · exact .inr (.inl (S.new z).1)
    · obtain ⟨k, _, hk⟩ := hat.mem z
      exact .inr (S.wr a (List.mem_of_getElem? hk))
end
section
variable {X : Cx} {pos : Pos}
theorem RvsOk.length {K : PySem.W.Frag} {e : Ent} {Hi : Hp} {as : List Addr} : ∀ {vs : List V} {rs : List Rv}, RvsOk K e Hi as vs rs → vs.length = rs.length
  | _, _, .nil => rfl
  | _, _, .cons _ r => congrArg (· + 1) r.length
/-- the arguments are ready: the call -/
theorem own_core {F : Fn} {e : Ent} {b1 : Nat} {as as1 : List Addr} {Hi Hi1 : Hp} {p : List Rv × En} {σ : L2.St} {H1 : Hp} {R : VK} {E : XK} {vs : List V} (x1 : Ext Hi as Hi1 as1) (S1 : SO X.K e b1 as1 Hi1 p.2 σ H1) (r1 : RvsOk X.K e Hi1 as1 vs p.1)
    (h1 : (match argsOf F.io p.2 p.1 with
      | some (args, ks, ρ1) => if lives ρ1 ks && decide ks.Nodup && decide (p.1.length = F.n) then (F.sem args).bind (callEnd ks ρ1) else .fail
      | none => .fail).All b1 (Post X.K e as Hi σ R)) : SpF X.K F.n F.sem vs H1 R E := by
  split at h1
  · rename_i args ks ρ1 ha
    split at h1
    · rename_i hnd
      simp only [Bool.and_eq_true, decide_eq_true_eq] at hnd
      obtain ⟨⟨hlv, hnd⟩, hlen⟩ := hnd
      obtain ⟨Hi2, ins, x2, S2, hat, aok⟩ := S1.args r1 ha fun k hk => by
        have q := List.all_eq_true.mp hlv k hk
        split at q
        · rename_i d hd; exact ⟨d, hd⟩
        · cases q
      refine ⟨b1, Hi2, e.pp, ins, args, by rw [r1.length]; exact hlen, S2.bud, S2.sub, aok, hat.nodup S2.nd hnd, fun p hp => ?_, (T.all_bind.mp h1).mono fun b2 out _ h2 v H3 Hi3 F3 => ?_⟩
      · obtain ⟨q1, q2, q3⟩ := S2.penok p hp
        exact ⟨q1, q2, fun z => by obtain ⟨k, _, hk⟩ := hat.mem z; exact q3 (List.mem_of_getElem? hk)⟩
      · have S3 := S2.called hat F3
        have x3 : Ext Hi as Hi3 as1 := (x1.trans x2).trans ⟨F3.old, List.prefix_refl _⟩
        have rr := F3.res
        unfold callEnd at h2
        split at h2
        · rename_i d hd
          rw [hd] at rr
          exact h2 v H3 Hi3 as1 x3 S3 rr
        · rename_i d hd
          rw [hd] at rr
          obtain ⟨a, rfl, q1, q2, q3⟩ := rr
          have q1 : H1 a = none := q1
          obtain ⟨n1, n2, n3, n4⟩ := S2.new q1
          refine h2 (.ref a) H3 Hi3 (as1 ++ [a]) (x3.trans ⟨Same.refl _, List.prefix_append _ _⟩) (S3.adopt q3 n2 n3 n1 q2) ⟨a, ?_, rfl⟩
          have e1 : (setAll ρ1.st ks out.ios).length = as1.length := S3.alen.symm
          rw [e1, List.getElem?_append_right (Nat.le_refl _), Nat.sub_self]
          rfl
        · rename_i j hj
          rw [hj] at rr
          obtain ⟨a, q1, rfl⟩ := rr
          split at h2
          · rename_i k hk
            obtain ⟨a', q2, q3⟩ := hat.get hk
            have q1 : ins[j]? = some a := q1
            rw [q1] at q2; cases q2
            exact h2 (.ref a) H3 Hi3 as1 x3 S3 ⟨a, q3, rfl⟩
          · exact h2.elim
    · exact h1.elim
  · exact h1.elim
theorem own_post {F : Fn} {mr : MA} {es : List Expr} (hr : SndA X es mr) {e : Ent} {b : Nat} {as : List Addr} {Hi : Hp} {ρ : En} {σ : L2.St} {H : Hp} {R : VK} {E : XK}
    (S : SO X.K e b as Hi ρ σ H) (h : (mOwn F mr ρ).All b (Post X.K e as Hi σ R)) : ArOk X es σ H fun vs H1 => SpF X.K F.n F.sem vs H1 R E := by
  refine hr e b as Hi ρ σ H _ S ((T.all_bind.mp h).mono fun b1 p _ h1 vs H1 Hi1 as1 x1 S1 r1 => ?_)
  exact own_core x1 S1 r1 h1
theorem snd_own {F : Fn} {f : Addr} {fd : FuncData} {ps : List Str} {k : Nat} {x : Str} {a : Expr} {r : List Expr} {mr : MA} {p : Pos} (G : FnG X.prog X.w X.K X.mg X.base k f fd ps (SpF X.K F.n F.sem)) (gd : X.A.guards = some []) (hroom : Room k X.A) (hg : Gl X x) (hm : X.mg x = some (.ref f)) (hk : PySem.W.keepIn X.K (.ref f) = true) (hb : Binds X.K fd ps [])
    (hr : SndA X (a :: r) mr) (hdb : (x == ("__debug__" : Str)) = false) (he : starEach (a :: r) X.env = (false, eval a X.env) :: starEach r X.env) (hpl : (backTo pos (starEach r X.env)).any (·.1) = false) : Snd X (.Call (.Name x p) (a :: r) [] pos) (mOwn F mr) := fun e b as Hi ρ σ H R S h =>
  .of (pe_callG G gd hroom hg hm hk hb (pa_tA X _) hdb he hpl) (own_post hr S h)
theorem snd_own0 {F : Fn} {f : Addr} {fd : FuncData} {ps : List Str} {k : Nat} {x : Str} {p : Pos} (G : FnG X.prog X.w X.K X.mg X.base k f fd ps (SpF X.K F.n F.sem)) (gd : X.A.guards = some []) (hroom : Room k X.A) (hg : Gl X x) (hm : X.mg x = some (.ref f)) (hk : PySem.W.keepIn X.K (.ref f) = true) (hb : Binds X.K fd ps [])
    (hdb : (x == ("__debug__" : Str)) = false) : Snd X (.Call (.Name x p) [] [] pos) (mOwn F maNil) := fun e b as Hi ρ σ H R S h => by
  refine .of (pe_call0G G gd hroom hg hm hk hb hdb) ?_
  exact own_core (E := E0) (p := ([], ρ)) (Ext.refl Hi as) S .nil h
end

/-! ### statements -/
inductive Fl where
  | nx
  | bk
  | ct
  | rt (r : Rv)
abbrev MS := En → T (Fl × En)
def PostS (K : PySem.W.Frag) (e : Ent) (as : List Addr) (Hi : Hp) (D : Ends) : Nat → Fl × En → Prop := fun b' p =>
  ∀ σ' H' Hi' as', Ext Hi as Hi' as' → SO K e b' as' Hi' p.2 σ' H' → match p.1 with
    | .nx => D.nx σ' H'
    | .bk => D.bk σ' H'
    | .ct => D.ct σ' H'
    | .rt r => ∀ v, RvOk K e Hi' as' v r → D.rt v H'
theorem PostS.ext {K : PySem.W.Frag} {e : Ent} {as as1 : List Addr} {Hi Hi1 : Hp} {D : Ends} {b' : Nat} {p : Fl × En} (h : PostS K e as Hi D b' p) (x : Ext Hi as Hi1 as1) : PostS K e as1 Hi1 D b' p := fun σ' H' Hi' as' y => h σ' H' Hi' as' (x.trans y)
section
variable (X : Cx)
def SOk (st : Stmt) (D : Ends) (σ : L2.St) (H : Hp) : Prop := ∀ pins s, Inv X pins σ H s → wpAny (model X.prog X.w) X.A (exec st X.env) (SP X pins D) X.xe s
def SsOk (st : List Stmt) (D : Ends) (σ : L2.St) (H : Hp) : Prop := ∀ pins s, Inv X pins σ H s → wpAny (model X.prog X.w) X.A (execs st X.env) (SP X pins D) X.xe s
def tS (st : Stmt) : TS := fun D σ H => SOk X st D σ H
def tSs (st : List Stmt) : TS := fun D σ H => SsOk X st D σ H
theorem ps_tS (st : Stmt) : PS X st (tS X st) := ⟨fun pins s σ H D I h => h pins s I⟩
theorem pss_tSs (st : List Stmt) : PSs X st (tSs X st) := ⟨fun pins s σ H D I h => h pins s I⟩
def SndS (st : Stmt) (m : MS) : Prop := ∀ e b as Hi ρ σ H D, SO X.K e b as Hi ρ σ H → (m ρ).All b (PostS X.K e as Hi D) → SOk X st D σ H
def SndSs (st : List Stmt) (m : MS) : Prop := ∀ e b as Hi ρ σ H D, SO X.K e b as Hi ρ σ H → (m ρ).All b (PostS X.K e as Hi D) → SsOk X st D σ H
variable {X}
theorem SOk.of {st : Stmt} {D : Ends} {σ : L2.St} {H : Hp} {t : TS} (h : PS X st t) (q : t D σ H) : SOk X st D σ H := fun pins s I => h.run pins s σ H D I q
/-- what holds, the dict unlocked again -/
def ULD (X : Cx) (D : Ends) : Ends where
  nx := fun σ H => D.nx σ H ∨ ∃ a o kvs, H a = some (.frz o (.dK kvs)) ∧ (∀ o' u', X.H_0 a ≠ some (.frz o' u')) ∧ D.nx σ (upd H a (.dK kvs))
  rt := ULR X D.rt
  bk := fun σ H => D.bk σ H ∨ ∃ a o kvs, H a = some (.frz o (.dK kvs)) ∧ (∀ o' u', X.H_0 a ≠ some (.frz o' u')) ∧ D.bk σ (upd H a (.dK kvs))
  ct := fun σ H => D.ct σ H ∨ ∃ a o kvs, H a = some (.frz o (.dK kvs)) ∧ (∀ o' u', X.H_0 a ≠ some (.frz o' u')) ∧ D.ct σ (upd H a (.dK kvs))
theorem SOk.unl {st : Stmt} {D : Ends} {σ : L2.St} {H : Hp} (h : SOk X st (ULD X D) σ H) : SOk X st D σ H := fun pins s I => by
  refine wpAny_mono (h pins s I) (fun f s1 q => ?_) fun _ _ z => z
  cases f with
  | next =>
    obtain ⟨σ1, H1, I1, q⟩ := q
    rcases q with q | ⟨a, o, kvs, ha, nf, q⟩
    · exact ⟨σ1, H1, I1, q⟩
    · exact ⟨σ1, _, I1.unlock ha nf, q⟩
  | brk =>
    obtain ⟨σ1, H1, I1, q⟩ := q
    rcases q with q | ⟨a, o, kvs, ha, nf, q⟩
    · exact ⟨σ1, H1, I1, q⟩
    · exact ⟨σ1, _, I1.unlock ha nf, q⟩
  | cont =>
    obtain ⟨σ1, H1, I1, q⟩ := q
    rcases q with q | ⟨a, o, kvs, ha, nf, q⟩
    · exact ⟨σ1, H1, I1, q⟩
    · exact ⟨σ1, _, I1.unlock ha nf, q⟩
  | ret u =>
    obtain ⟨v, σ1, H1, I1, rv, q⟩ := q
    rcases q with q | ⟨a, o, kvs, ha, nf, q⟩
    · exact ⟨v, σ1, H1, I1, rv, q⟩
    · exact ⟨v, σ1, _, I1.unlock ha nf, rv, q⟩
theorem PostS.unl {e : Ent} {b0 : Nat} {as0 : List Addr} {Hi0 H0 : Hp} {ρ0 : En} {σ0 : L2.St} {a : Addr} {o : Obj} {kvs : List (Key × V)} {D : Ends} (S0 : SO X.K e b0 as0 Hi0 ρ0 σ0 H0) (h : Hi0 a = some (.dK kvs)) (nf : ∀ o' u', X.H_0 a ≠ some (.frz o' u')) {b' : Nat} {p : Fl × En}
    (q : PostS X.K e as0 Hi0 D b' p) : PostS X.K (lkE a o e) as0 (lkH a o Hi0) (ULD X D) b' p := fun σ' H' Hi' as' x S => by
  obtain ⟨h1, h2, h3, h4⟩ := S0.unlock h x S
  have z := q σ' _ _ as' h3 h4
  obtain ⟨f, ρ1⟩ := p
  cases f with
  | nx => exact .inr ⟨a, o, kvs, h2, nf, z⟩
  | bk => exact .inr ⟨a, o, kvs, h2, nf, z⟩
  | ct => exact .inr ⟨a, o, kvs, h2, nf, z⟩
  | rt r => exact fun v rv => .inr ⟨a, o, kvs, h2, nf, z v (rv.ul h1)⟩
theorem PostS.inl {e : Ent} {as : List Addr} {Hi : Hp} {D : Ends} {b' : Nat} {p : Fl × En} (q : PostS X.K e as Hi D b' p) : PostS X.K e as Hi (ULD X D) b' p := fun σ' H' Hi' as' x S => by
  have z := q σ' H' Hi' as' x S
  obtain ⟨f, ρ1⟩ := p
  cases f with
  | nx => exact .inl z
  | bk => exact .inl z
  | ct => exact .inl z
  | rt r => exact fun v rv => .inl (z v rv)
theorem SsOk.of {st : List Stmt} {D : Ends} {σ : L2.St} {H : Hp} {t : TS} (h : PSs X st t) (q : t D σ H) : SsOk X st D σ H := fun pins s I => h.run pins s σ H D I q
end
section
variable {X : Cx} {pos : Pos}
def sNil : MS := fun ρ => .ret (.nx, ρ)
def sSeq (m r : MS) : MS := fun ρ => (m ρ).bind fun p => match p.1 with
  | .nx => r p.2
  | f => .ret (f, p.2)
theorem snds_nil : SndSs X [] sNil := fun e b as Hi ρ σ H D S h => .of pss_nil (h σ H Hi as (Ext.refl _ _) S)
theorem snds_cons {st : Stmt} {r : List Stmt} {m mr : MS} (h1 : SndS X st m) (h2 : SndSs X r mr) : SndSs X (st :: r) (sSeq m mr) := fun e b as Hi ρ σ H D S h => by
  refine .of (pss_cons (ps_tS X st) (pss_tSs X r)) (h1 e b as Hi ρ σ H _ S ((T.all_bind.mp h).mono fun b1 p _ q σ1 H1 Hi1 as1 x1 S1 => ?_))
  obtain ⟨f, ρ1⟩ := p
  cases f with
  | nx => exact h2 e b1 as1 Hi1 ρ1 σ1 H1 D S1 (T.All.mono q fun _ _ _ z => z.ext x1)
  | bk => exact q σ1 H1 Hi1 as1 x1 S1
  | ct => exact q σ1 H1 Hi1 as1 x1 S1
  | rt r => exact q σ1 H1 Hi1 as1 x1 S1
def sFl (f : Fl) : MS := fun ρ => .ret (f, ρ)
theorem snds_pass : SndS X (.Pass pos) sNil := fun e b as Hi ρ σ H D S h => .of ps_pass (h σ H Hi as (Ext.refl _ _) S)
theorem snds_break : SndS X (.Break pos) (sFl .bk) := fun e b as Hi ρ σ H D S h => .of ps_break (h σ H Hi as (Ext.refl _ _) S)
theorem snds_continue : SndS X (.Continue pos) (sFl .ct) := fun e b as Hi ρ σ H D S h => .of ps_continue (h σ H Hi as (Ext.refl _ _) S)
theorem snds_doc {x j p2} : SndS X (.Expr (.Constant (.str x) j p2) pos) sNil := fun e b as Hi ρ σ H D S h => .of ps_doc (h σ H Hi as (Ext.refl _ _) S)
def sDrop (ma : ME) : MS := fun ρ => (ma ρ).bind fun p => .ret (.nx, p.2)
theorem snds_drop {a : Expr} {ma : ME} (ha : Snd X a ma) (hs : swapsWith a none pos.line X.env = pure false) : SndS X (.Expr a pos) (sDrop ma) := fun e b as Hi ρ σ H D S h =>
  .of (ps_expr (pe_tE X a) hs) (ha e b as Hi ρ σ H _ S ((T.all_bind.mp h).mono fun b1 p _ q v H1 Hi1 as1 x1 S1 _ => q σ H1 Hi1 as1 x1 S1))
def sRet (ma : ME) : MS := fun ρ => (ma ρ).bind fun p => .ret (.rt p.1, p.2)
theorem snds_ret {a : Expr} {ma : ME} (ha : Snd X a ma) : SndS X (.Return (some a) pos) (sRet ma) := fun e b as Hi ρ σ H D S h =>
  .of (ps_ret (pe_tE X a)) (ha e b as Hi ρ σ H _ S ((T.all_bind.mp h).mono fun b1 p _ q v H1 Hi1 as1 x1 S1 r1 => q σ H1 Hi1 as1 x1 S1 v r1))
theorem snds_retN : SndS X (.Return none pos) (sFl (.rt (.val .none))) := fun e b as Hi ρ σ H D S h => .of ps_retN (h σ H Hi as (Ext.refl _ _) S .non .non)
def sSet (i : Nat) (ma : ME) : MS := fun ρ => (ma ρ).bind fun p => .ret (.nx, p.2.set i p.1)
theorem set_post {i : Nat} {b1 : Nat} {e : Ent} {as : List Addr} {Hi : Hp} {σ : L2.St} {D : Ends} {p : Rv × En} (q : (T.ret ((Fl.nx, p.2.set i p.1) : Fl × En)).All b1 (PostS X.K e as Hi D)) : Post X.K e as Hi σ (fun x H1 => gName i x σ H1 D.nx) b1 p :=
  fun v H1 Hi1 as1 x1 S1 r1 => q _ H1 Hi1 as1 x1 (S1.set r1)
theorem snds_set {i : Nat} {x : Str} {a : Expr} {ma : ME} {p2 : Pos} (hN : X.N.Nodup) (hi : X.N[i]? = some x) (hx : Loc X.env.scope x) (ha : Snd X a ma) (hs : swapsWith a (some (.Name x p2)) pos.line X.env = pure false) (hf : X.fn x = true ∨ X.env.scope.names.lookup x = some .local) :
    SndS X (.Assign [.Name x p2] a pos) (sSet i ma) := fun e b as Hi ρ σ H D S h =>
  .of (ps_set hN hi hx (pe_tE X a) hs hf) (ha e b as Hi ρ σ H _ S ((T.all_bind.mp h).mono fun b1 p _ q => set_post q))
theorem snds_setComp {i : Nat} {y : Str} {py spos : Pos} {tg iter elt : Expr} {ifs : List Expr} {scope : Scope} {own : List (Str × Nat)} {g : Tg} {mi : MI} {tt : MT} {el : ME} (hc : X.calm = true) (hN : X.N.Nodup) (hy : X.N[i]? = some y) (hyl : X.env.scope.names.lookup y = some .local)
    (hsw : swapsWith (.ListComp elt [⟨tg, iter, ifs, 0⟩] scope pos) (some (.Name y py)) spos.line X.env = pure true) (hi : SndI X tg iter mi) (ok : BlkOk X.N X.env.scope scope own)
    (hg : ∀ s H C cl fp, SndG (blkAt X scope s H C cl fp) tg g) (ht : ∀ s H C cl fp, SndTs (blkAt X scope s H C cl fp) ifs tt) (he : ∀ s H C cl fp, Snd (blkAt X scope s H C cl fp) elt el) (hown : ∀ i ∈ g.slots, i ∈ own.map (·.2))
    (hs : ∀ x, foldedSetIterable iter X.env x = pure x) : SndS X (.Assign [.Name y py] (.ListComp elt [⟨tg, iter, ifs, 0⟩] scope pos) spos) (sSet i (mComp (own.map (·.2)) g mi tt el)) := fun e b as Hi ρ σ H D S h =>
  .unl (.of (ps_setLc hc hN hy hyl hsw (pi_tI tg iter) ok (fun s H C cl fp => ⟨fun pins s σ H v u Q I r q => q _ _ _ _ _ pins s u I r⟩) (fun s H C cl fp => ⟨fun pins s σ H Q I q => q _ _ _ _ _ pins s I⟩) (fun s H C cl fp => ⟨fun pins s σ H Q I q => q _ _ _ _ _ pins s I⟩) hs)
    (lc_post hi hg ht he hown S ((T.all_bind.mp h).mono fun b1 p _ q => set_post q)))
def sUnp (gs : Tgs) (ma : ME) : MS := fun ρ => (ma ρ).bind fun p => match p.2.deref p.1 with
  | some d => (match (Tg.tp gs).set d p.2 with
    | some ρ1 => .ret (.nx, ρ1)
    | none => .fail)
  | none => .fail
theorem snds_unp {es : List Expr} {gs : Tgs} {k : Nat} {p2 : Pos} {a : Expr} {ma : ME} (hc : X.calm = true) (ha : Snd X a ma) (h : SndGs X es gs) (hn : (assignEach es X.env).length = es.length) (hst : (assignEach es X.env).findIdx? (·.1) = none) (hl : ∀ ds ρ ρ', gs.set ds ρ = some ρ' → ds.length = es.length)
    (hs : swapsWithSole [.Tuple es k p2] a pos.line X.env = pure false) (hw : swappedStores [.Tuple es k p2] a X.env = pure none) (h1 : (assignEach [.Tuple es k p2] X.env).map (·.2) = [assign (.Tuple es k p2) X.env]) :
    SndS X (.Assign [.Tuple es k p2] a pos) (sUnp gs ma) := fun e b as Hi ρ σ H D S hh => by
  refine .of (ps_asg (pe_tE X a) (pg_tG _) hs hw h1) (ha e b as Hi ρ σ H _ S ((T.all_bind.mp hh).mono fun b1 p _ q v H1 Hi1 as1 x1 S1 r1 => ?_))
  split at q
  · rename_i d hd
    split at q
    · rename_i ρ1 hset
      exact gs_opd hc h hn hst hl S1 (S1.opd r1 hd) hset fun σ' S' _ => q σ' H1 Hi1 as1 x1 S'
    · exact q.elim
  · exact q.elim
def sPar (i j : Nat) (ma mc : ME) : MS := fun ρ => (ma ρ).bind fun p => (mc p.2).bind fun q => .ret (.nx, (q.2.set i p.1).set j q.1)
theorem snds_par {i j : Nat} {x y : Str} {a c : Expr} {ma mc : ME} {px py pt : Pos} {kt k2 pt2} (hc : X.calm = true) (hN : X.N.Nodup) (hi : X.N[i]? = some x) (hj : X.N[j]? = some y) (hij : i ≠ j)
    (hx : X.env.scope.names.lookup x = some .local) (hy : X.env.scope.names.lookup y = some .local) (ha : Snd X a ma) (hcc : Snd X c mc) (he : starEach [a, c] X.env = (false, eval a X.env) :: starEach [c] X.env) (he2 : starEach [c] X.env = (false, eval c X.env) :: starEach [] X.env)
    (hw : swappedStores [.Tuple [.Name x px, .Name y py] kt pt] (.Tuple [a, c] k2 pt2) X.env = pure (some [x, y])) (hs : swapsWithSole [.Tuple [.Name x px, .Name y py] kt pt] (.Tuple [a, c] k2 pt2) pos.line X.env = pure false) :
    SndS X (.Assign [.Tuple [.Name x px, .Name y py] kt pt] (.Tuple [a, c] k2 pt2) pos) (sPar i j ma mc) := fun e b as Hi ρ σ H D S h => by
  refine .of (ps_par hc hN hi hj hij hx hy (pa_cons (pe_tE X a) (pa_cons (pe_tE X c) pa_nil he2) he) hw hs) ?_
  refine ha e b as Hi ρ σ H _ S ((T.all_bind.mp h).mono fun b1 p _ h1 v H1 Hi1 as1 x1 S1 r1 => ?_)
  refine hcc e b1 as1 Hi1 p.2 σ H1 _ S1 ((T.all_bind.mp h1).mono fun b2 q _ h2 u H2 Hi2 as2 x2 S2 r2 => ?_)
  exact ⟨v, u, rfl, h2 _ H2 Hi2 as2 (x1.trans x2) ((S2.set (r1.mono x2)).set r2)⟩
def sIf (mt : MT) (m n : MS) : MS := fun ρ => (mt ρ).bind fun p => if p.1 then m p.2 else n p.2
theorem snds_if {c : Expr} {mt : MT} {s1 s2 : List Stmt} {m n : MS} (hc : SndT X c mt) (h1 : SndSs X s1 m) (h2 : SndSs X s2 n) : SndS X (.If c s1 s2 pos) (sIf mt m n) := fun e b as Hi ρ σ H D S h => by
  refine .of (ps_if (pt_tT X c) (pss_tSs X s1) (pss_tSs X s2)) (hc e b as Hi ρ σ H _ S ((T.all_bind.mp h).mono fun b1 p _ q H1 Hi1 as1 x1 S1 => ?_))
  obtain ⟨k, ρ1⟩ := p
  cases k with
  | true => exact h1 e b1 as1 Hi1 ρ1 σ H1 D S1 (T.All.mono q fun _ _ _ z => z.ext x1)
  | false => exact h2 e b1 as1 Hi1 ρ1 σ H1 D S1 (T.All.mono q fun _ _ _ z => z.ext x1)
/-! #### loops -/
def fLoop (g : Tg) (body : MS) : List D → En → T (Fl × En)
  | [], ρ => .ret (.nx, ρ)
  | d :: ds, ρ => match g.set d ρ with
    | none => .fail
    | some ρ1 => (body ρ1).bind fun p => match p.1 with
      | .nx => fLoop g body ds p.2
      | .ct => fLoop g body ds p.2
      | .bk => .ret (.nx, p.2)
      | .rt r => .ret (.rt r, p.2)
def sFor (g : Tg) (mi : MI) (body : MS) : MS := fun ρ => (mi ρ).bind fun p => fLoop g body p.1 p.2
theorem for_core {tg : Expr} {bd : List Stmt} {g : Tg} {m : MS} (hg : SndG X tg g) (hb : SndSs X bd m) {e : Ent} {as : List Addr} {Hi : Hp} {D : Ends} {b1 : Nat} {as1 : List Addr} {Hi1 H1 : Hp} {ρ1 : En} {σ : L2.St} {J : It} {ds : List Wk.D} (x1 : Ext Hi as Hi1 as1) (S1 : SO X.K e b1 as1 Hi1 ρ1 σ H1) (W1 : Walks X.K Hi1 J ds)
    (h1 : (fLoop g m ds ρ1).All b1 (PostS X.K e as Hi D)) : ∃ W : Nat → Nat → L2.St → Hp → Prop, (∃ m, W 0 m σ H1) ∧ ∀ (i k : Nat) (σ : L2.St) (H : Hp), W i k σ H → J.stop i H ∧ D.nx σ H ∨ J.go i H ∧ ∃ N : L2.St → Hp → Prop, (∀ (σ' : L2.St) (H' : Hp), N σ' H' → ∃ m', m' < k ∧ W (i + 1) m' σ' H') ∧
      ∀ (x : V) (H' : Hp), J.yld i H x H' → tG X tg x σ H' fun σ2 H2 => tSs X bd { nx := N, rt := D.rt, bk := D.nx, ct := N } σ2 H2 := by
  let INV : Nat → L2.St → Hp → Prop := fun i σ H => ∃ b' as' Hi' ρ', Ext Hi1 as1 Hi' as' ∧ SO X.K e b' as' Hi' ρ' σ H ∧ (fLoop g m (ds.drop i) ρ').All b' (PostS X.K e as Hi D)
  refine ⟨fun i m σ H => m = ds.length - i ∧ i ≤ ds.length ∧ INV i σ H, ⟨ds.length, by simp, Nat.zero_le _, b1, as1, Hi1, ρ1, Ext.refl _ _, S1, h1⟩, ?_⟩
  rintro i m σ2 H2 ⟨rfl, hle, b', as', Hi', ρ', x2, S2, h2⟩
  by_cases hlt : i < ds.length
  · refine .inr ⟨W1.go Hi' H2 i x2.hi S2.sub hlt, INV (i + 1), fun σ' H' q => ⟨ds.length - (i + 1), by omega, rfl, hlt, q⟩, fun x H3 hy => ?_⟩
    obtain ⟨Hi3, gr, rp⟩ := W1.yld Hi' H2 i ds[i] x H3 x2.hi S2.sub (List.getElem?_eq_getElem hlt) hy
    rw [List.drop_eq_getElem_cons hlt] at h2
    simp only [fLoop] at h2
    split at h2
    · exact h2.elim
    · rename_i ρ4 hset
      refine hg e b' as' Hi3 ρ' ρ4 σ2 H3 x ds[i] _ (S2.grow gr) rp hset fun σ5 S5 _ => ?_
      refine hb e b' as' Hi3 ρ4 σ5 H3 _ S5 ((T.all_bind.mp h2).mono fun b6 p6 _ h6 σ6 H6 Hi6 as6 x6 S6 => ?_)
      have xx : Ext Hi1 as1 Hi6 as6 := (x2.trans ⟨gr.i, List.prefix_refl _⟩).trans x6
      obtain ⟨f, ρ6⟩ := p6
      cases f with
      | nx => exact ⟨b6, as6, Hi6, ρ6, xx, S6, h6⟩
      | ct => exact ⟨b6, as6, Hi6, ρ6, xx, S6, h6⟩
      | bk => exact h6 σ6 H6 Hi6 as6 (x1.trans xx) S6
      | rt r => exact h6 σ6 H6 Hi6 as6 (x1.trans xx) S6
  · have e1 : i = ds.length := by omega
    subst e1
    refine .inl ⟨W1.stop Hi' H2 _ x2.hi S2.sub (Nat.le_refl _), ?_⟩
    rw [List.drop_length] at h2
    exact h2 σ2 H2 Hi' as' (x1.trans x2) S2
theorem snds_for {tg iter : Expr} {bd : List Stmt} {g : Tg} {mi : MI} {m : MS} (hp : PassesOwn (model X.prog X.w) X.A X.env X.xe) (hc : X.calm = true) (hi : SndI X tg iter mi) (hg : SndG X tg g) (hb : SndSs X bd m) (hs : ∀ x, foldedSetIterable iter X.env x = pure x) :
    SndS X (.For tg iter bd [] pos) (sFor g mi m) := fun e b as Hi ρ σ H D S h => by
  refine .unl (.of (ps_for hp hc (pi_tI tg iter) (pg_tG tg) (pss_tSs X bd) hs) ?_)
  refine hi e b as Hi ρ σ H _ S ((T.all_bind.mp h).mono fun b1 p _ h1 => ⟨fun J H1 Hi1 as1 x1 S1 W1 => ?_, fun J H1 Hi1 as1 a o kvs x1 S1 ha nf W1 => ?_⟩)
  · exact for_core hg hb x1 S1 W1 (h1.mono fun _ _ _ z => z.inl)
  · exact for_core hg hb (Ext.refl _ _) (S1.lock ha) W1 (h1.mono fun _ _ _ z => (z.ext x1).unl S1 ha nf)
def wLoop (mt : MT) (body : MS) : Nat → En → T (Fl × En)
  | 0, _ => .fail
  | n + 1, ρ => (mt ρ).bind fun p => if p.1 then (body p.2).bind fun q => (match q.1 with
      | .nx => wLoop mt body n q.2
      | .ct => wLoop mt body n q.2
      | .bk => .ret (.nx, q.2)
      | .rt r => .ret (.rt r, q.2)) else .ret (.nx, p.2)
def sWhile (n : Nat) (mt : MT) (body : MS) : MS := wLoop mt body n
theorem snds_while {c : Expr} {bd : List Stmt} {mt : MT} {m : MS} {n : Nat} (hp : PassesOwn (model X.prog X.w) X.A X.env X.xe) (hc : SndT X c mt) (hb : SndSs X bd m) : SndS X (.While c bd [] pos) (sWhile n mt m) := fun e b as Hi ρ σ H D S h => by
  refine .of (ps_while hp (pt_tT X c) (pss_tSs X bd)) ?_
  refine ⟨fun k σ H => ∃ b' as' Hi' ρ', Ext Hi as Hi' as' ∧ SO X.K e b' as' Hi' ρ' σ H ∧ (wLoop mt m k ρ').All b' (PostS X.K e as Hi D), ⟨n, b, as, Hi, ρ, Ext.refl _ _, S, h⟩, ?_⟩
  rintro k σ2 H2 ⟨b', as', Hi', ρ', x2, S2, h2⟩
  cases k with
  | zero => exact h2.elim
  | succ k =>
    simp only [wLoop] at h2
    refine hc e b' as' Hi' ρ' σ2 H2 _ S2 ((T.all_bind.mp h2).mono fun b3 p _ h3 H3 Hi3 as3 x3 S3 => ?_)
    obtain ⟨t, ρ3⟩ := p
    cases t with
    | false => exact h3 σ2 H3 Hi3 as3 (x2.trans x3) S3
    | true =>
      rw [if_pos rfl]
      refine ⟨fun σ H => ∃ b' as' Hi' ρ', Ext Hi as Hi' as' ∧ SO X.K e b' as' Hi' ρ' σ H ∧ (wLoop mt m k ρ').All b' (PostS X.K e as Hi D), fun σ' H' q => ⟨k, Nat.lt_succ_self k, q⟩, ?_⟩
      refine hb e b3 as3 Hi3 ρ3 σ2 H3 _ S3 ((T.all_bind.mp h3).mono fun b6 p6 _ h6 σ6 H6 Hi6 as6 x6 S6 => ?_)
      have xx : Ext Hi as Hi6 as6 := (x2.trans x3).trans x6
      obtain ⟨f, ρ6⟩ := p6
      cases f with
      | nx => exact ⟨b6, as6, Hi6, ρ6, xx, S6, h6⟩
      | ct => exact ⟨b6, as6, Hi6, ρ6, xx, S6, h6⟩
      | bk => exact h6 σ6 H6 Hi6 as6 xx S6
      | rt r => exact h6 σ6 H6 Hi6 as6 xx S6
end
end Wk

/-! Wk7: things of the store changed; displays of dicts; a def by its body. -/
namespace Wk
open PySem PySem.Spec PyProof.Rows L2
variable [Ctx]

/-! ### append -/
section
variable {X : Cx} {pos : Pos}
def isL (ρ : En) (k : Nat) : Bool := match ρ.st[k]? with
  | some (.list _, false) => true
  | _ => false
/-- xs.append(e) -/
def mApp (mo ma : ME) : ME := fun ρ => (mo ρ).bind fun p => match p.1 with
  | .res k => if isL p.2 k then (ma p.2).bind fun q => (match q.2.freeze q.1 with
    | some (d, ρ1) => (match ρ1.st[k]? with
      | some (.list ds, false) => if ds.length < sizeLine then .ret (.val .none, { ρ1 with st := ρ1.st.set k (.list (ds ++ [d]), false) }) else .fail
      | _ => .fail)
    | none => .fail) else .fail
  | _ => .fail
theorem OwnAt.list_ {K : PySem.W.Frag} {Hi H : Hp} {a : Addr} {ds : List D} (h : OwnAt K Hi H a (.list ds)) : ∃ xs, H a = some (.lst xs) ∧ Rps K Hi xs ds := by cases h with | lst q r => exact ⟨_, q, r⟩
theorem OwnAt.dict_ {K : PySem.W.Frag} {Hi H : Hp} {a : Addr} {ds : List (D × D)} (h : OwnAt K Hi H a (.dict ds)) (c : unm ds = true) : ∃ kvs, H a = some (.dK kvs) ∧ Rpk K Hi kvs ds := by
  cases h with
  | dik q r => exact ⟨_, q, r⟩
  | dkt q r n => rw [r.unm n] at c; cases c
theorem snd_app {o a : Expr} {mo ma : ME} {apos : Pos} (ho : Snd X o mo) (ha : Snd X a ma) (hbase : attributeBase o "append" X.env (eval o X.env) = eval o X.env)
    (hfew : ((backTo pos (starEach [a] X.env)).all (fun x => !x.1) && (backToKw pos (keywordEach [] X.env)).all (fun x => x.1.isSome)
      && decide ([a].length + ([] : List Keyword).length + (if ([] : List Keyword).isEmpty then 0 else 1) < 30)) = true)
    (hline : (apos.endLine == pos.line) = true) (hs : starEach [a] X.env = (false, eval a X.env) :: starEach [] X.env) :
    Snd X (.Call (.Attribute o "append" apos) [a] [] pos) (mApp mo ma) := fun e b as Hi ρ σ H R S h => by
  refine .of (pe_bm PySem.F.plainAttrs_list PySem.F.slot_list_append PySem.F.type_list_append mt_append (pe_tE X o) (pa_cons (pe_tE X a) pa_nil hs) hbase hfew hline hs rfl) ?_
  refine ho e b as Hi ρ σ H _ S ((T.all_bind.mp h).mono fun b1 p _ h1 v H1 Hi1 as1 x1 S1 r1 => ?_)
  obtain ⟨r, ρ1⟩ := p
  cases r with
  | res k =>
    have h1 : (if isL ρ1 k then (ma ρ1).bind fun q => (match q.2.freeze q.1 with
      | some (d, ρ1) => (match ρ1.st[k]? with
        | some (.list ds, false) => if ds.length < sizeLine then T.ret ((.val .none, { ρ1 with st := ρ1.st.set k (.list (ds ++ [d]), false) }) : Rv × En) else .fail
        | _ => .fail)
      | none => .fail) else .fail).All b1 (Post X.K e as Hi σ R) := h1
    split at h1
    · rename_i hL
      obtain ⟨a0, ha0, rfl⟩ := r1
      unfold isL at hL
      split at hL
      · rename_i ds0 hk0
        obtain ⟨own0, _⟩ := S1.res k _ a0 hk0 ha0
        obtain ⟨xs0, hx0, _⟩ := own0.list_
        refine ⟨.inl ⟨rfl, xs0, SqL.of hx0⟩, ?_⟩
        refine ha e b1 as1 Hi1 ρ1 σ H1 _ S1 ((T.all_bind.mp h1).mono fun b2 q _ h2 u H2 Hi2 as2 x2 S2 r2 => ?_)
        split at h2
        · rename_i d ρ2 hf
          obtain ⟨Hi3, x3, S3, r3⟩ := S2.frz r2 hf
          split at h2
          · rename_i ds hk
            split at h2
            · rename_i hz
              have ha2 : as2[k]? = some a0 := pre_get x2.as ha0
              obtain ⟨own, hn⟩ := S3.res k _ a0 hk ha2
              obtain ⟨xs, hx, rs⟩ := own.list_
              refine ⟨a0, xs, u, rfl, rfl, hx, by rw [rs.length]; exact hz, ?_⟩
              exact h2 .non _ Hi3 as2 ((x1.trans x2).trans x3) (S3.put hk ha2 (.lst upd_same (rs.append (.cons r3 .nil)))) .non
            · exact h2.elim
          · exact h2.elim
        · exact h2.elim
      · cases hL
    · exact h1.elim
  | _ => exact h1.elim
/-! ### o[i] = v -/
def dPut (k d : D) (es : List (D × D)) : List (D × D) := if (es.any fun p => PyData.eqv p.1 k) = true then es.map (fun p => if PyData.eqv p.1 k = true then (p.1, d) else p) else es ++ [(k, d)]
theorem rpk_any {K : PySem.W.Frag} {Hi : Hp} (k : Key) : ∀ {kvs : List (Key × V)} {es : List (D × D)}, Rpk K Hi kvs es → (es.any fun p => PyData.eqv p.1 (kD k)) = (kvs.any fun kv => decide (kv.1 = k))
  | _, _, .nil => rfl
  | (k', v) :: r, (_, d) :: es, .cons h t => by
    rw [List.any_cons, List.any_cons, rpk_any k t, key_eqv]
theorem rpk_map {K : PySem.W.Frag} {Hi : Hp} (k : Key) {u : V} {f : D} (hu : Rp K Hi u f) : ∀ {kvs : List (Key × V)} {es : List (D × D)}, Rpk K Hi kvs es →
    Rpk K Hi (kvs.map fun kv => if kv.1 = k then (kv.1, u) else kv) (es.map fun p => if PyData.eqv p.1 (kD k) = true then (p.1, f) else p)
  | _, _, .nil => .nil
  | (k', v) :: r, (_, d) :: es, .cons h t => by
    rw [List.map_cons, List.map_cons]
    by_cases e : k' = k
    · subst e
      rw [if_pos rfl, if_pos (by rw [key_eqv]; simp)]
      exact .cons hu (rpk_map k' hu t)
    · rw [if_neg e, if_neg (by rw [key_eqv]; simpa using e)]
      exact .cons h (rpk_map k hu t)
theorem Rpk.append {K : PySem.W.Frag} {Hi : Hp} : ∀ {kvs kvs2 : List (Key × V)} {es es2 : List (D × D)}, Rpk K Hi kvs es → Rpk K Hi kvs2 es2 → Rpk K Hi (kvs ++ kvs2) (es ++ es2)
  | _, _, _, _, .nil, s => s
  | _, _, _, _, .cons h t, s => .cons h (t.append s)
theorem Rpk.put {K : PySem.W.Frag} {Hi : Hp} (k : Key) {u : V} {f : D} (hu : Rp K Hi u f) {kvs : List (Key × V)} {es : List (D × D)} (r : Rpk K Hi kvs es) : Rpk K Hi (putK kvs k u) (dPut (kD k) f es) := by
  unfold putK dPut
  rw [rpk_any k r]
  split
  · exact rpk_map k hu r
  · exact r.append (.cons hu .nil)
/-! tuples as keys -/
def putT (L : TL) (k : List Key) (b : Addr) (v : V) : TL := if (valT L k).isSome then L.map (fun x => if x.1 = k then (x.1, x.2.1, v) else x) else L ++ [(k, b, v)]
theorem pt_put {L : TL} {xs : TX} (r : PtL L xs) (k : List Key) (b : Addr) {v : V} {u : Value} (ru : RelV v u) : PtL (putT L k b v) (storedH xs k b u) := by
  have e : (valT L k).isSome = (atKey xs k).isSome := by rw [(pt_val r k).isSome_eq, Option.isSome_map]
  unfold putT storedH
  rw [e]
  split
  · clear e
    rename_i h; clear h
    induction r with
    | nil => exact .nil
    | @cons p q ps qs h t ih =>
      rw [List.map_cons, List.map_cons]
      refine .cons ?_ ih
      unfold putAt
      by_cases e : p.1 = k
      · rw [if_pos e, if_pos (h.1.symm.trans e)]; exact ⟨h.1, h.2.1, ru⟩
      · rw [if_neg e, if_neg (fun z => e (h.1.trans z))]; exact h
  · clear e
    rename_i h; clear h
    induction r with
    | nil => exact .cons ⟨rfl, rfl, ru⟩ .nil
    | cons h t ih => exact .cons h ih
theorem rpt_any {K : PySem.W.Frag} {Hi : Hp} (k : List Key) : ∀ {L : TL} {es : List (D × D)}, RpT K Hi L es → (es.any fun p => PyData.eqv p.1 (.tuple (k.map kD))) = (valT L k).isSome
  | _, _, .nil => rfl
  | (k', b, v) :: r, (_, d) :: es, .cons _ h t => by
    rw [List.any_cons, rpt_any k t, keys_eqv]
    by_cases e : k' = k
    · simp [valT, List.find?_cons, e]
    · simp [valT, List.find?_cons, e]
theorem RpT.put {K : PySem.W.Frag} {Hi : Hp} (k : List Key) {b : Addr} {u : V} {f : D} (hb : SqT K Hi b (k.map kV)) (hu : Rp K Hi u f) {L : TL} {es : List (D × D)} (r : RpT K Hi L es) : RpT K Hi (putT L k b u) (dPut (.tuple (k.map kD)) f es) := by
  unfold putT dPut
  rw [rpt_any k r]
  split
  · rename_i h; clear h
    have : ∀ {L : TL} {es : List (D × D)}, RpT K Hi L es → RpT K Hi (L.map fun x => if x.1 = k then (x.1, x.2.1, u) else x) (es.map fun p => if PyData.eqv p.1 (.tuple (k.map kD)) = true then (p.1, f) else p) := by
      intro L
      induction L with
      | nil => intro es r; cases r; exact .nil
      | cons x L ih =>
        intro es r
        cases r with
        | @cons k' b' v r d es sq h t =>
          rw [List.map_cons, List.map_cons]
          by_cases e : k' = k
          · rw [if_pos e, if_pos (by rw [keys_eqv]; simpa using e)]
            exact .cons sq hu (ih t)
          · rw [if_neg e, if_neg (by rw [keys_eqv]; simpa using e)]
            exact .cons sq h (ih t)
    exact this r
  · rename_i h; clear h
    have : ∀ {L : TL} {es : List (D × D)}, RpT K Hi L es → RpT K Hi (L ++ [(k, b, u)]) (es ++ [(.tuple (k.map kD), f)]) := by
      intro L
      induction L with
      | nil => intro es r; cases r; exact .cons hb hu .nil
      | cons x L ih => intro es r; cases r with | cons sq h t => exact .cons sq h (ih t)
    exact this r
theorem putT_len (L : TL) (k : List Key) (b : Addr) (v : V) : (putT L k b v).length ≤ L.length + 1 := by
  unfold putT; split <;> simp
theorem putT_ne {K : PySem.W.Frag} {Hi : Hp} (k : List Key) {f : D} {L : TL} {es : List (D × D)} (r : RpT K Hi L es) : dPut (.tuple (k.map kD)) f es ≠ [] := by
  unfold dPut
  split
  · rename_i h
    cases r with
    | nil => simp at h
    | cons _ _ _ => simp
  · simp
theorem dt_empty0 {X : Cx} {pins : List (Addr × Obj)} {σ : L2.St} {H : Hp} {s : Shared} {a : Addr} (I : Inv X pins σ H s) (h : H a = some (.dK [])) : (a == sysModules) = false ∧ s.heap.DictOfH (tupleKind (mixKind X.prog X.w)) a [] := by
  obtain ⟨z, y, vs, kv, od, es2, ep2, ho2, ex2, hd2, _, pr, _⟩ := dk_of I.hok h
  cases kv
  cases pr0 : es2.toList with
  | nil => exact ⟨y, od, es2, ep2, ho2, ex2, hd2, by rw [pr0]; rfl, (fun x hx => nomatch hx), List.nodup_nil⟩
  | cons e r => rw [pr0] at pr; cases pr
/-- what stands behind o[i] = v -/
def putD : D → D → D → Option D
  | .list ds, .int i, v => match ixN ds.length i with
    | some j => some (.list (ds.set j v))
    | none => none
  | .dict es, k, v => match keyOf k with
    | some _ => if es.length < sizeLine ∧ unm es = true then some (.dict (dPut k v es)) else none
    | none => match k with
      | .tuple ks => if es.length < sizeLine ∧ tkm es = true ∧ (keysOf ks).isSome = true then some (.dict (dPut (.tuple ks) v es)) else none
      | _ => none
  | _, _, _ => none
/-- a list's or a dict's place stored, by values -/
def rPut (K : PySem.W.Frag) : TSet := fun o i v H Q => ∃ (Hi : Hp) (a : Addr) (d d' k f : D), Same Hi H ∧ o = .ref a ∧ OwnAt K Hi H a d ∧ Opd K Hi H i k ∧ Rp K Hi v f ∧ putD d k f = some d' ∧ ∀ ho, OwnAt K Hi (upd H a ho) a d' → Q (upd H a ho)
theorem set_put (hx : Hx X) (hu : X.A.units + 1 < cLine) : PSet X (rPut X.K) := by
  intro pins s σ H o i v ov iv u Q I ro ri rv ⟨Hi, a, d, d', k, f, sub, eo, own, oi, rf, hp, q⟩
  subst eo
  cases d with
  | list ds =>
    obtain ⟨xs, hx, rs⟩ := own.list_
    cases k with
    | int n =>
      simp only [putD] at hp
      split at hp
      · rename_i j hj
        cases hp
        cases oi.int_
        refine set_list pins s σ H _ _ v ov iv u Q I ro ri rv ⟨a, xs, n, j, rfl, rfl, hx, by rw [rs.length]; exact hj, q _ (.lst upd_same (rs.set rf j))⟩
      · cases hp
    | _ => cases hp
  | dict es =>
    have hp : (match keyOf k with
      | some _ => if es.length < sizeLine ∧ unm es = true then some (PyData.dict (dPut k f es)) else none
      | none => match k with
        | .tuple ks => if es.length < sizeLine ∧ tkm es = true ∧ (keysOf ks).isSome = true then some (.dict (dPut (.tuple ks) f es)) else none
        | _ => none) = some d' := by cases k <;> exact hp
    split at hp
    · rename_i kk hk
      have ek := keyOf_eq hk
      subst ek
      split at hp
      · rename_i hz
        obtain ⟨hz, hum⟩ := hz
        obtain ⟨kvs, hx, rs⟩ := own.dict_ hum
        cases hp
        have ei := key_opd oi kk rfl
        subst ei
        obtain rfl : ov = Value.ref a := ro
        have g : DPut H a (kV kk) v (upd H a (.dK (putK kvs kk v))) := DPut.k hx (by rw [rs.length]; exact hz)
        exact d_setItem hu I g ri rv fun s' I' => ⟨_, I', q _ (.dik upd_same (rs.put kk rf))⟩
      · cases hp
    · cases k with
      | tuple ks =>
        have hp : (if es.length < sizeLine ∧ tkm es = true ∧ (keysOf ks).isSome = true then some (PyData.dict (dPut (.tuple ks) f es)) else none) = some d' := hp
        split at hp
        · rename_i hz
          obtain ⟨hz, htk, hks⟩ := hz
          cases hp
          obtain ⟨kk, hk⟩ := Option.isSome_iff_exists.mp hks
          obtain ⟨b, rfl, sq, tk⟩ := tkey_in I sub oi hk
          have ek := keysOf_eq hk
          obtain rfl : ov = Value.ref a := ro
          obtain rfl : iv = Value.ref b := ri
          obtain ⟨L, xs, rt, pt, dd, hs, mu⟩ : ∃ L xs, RpT X.K Hi L es ∧ PtL L xs ∧ s.heap.DictOfH (tupleKind (mixKind X.prog X.w)) a xs ∧ (a == sysModules) = false ∧ Mut (H a) := by
            cases own with
            | dik q r =>
              have e := r.tkm htk
              subst e
              cases r
              obtain ⟨y, dd⟩ := dt_empty0 I q
              exact ⟨[], [], .nil, .nil, dd, y, by rw [q]; exact True.intro⟩
            | dkt q r n =>
              obtain ⟨z, y, xs, pt, d⟩ := DtAt.facts hx.p hx.w (show ObjOk X.prog X.w H s.heap a (dtO a _) from I.hok a _ q).1
              exact ⟨_, xs, r, pt, d (dt_all sub (fun b k q => tk_of I q) pt r), y, by rw [q]; exact True.intro⟩
          have lx := dt_len pt
          have le := rt.length
          refine wpAny_setItem_heap (hsz := by omega) (tupleKind_room_in1 hu) tk dd fun h' dd' hsb => ?_
          have pt' := pt_put pt kk b rv
          have he : ∃ q, h'.get? a = some q := let ⟨q, _, _, hq, _⟩ := dd'; ⟨q, hq⟩
          have z' := putT_len L kk b v
          have dn : DtAt a (putT L kk b v) h' := DtAt.mk hx.p hx.w (by omega) hs pt' dd'
          have rn := rt.put kk sq rf
          rw [ek] at q
          exact ⟨_, d_write I mu hsb he (dtO_ok dn), q (dtO a (putT L kk b v)) (.dkt upd_same rn (putT_ne kk rt))⟩
        · cases hp
      | _ => cases hp
  | _ => cases hp
def sPut (mv mo mi : ME) : MS := fun ρ => (mv ρ).bind fun v => (mo v.2).bind fun o => (mi o.2).bind fun i => match o.1, i.2.deref i.1, i.2.freeze v.1 with
  | .res k, some kd, some (f, ρ1) => (match ρ1.st[k]? with
    | some (d, false) => (match putD d kd f with
      | some d' => .ret (.nx, { ρ1 with st := ρ1.st.set k (d', false) })
      | none => .fail)
    | _ => .fail)
  | _, _, _ => .fail
theorem snds_put {v o i : Expr} {mv mo mi : ME} {p2 : Pos} (hx : Hx X) (hu : X.A.units + 1 < cLine) (hv : Snd X v mv) (ho : Snd X o mo) (hi : Snd X i mi)
    (ha : ∀ v, assign (.Subscript o i p2) X.env v = (do
      let ov ← holding [v] (eval o X.env)
      let iv ← holding [v, ov] (eval i X.env)
      standAt p2
      holding [v, ov, iv] (setItem ov iv v)
      release [v, ov, iv] []))
    (hs : swapsWithSole [.Subscript o i p2] v pos.line X.env = pure false) (hw : swappedStores [.Subscript o i p2] v X.env = pure none) (h1 : (assignEach [.Subscript o i p2] X.env).map (·.2) = [assign (.Subscript o i p2) X.env]) :
    SndS X (.Assign [.Subscript o i p2] v pos) (sPut mv mo mi) := fun e b as Hi ρ σ H D S h => by
  refine .of (ps_asg (pe_tE X v) (pg_sub (pe_tE X o) (pe_tE X i) (set_put hx hu) ha) hs hw h1) ?_
  refine hv e b as Hi ρ σ H _ S ((T.all_bind.mp h).mono fun b1 p _ h1 x H1 Hi1 as1 x1 S1 r1 => ?_)
  refine ho e b1 as1 Hi1 p.2 σ H1 _ S1 ((T.all_bind.mp h1).mono fun b2 q _ h2 y H2 Hi2 as2 x2 S2 r2 => ?_)
  refine hi e b2 as2 Hi2 q.2 σ H2 _ S2 ((T.all_bind.mp h2).mono fun b3 w _ h3 z H3 Hi3 as3 x3 S3 r3 => ?_)
  split at h3
  · rename_i k kd f ρ1 e1 e2 e3
    obtain ⟨Hi4, x4, S4, r4⟩ := S3.frz ((r1.mono x2).mono x3) e3
    split at h3
    · rename_i d hk
      split at h3
      · rename_i d' hput
        rw [e1] at r2
        obtain ⟨a, ha0, rfl⟩ := r2
        have ha3 : as3[k]? = some a := pre_get x3.as ha0
        obtain ⟨own, hn⟩ := S4.res k _ a hk ha3
        have od : Opd X.K Hi4 H3 z kd := by
          have q0 := S3.opd r3 e2
          cases q0 with
          | val r => exact .val (r.mono x4.hi)
          | own r => exact .own (r.mono x4.hi fun _ q => q)
        refine ⟨Hi4, a, d, d', kd, f, S4.sub, rfl, own, od, r4, hput, fun ho' own' => ?_⟩
        exact h3 σ _ Hi4 as3 (((x1.trans x2).trans x3).trans x4) (S4.put hk ha3 own')
      · exact h3.elim
    · exact h3.elim
  · exact h3.elim

/-! ### displays of dicts -/
theorem snd_dict0 : Snd X (.Dict [] [] pos) (fun ρ => ov (.f (.dict [])) ρ) := fun e b as Hi ρ σ H R S h => by
  refine .of pe_dnewK fun p hp => ?_
  have q := ov_post S h
  exact q p (.dK []) Hi H (Gr.refl S.sub) hp (.dik upd_same .nil)
end

section
variable {X : Cx} {pos : Pos}
abbrev MK := En → T (List (Key × Rv) × En)
def mkNil : MK := fun ρ => .ret ([], ρ)
def mkCons (k : Key) (mv : ME) (mr : MK) : MK := fun ρ => (mv ρ).bind fun p => (mr p.2).bind fun q => .ret ((k, p.1) :: q.1, q.2)
def mergeD (acc : List (D × D)) (more : List (Key × D)) : List (D × D) := more.foldl (fun acc p => dPut (kD p.1) p.2 acc) acc
def mDict (mk : MK) : ME := fun ρ => (mk ρ).bind fun p => match freezes p.2 (p.1.map (·.2)) with
  | some (ds, ρ1) => if p.1.length ≤ 15 then ov (.f (.dict (mergeD [] ((p.1.map (·.1)).zip ds)))) ρ1 else .fail
  | none => .fail
theorem Rpk.merge {K : PySem.W.Frag} {Hi : Hp} : ∀ {kvs : List (Key × V)} {ds : List D} {acc : List (Key × V)} {es : List (D × D)}, Rps K Hi (kvs.map (·.2)) ds → Rpk K Hi acc es → Rpk K Hi (mergeK acc kvs) (mergeD es ((kvs.map (·.1)).zip ds))
  | [], _, _, _, .nil, r => r
  | (k, v) :: kvs, d :: ds, acc, es, .cons h t, r => by
    show Rpk K Hi (mergeK (putK acc k v) kvs) (mergeD (dPut (kD k) d es) ((kvs.map (·.1)).zip ds))
    exact Rpk.merge t (r.put k h)
def PostK (K : PySem.W.Frag) (e : Ent) (as : List Addr) (Hi : Hp) (σ : L2.St) (R : List (Key × V) → Hp → Prop) : Nat → List (Key × Rv) × En → Prop := fun b' p =>
  ∀ (kvs : List (Key × V)) H' Hi' as', Ext Hi as Hi' as' → SO K e b' as' Hi' p.2 σ H' → kvs.map (·.1) = p.1.map (·.1) → RvsOk K e Hi' as' (kvs.map (·.2)) (p.1.map (·.2)) → R kvs H'
structure SndK (X : Cx) (pos : Pos) (keys : List (Option Expr)) (vals : List Expr) (m : MK) : Prop where
  run : ∃ trs, PPs X pos keys vals trs ∧ ∀ e b as Hi ρ σ H (Z : List (V × V) → Hp → Prop), SO X.K e b as Hi ρ σ H → (m ρ).All b (PostK X.K e as Hi σ fun kvs H => Z (kvs.map fun kv => (kV kv.1, kv.2)) H) → tPairs trs σ H Z
  all : keys.all (·.isSome) = true
  len : keys.length = vals.length
theorem sndK_nil : SndK X pos [] [] mkNil := by
  refine ⟨⟨[], pps_nil, fun e b as Hi ρ σ H Z S h => ?_⟩, rfl, rfl⟩
  exact h [] H Hi as (Ext.refl _ _) S rfl .nil
theorem sndK_cons {ke v : Expr} {k : Key} {ks : List (Option Expr)} {vs : List Expr} {mv : ME} {mr : MK} (hk : PE X ke (tC (kV k))) (hv : Snd X v mv) (hr : SndK X pos ks vs mr) : SndK X pos (some ke :: ks) (v :: vs) (mkCons k mv mr) := by
  obtain ⟨trs, h1, h2⟩ := hr.run
  refine ⟨⟨_, pps_cons hk (pe_tE X v) h1, fun e b as Hi ρ σ H Z S h => ?_⟩, hr.all, congrArg (· + 1) hr.len⟩
  show EvOk X v σ H fun y H2 => tPairs trs σ H2 fun ps H3 => Z ((kV k, y) :: ps) H3
  refine hv e b as Hi ρ σ H _ S ((T.all_bind.mp h).mono fun b1 p _ q1 y H1 Hi1 as1 x1 S1 r1 => ?_)
  refine h2 e b1 as1 Hi1 p.2 σ H1 _ S1 ((T.all_bind.mp q1).mono fun b2 q _ q2 kvs H2 Hi2 as2 x2 S2 e2 r2 => ?_)
  exact q2 ((k, y) :: kvs) H2 Hi2 as2 (x1.trans x2) S2 (by simp [e2]) (.cons (r1.mono x2) r2)
theorem snd_dict {ks : List (Option Expr)} {vs : List Expr} {m : MK} (hk : SndK X pos ks vs m) (h0 : ks ≠ []) (h15 : ks.length ≤ 15) : Snd X (.Dict ks vs pos) (mDict m) := fun e b as Hi ρ σ H R S h => by
  obtain ⟨trs, q1, q2⟩ := hk.run
  refine .of (pe_disp q1 hk.all hk.len h0 h15) fun p hp => ?_
  obtain ⟨n1, n2, n3, n4⟩ := S.new hp
  have SB : SO X.K e b as Hi ρ σ (upd H p (.dK [])) := S.beside n4 n2 n3 n1
  refine q2 (entIn e as Hi (upd H p (.dK []))) b as Hi ρ σ _ _ SB.into ((T.all_bind.mp h).mono fun b1 pr _ h1 kvs H1 Hi1 as1 x1 S1 ek rv => ?_)
  have hD : ∀ {Hi'}, SO X.K (entIn e as Hi (upd H p (.dK []))) b1 as1 Hi' pr.2 σ H1 → True := fun _ => trivial
  split at h1
  · rename_i ds ρ1 hf
    split at h1
    · rename_i hz
      obtain ⟨Hi2, x2, S2, r2⟩ := S1.frzs rv hf
      have hd2 : H1 p = some (.dK []) := S2.same p _ upd_same n3 n2
      have hlen : kvs.length = pr.1.length := by
        have := congrArg List.length ek
        simpa using this
      refine ⟨hd2, kvs, rfl, by rw [hlen]; exact hz, ?_⟩
      have SF : SO X.K e b1 as1 Hi2 ρ1 σ H1 := SB.back S2
      have e1 : Hi2 p = none := by
        cases q : Hi2 p with
        | none => rfl
        | some o =>
          rcases S2.newi p o q with z | z | z
          · have z : Hi p = some o := z
            rw [n4] at z; cases z
          · have z : upd H p (.dK []) p = none := z
            rw [upd_same] at z; cases z
          · exact absurd z n2
      have e2 : p ∉ as1 := fun z => by
        rcases S2.wr p z with w | w
        · have w : upd H p (.dK []) p = none := w
          rw [upd_same] at w; cases w
        · exact n2 w
      have h1 : (T.ret (((.res ρ1.st.length : Rv), ρ1.alloc (.dict (mergeD [] ((pr.1.map (·.1)).zip ds)))) : Rv × En)).All b1 (Post X.K e as Hi σ R) := h1
      have SN := SF.beside (o := .dK (mergeK [] kvs)) e1 e2 n3 n1
      have rr : Rpk X.K Hi2 (mergeK [] kvs) (mergeD [] ((kvs.map (·.1)).zip ds)) := Rpk.merge r2 .nil
      rw [ek] at rr
      refine h1 (.ref p) _ Hi2 (as1 ++ [p]) ((x1.trans x2).trans ⟨Same.refl _, List.prefix_append _ _⟩) (SN.adopt e1 e2 n3 n1 (.dik upd_same rr)) ⟨p, ?_, rfl⟩
      have e3 : ρ1.st.length = as1.length := SF.alen.symm
      rw [e3, List.getElem?_append_right (Nat.le_refl _), Nat.sub_self]
      rfl
    · exact h1.elim
  · exact h1.elim
end
/-! ### a def by its body -/
def startSl : List Arg → Nat → List (Option Rv)
  | [], _ => []
  | .val d :: as, j => some (.val d) :: startSl as j
  | .io _ :: as, j => some (.res j) :: startSl as (j + 1)
  | .pen :: as, j => some .pen :: startSl as j
  | .scr :: as, j => some .scr :: startSl as j
  | .fn k :: as, j => some (.fn k) :: startSl as j
def startSt : List Arg → List (D × Bool)
  | [] => []
  | .io d :: as => (d, false) :: startSt as
  | _ :: as => startSt as
def startEn (nl : Nat) (args : List Arg) : En := ⟨startSl args 0 ++ List.replicate (nl - args.length) none, startSt args⟩
def finish (args : List Arg) (p : Fl × En) : T Out :=
  let n := (startSt args).length
  match p.1 with
  | .nx => .ret ⟨.val .none, p.2.st.take n⟩
  | .rt (.val d) => .ret ⟨.val d, p.2.st.take n⟩
  | .rt (.res k) => if k < n then .ret ⟨.arg k, p.2.st.take n⟩ else (match p.2.st[k]? with
    | some (d, false) => .ret ⟨.fresh d, p.2.st.take n⟩
    | some (d, true) => .ret ⟨.val d, p.2.st.take n⟩
    | none => .fail)
  | _ => .fail
/-- n parameters, nl names in all -/
def runFn (n nl : Nat) (m : MS) : Sem' := fun args => if args.length = n then (m (startEn nl args)).bind (finish args) else .fail
section
variable {K : PySem.W.Frag} {Hi H : Hp} {pp : Option Addr}
theorem args_length {vs : List V} {args : List Arg} {ins : List Addr} (h : ArgsOk K Hi H pp vs args ins) : args.length = vs.length := by
  induction h <;> simp_all
theorem startSl_length : ∀ (args : List Arg) (j : Nat), (startSl args j).length = args.length
  | [], _ => rfl
  | .val _ :: as, j => by simp [startSl, startSl_length as j]
  | .io _ :: as, j => by simp [startSl, startSl_length as (j + 1)]
  | .pen :: as, j => by simp [startSl, startSl_length as j]
  | .scr :: as, j => by simp [startSl, startSl_length as j]
  | .fn _ :: as, j => by simp [startSl, startSl_length as j]
theorem start_st {vs : List V} {args : List Arg} {ins : List Addr} (h : ArgsOk K Hi H pp vs args ins) : ins.length = (startSt args).length ∧ ∀ (k : Nat) x a, (startSt args)[k]? = some x → ins[k]? = some a → ResOk K Hi H a x := by
  induction h with
  | nil => exact ⟨rfl, fun k x a h => by simp [startSt] at h⟩
  | val _ _ ih => exact ih
  | io o n _ ih =>
    refine ⟨by simp [startSt, ih.1], fun k x a h1 h2 => ?_⟩
    cases k with
    | zero => simp [startSt] at h1 h2; subst h1; subst h2; exact ⟨o, n⟩
    | succ k => exact ih.2 k x a (by simpa [startSt] using h1) (by simpa using h2)
  | pen _ _ ih => exact ih
  | scr _ _ _ ih => exact ih
  | fn _ _ ih => exact ih
theorem start_sl {e : Ent} {vs : List V} {args : List Arg} {ins : List Addr} (h : ArgsOk K Hi H pp vs args ins) (hp : e.pp = pp) : ∀ (all : List Addr) (j : Nat), (∀ (k : Nat) a, ins[k]? = some a → all[j + k]? = some a) → ∀ (i : Nat) r, (startSl args j)[i]? = some (some r) → ∃ v, vs[i]? = some v ∧ RvOk K e Hi all v r := by
  induction h with
  | nil => intro all j _ i r h; simp [startSl] at h
  | val rp _ ih =>
    intro all j hk i r h
    cases i with
    | zero => simp [startSl] at h; subst h; exact ⟨_, rfl, rp⟩
    | succ i => obtain ⟨v, h1, h2⟩ := ih all j hk i r (by simpa [startSl] using h); exact ⟨v, by simpa using h1, h2⟩
  | io o n _ ih =>
    intro all j hk i r h
    cases i with
    | zero => simp [startSl] at h; subst h; exact ⟨_, rfl, _, hk 0 _ rfl, rfl⟩
    | succ i =>
      obtain ⟨v, h1, h2⟩ := ih all (j + 1) (fun k a q => by have := hk (k + 1) a (by simpa using q); rw [show j + 1 + k = j + (k + 1) by omega]; exact this) i r (by simpa [startSl] using h)
      exact ⟨v, by simpa using h1, h2⟩
  | pen q _ ih =>
    intro all j hk i r h
    cases i with
    | zero => simp [startSl] at h; subst h; exact ⟨_, rfl, _, hp.trans q, rfl⟩
    | succ i => obtain ⟨v, h1, h2⟩ := ih all j hk i r (by simpa [startSl] using h); exact ⟨v, by simpa using h1, h2⟩
  | scr q l _ ih =>
    intro all j hk i r h
    cases i with
    | zero => simp [startSl] at h; subst h; exact ⟨_, rfl, _, _, rfl, q, l⟩
    | succ i => obtain ⟨v, h1, h2⟩ := ih all j hk i r (by simpa [startSl] using h); exact ⟨v, by simpa using h1, h2⟩
  | fn q _ ih =>
    intro all j hk i r h
    cases i with
    | zero => simp [startSl] at h; subst h; exact ⟨_, rfl, _, q, rfl⟩
    | succ i => obtain ⟨v, h1, h2⟩ := ih all j hk i r (by simpa [startSl] using h); exact ⟨v, by simpa using h1, h2⟩
theorem so_start {N : List Str} {b : Nat} {vs : List V} {args : List Arg} {ins : List Addr} (sub : Same Hi H) (h : ArgsOk K Hi H pp vs args ins) (nd : ins.Nodup) (hb : b ≤ 2 ^ 23) (hp : ∀ p, pp = some p → PenAt b Hi H p ∧ Hi p = none ∧ p ∉ ins) :
    SO K ⟨Hi, H, pp, ins⟩ b ins Hi (startEn N.length args) (L2.start N vs) H := by
  have hl := args_length h
  obtain ⟨h1, h2⟩ := start_st h
  refine ⟨sub, ?_, fun i r hi => ?_, h1, h2, nd, fun a ha => .inr ha, List.prefix_refl _, hp, Same.refl _, fun a o q _ _ => q, fun a o q => .inl q, hb⟩
  · show (startSl args 0 ++ List.replicate (N.length - args.length) none).length = (L2.start N vs).length
    unfold L2.start
    simp only [List.length_append, startSl_length, List.length_map, List.length_replicate]
    rw [hl]
  · have hi : (startSl args 0 ++ List.replicate (N.length - args.length) none)[i]? = some (some r) := hi
    by_cases hlt : i < args.length
    · rw [List.getElem?_append_left (by rw [startSl_length]; exact hlt)] at hi
      obtain ⟨v, q1, q2⟩ := start_sl (e := ⟨Hi, H, pp, ins⟩) h rfl ins 0 (fun k a q => by simpa using q) i r hi
      refine ⟨v, ?_, q2⟩
      unfold L2.start
      rw [List.getElem?_append_left (by simpa using (by omega : i < vs.length)), List.getElem?_map, q1]
      rfl
    · rw [List.getElem?_append_right (by rw [startSl_length]; omega), List.getElem?_replicate] at hi
      split at hi <;> cases hi
theorem fn_end {e : Ent} {b : Nat} {as : List Addr} {Hi' H' : Hp} {ρ : En} {σ : L2.St} {args : List Arg} (S : SO K e b as Hi' ρ σ H') (hn : e.ins.length = (startSt args).length) {f : Fl} {out : Out} (h : (finish args (f, ρ)) = .ret out) :
    (f = .nx ∧ FnEnd K e b Hi' H' out .non) ∨ ∃ r, f = .rt r ∧ ∀ v, RvOk K e Hi' as v r → FnEnd K e b Hi' H' out v := by
  have hpre := S.pre
  have hasl : e.ins.length ≤ as.length := hpre.length_le
  have base : ∀ (o : Ores) (v : V), OresOk K e Hi' H' v o → FnEnd K e b Hi' H' ⟨o, ρ.st.take (startSt args).length⟩ v := fun o v q => by
    refine ⟨S.sub, S.old, S.same, S.newi, fun p hp => let ⟨x, y, _⟩ := S.penok p hp; ⟨x, y⟩, ?_, fun j x a h1 h2 => ?_, q, S.bud⟩
    · show (ρ.st.take (startSt args).length).length = e.ins.length
      rw [List.length_take, ← S.alen, ← hn]; omega
    · have h1 : (ρ.st.take (startSt args).length)[j]? = some x := h1
      rw [List.getElem?_take] at h1
      split at h1
      · exact S.res j x a h1 (pre_get hpre h2)
      · cases h1
  cases f with
  | nx => cases h; exact .inl ⟨rfl, base _ _ .non⟩
  | bk => cases h
  | ct => cases h
  | rt r =>
    refine .inr ⟨r, rfl, fun v rv => ?_⟩
    cases r with
    | val d => cases h; exact base _ _ rv
    | pen => cases h
    | scr => cases h
    | fn j => cases h
    | res k =>
      obtain ⟨a, ha, rfl⟩ := rv
      simp only [finish] at h
      split at h
      · rename_i hk
        cases h
        refine base _ _ ⟨a, ?_, rfl⟩
        obtain ⟨t, rfl⟩ := hpre
        rw [List.getElem?_append_left (by omega)] at ha
        exact ha
      · rename_i hk
        have hk' : ∀ d f, ρ.st[k]? = some (d, f) → ResOk K Hi' H' a (d, f) := fun d f q => S.res k _ a q ha
        split at h
        · rename_i d hd
          cases h
          obtain ⟨own, hn2⟩ := hk' _ _ hd
          refine base _ _ ⟨a, rfl, ?_, own, hn2⟩
          rcases S.wr a (List.mem_of_getElem? ha) with z | z
          · exact z
          · exfalso
            obtain ⟨j, hj⟩ := List.getElem?_of_mem z
            have e1 := nodup_at S.nd (pre_get hpre hj) ha
            have : j < e.ins.length := (List.getElem?_eq_some_iff.mp hj).1
            omega
        · rename_i d hd
          cases h
          exact base _ _ (hk' _ _ hd).1
        · cases h
end
section
variable {P : Program} {w : World} {K : PySem.W.Frag} {mg : Str → Option Value} {base : Heap}
theorem finish_all {args : List Arg} {p : Fl × En} {b : Nat} {Q : Nat → Out → Prop} (h : (finish args p).All b Q) : ∃ out, finish args p = .ret out ∧ Q b out := by
  obtain ⟨f, ρ⟩ := p
  cases f with
  | nx => exact ⟨_, rfl, h⟩
  | bk => exact h.elim
  | ct => exact h.elim
  | rt r =>
    cases r with
    | val d => exact ⟨_, rfl, h⟩
    | pen => exact h.elim
    | scr => exact h.elim
    | fn j => exact h.elim
    | res k =>
      simp only [finish] at h ⊢
      split at h
      · rename_i hk; exact ⟨_, if_pos hk, h⟩
      · rename_i hk
        rw [if_neg hk]
        split at h
        · exact ⟨_, rfl, h⟩
        · exact ⟨_, rfl, h⟩
        · exact h.elim
theorem fn_ok {x qual : Str} {st : Stmt} {f : Addr} {fd : FuncData} {N ps : List Str} {k : Nat} {m : MS} (F : Fun K x qual st f fd) (S : FnScope N ps (defScope st))
    (hbody : ∀ (cdv : Value) (A : Around) (outer : List Env) (s : Shared) (H : Hp) (E : XK), A.guards = some [] → Room k (A.deeper (envOfC qual (defScope st) s.heap.objs.size f cdv)) → SndSs (cxOf CX0 P w K mg base N qual (defScope st) f cdv A outer s H E).nox (defBody st) m) :
    FnG P w K mg base (k + 1) f fd ps (SpF K ps.length (runFn ps.length N.length m)) := by
  refine Fun.okG F S (fun vs H Q E h => ?_) (fun cdv A outer s H vs Q E gd hr h => ?_)
  · obtain ⟨b, Hi, pp, ins, args, hl, _⟩ := h
    exact hl
  · obtain ⟨b, Hi, pp, ins, args, hl, hb, sub, aok, nd, pen, all⟩ := h
    refine ⟨_, pss_tSs _ _, ?_⟩
    unfold runFn at all
    rw [if_pos ((args_length aok).trans hl)] at all
    have S0 : SO K ⟨Hi, H, pp, ins⟩ b ins Hi (startEn N.length args) (L2.start N vs) H := so_start (N := N) sub aok nd hb pen
    refine hbody cdv A outer s H E gd hr _ b ins Hi (startEn N.length args) (L2.start N vs) H _ S0 ((T.all_bind.mp all).mono fun b1 p _ h1 σ1 H1 Hi1 as1 x1 S1 => ?_)
    obtain ⟨fl, ρ1⟩ := p
    obtain ⟨out, ho, h2⟩ := finish_all h1
    rcases fn_end S1 (start_st aok).1 ho with ⟨rfl, F1⟩ | ⟨r, rfl, F1⟩
    · exact h2 .non H1 Hi1 F1
    · exact fun v rv => h2 v H1 Hi1 (F1 v rv)
end
end Wk

/-! Wk7m: methods: told by the receiver's kind when it stands there. -/
namespace Wk
open PySem PySem.Spec PyProof.Rows L2
variable [Ctx]
section
variable {X : Cx}
def TyH (X : Cx) (T : String) (x : V) (H : Hp) : Prop := ∀ (pins : List (Addr × Obj)) (σ : L2.St) (s : Shared) (v : Value), Inv X pins σ H s → RelV x v → s.TypeIs v T ∧ ∀ a, v = .ref a → ∃ ob, s.heap.get? a = some ob ∧ ob.dict = none
def MFit (X : Cx) (name : Str) (x : V) (H : Hp) (r : V → List V → Hp → VK → Prop) : Prop := ∃ T id, PlainAttrs T ∧ Slot T name id ∧ typeOf (.builtin id) = pure (.type "method_descriptor") ∧ MtR X id r ∧ TyH X T x H
theorem ev_bm0 {o : Expr} {name : Str} {apos cpos : Pos} {σ : L2.St} {H : Hp} {Q : VK}
    (ho : EvOk X o σ H fun x H1 => ∃ r, MFit X name x H1 r ∧ r x [] H1 Q)
    (hbase : attributeBase o name X.env (eval o X.env) = eval o X.env) (hline : (apos.endLine == cpos.line) = true) :
    EvOk X (.Call (.Attribute o name apos) [] [] cpos) σ H Q := by
  intro pins s I
  refine wpAny_Call_method0_late hbase hline (thn (ho pins s I) fun v s1 ⟨x, H1, I1, r1, r, ⟨T, id, pa, slot, hty, hm, ty⟩, q1⟩ => ?_)
  obtain ⟨h1, h2⟩ := ty _ _ _ _ I1 r1
  exact ⟨T, id, pa, slot, hty, h1, h2, Calls.callWith_builtin rfl (PySem.evalArgs_none (hm pins s1 σ H1 x [] v [] Q I1 r1 .nil q1))⟩
theorem ev_bm {o e : Expr} {name : Str} {es : List Expr} {apos cpos : Pos} {σ : L2.St} {H : Hp} {Q : VK}
    (ho : EvOk X o σ H fun x H1 => ∃ r, MFit X name x H1 r ∧ ArOk X (e :: es) σ H1 fun xs H2 => r x xs H2 Q)
    (hbase : attributeBase o name X.env (eval o X.env) = eval o X.env)
    (hfew : ((backTo cpos (starEach (e :: es) X.env)).all (fun x => !x.1) && (backToKw cpos (keywordEach [] X.env)).all (fun x => x.1.isSome)
      && decide ((e :: es).length + ([] : List Keyword).length + (if ([] : List Keyword).isEmpty then 0 else 1) < 30)) = true)
    (hline : (apos.endLine == cpos.line) = true) (hs : starEach (e :: es) X.env = (false, eval e X.env) :: starEach es X.env) (hplain : (backTo cpos (starEach es X.env)).any (·.1) = false) :
    EvOk X (.Call (.Attribute o name apos) (e :: es) [] cpos) σ H Q := by
  intro pins s I
  refine wpAny_Call_method_late hbase hfew hline rfl (thn (ho pins s I) fun v s1 ⟨x, H1, I1, r1, r, ⟨T, id, pa, slot, hty, hm, ty⟩, q1⟩ => ?_)
  obtain ⟨h1, h2⟩ := ty _ _ _ _ I1 r1
  refine ⟨T, id, pa, slot, hty, h1, h2, ?_⟩
  have hA := q1 cpos pins s1 I1
  rw [hs] at hA ⊢
  refine Calls.callWith_builtin (by show (false || (backTo cpos (starEach es X.env)).any (·.1)) = false; rw [hplain] <;> rfl) (Calls.evalArgs_plain ?_)
  exact thn hA fun us s2 ⟨vs, H2, I2, r2, q2⟩ => hm pins s2 σ H2 x vs v us Q I2 r1 r2 q2
def kindD : D → Nat
  | .none => 0 | .bool _ => 1 | .int _ => 2 | .str _ => 3 | .list _ => 4 | .tuple _ => 5 | .dict _ => 6
/-- reading methods: the receiver's data, the arguments' data -/
abbrev RoT := Str → Nat → Option (D → List D → OV)
/-- changing methods: the thing's data, the arguments' data; the answer, the thing's new data -/
abbrev MuT := Str → Nat → Option (D → List D → Option (D × D))
def RMu (K : PySem.W.Frag) (Hi : Hp) (F : D → List D → Option (D × D)) : V → List V → Hp → VK → Prop := fun x vs H Q => Same Hi H ∧ ∃ a d ds r d', x = .ref a ∧ OwnAt K Hi H a d ∧ Rps K Hi vs ds ∧ F d ds = some (r, d') ∧
  ∀ v ho, Rp K Hi v r → OwnAt K Hi (upd H a ho) a d' → Q v (upd H a ho)
def tyK (T : String) (k : Nat) : Prop := (k = 3 ∧ T = "str") ∨ (k = 4 ∧ T = "list") ∨ (k = 6 ∧ T = "dict")
def RoOk (X : Cx) (t : RoT) : Prop := ∀ name k F, t name k = some F → ∃ T id, tyK T k ∧ PlainAttrs T ∧ Slot T name id ∧ typeOf (.builtin id) = pure (.type "method_descriptor") ∧ MtD X id (fun d ds => if kindD d = k then F d ds else .no)
def MuOk (X : Cx) (t : MuT) : Prop := ∀ name k F, t name k = some F → ∃ T id, tyK T k ∧ PlainAttrs T ∧ Slot T name id ∧ typeOf (.builtin id) = pure (.type "method_descriptor") ∧ ∀ Hi, MtR X id (RMu X.K Hi fun d ds => if kindD d = k then F d ds else none)
theorem opd_ty {Hi H : Hp} {x : V} {d : D} {T : String} (hx : Hx X) (s : Same Hi H) (o : Opd X.K Hi H x d) (h : tyK T (kindD d)) : TyH X T x H := by
  cases d with
  | str z => cases o.str_; rcases h with ⟨_, rfl⟩ | ⟨e, _⟩ | ⟨e, _⟩ <;> first | exact fun pins σ s v I r => tyV_is I r (show tyV X.K "str" (.str z) H from rfl) | cases e
  | list ds =>
    obtain ⟨a, xs, rfl, hx, _⟩ := o.list_ s
    rcases h with ⟨e, _⟩ | ⟨_, rfl⟩ | ⟨e, _⟩ <;> first | exact fun pins σ s v I r => tyV_is I r (.inl ⟨rfl, xs, SqL.of hx⟩) | cases e
  | dict es =>
    rcases h with ⟨e, _⟩ | ⟨e, _⟩ | ⟨_, rfl⟩ <;> first | cases e | skip
    intro pins σ s' v I r
    by_cases hm : unm es = true
    · obtain ⟨a, kvs, rfl, hx, _⟩ := o.dict_ s hm
      cases r
      obtain ⟨_, hs, vs, kv, o, es, ep, ho, ex, hd, _⟩ := dk_rd I.hok hx
      exact ⟨⟨o, ho, ex.1⟩, fun b e => by cases e; exact ⟨o, ho, ex.2.1⟩⟩
    · obtain ⟨a, L, xs, rfl, rt, pt, dd, hs, hz⟩ := dt_in hx I s (tkm_of hm) o
      cases r
      obtain ⟨ob, er, ep, ho, hex, _⟩ := id dd
      exact ⟨dd.typeIs, fun b e => by cases e; exact ⟨ob, ho, hex.2.1⟩⟩
  | _ => rcases h with ⟨e, _⟩ | ⟨e, _⟩ | ⟨e, _⟩ <;> cases e
def mutAt (mu : MuT) (name : Str) (p : Rv × En) : Option (Nat × Nat × (D → List D → Option (D × D))) := match p.1 with
  | .res k => (match p.2.st[k]? with
    | some (d, false) => (mu name (kindD d)).map fun F => (k, kindD d, F)
    | _ => none)
  | _ => none
def mutDo (k kd : Nat) (F : D → List D → Option (D × D)) (q : List Rv × En) : T (Rv × En) := match freezes q.2 q.1 with
  | some (ds, ρ1) => (match ρ1.st[k]? with
    | some (d, false) => if kindD d = kd then (match F d ds with
      | some (r, d') => .ret (.val r, { ρ1 with st := ρ1.st.set k (d', false) })
      | none => .fail) else .fail
    | _ => .fail)
  | none => .fail
def roDo (kd : Nat) (F : D → List D → OV) (r : Rv) (q : List Rv × En) : T (Rv × En) := match q.2.deref r with
  | some d' => if kindD d' = kd then dn (F d') q.1 q.2 else .fail
  | none => .fail
/-- o.name(args) -/
def mMtd (ro : RoT) (mu : MuT) (name : Str) (mo : ME) (mr : MA) : ME := fun ρ => (mo ρ).bind fun p => match mutAt mu name p with
  | some (k, kd, F) => (mr p.2).bind (mutDo k kd F)
  | none => match p.2.deref p.1 with
    | some d => (match ro name (kindD d) with
      | some F => (mr p.2).bind (roDo (kindD d) F p.1)
      | none => .fail)
    | none => .fail
variable {o : Expr} {name : Str} {es : List Expr} {mo : ME} {mr : MA} {ro : RoT} {mu : MuT}
theorem mtd_post (hx : Hx X) (hro : RoOk X ro) (hmu : MuOk X mu) {P : (List V → Hp → Prop) → L2.St → Hp → Prop} (hr : ∀ e b as Hi ρ σ H (R : List V → Hp → Prop), SO X.K e b as Hi ρ σ H → (mr ρ).All b (PostA X.K e as Hi σ R) → P R σ H)
    {e : Ent} {b : Nat} {as : List Addr} {Hi : Hp} {ρ : En} {σ : L2.St} {H : Hp} {R : VK} (S : SO X.K e b as Hi ρ σ H) (ho : Snd X o mo) (h : (mMtd ro mu name mo mr ρ).All b (Post X.K e as Hi σ R)) :
    EvOk X o σ H fun x H1 => ∃ r, MFit X name x H1 r ∧ P (fun xs H2 => r x xs H2 R) σ H1 := by
  refine ho e b as Hi ρ σ H _ S ((T.all_bind.mp h).mono fun b1 p _ h1 v H1 Hi1 as1 x1 S1 r1 => ?_)
  split at h1
  · rename_i k kd F hm
    unfold mutAt at hm
    split at hm
    · rename_i k' hp
      split at hm
      · rename_i d hk
        rw [Option.map_eq_some_iff] at hm
        obtain ⟨F0, hF, e1⟩ := hm
        cases e1
        obtain ⟨Tn, id, ht, pa, slot, hty, hmt⟩ := hmu _ _ _ hF
        rw [hp] at r1
        have op := S1.opd r1 (show En.deref p.2 (.res k) = some d by simp [En.deref, hk])
        obtain ⟨a0, ha0, rfl⟩ := r1
        have hE : MtR X id (fun x xs H Q => ∃ Hi, RMu X.K Hi (fun d' ds => if kindD d' = kindD d then F d' ds else none) x xs H Q) := fun pins s σ H x xs v us Q I rx rs ⟨Hi, q⟩ => hmt Hi pins s σ H x xs v us Q I rx rs q
        refine ⟨_, ⟨Tn, id, pa, slot, hty, hE, opd_ty hx S1.sub op ht⟩, ?_⟩
        refine hr e b1 as1 Hi1 p.2 σ H1 _ S1 ((T.all_bind.mp h1).mono fun b2 q _ h2 us H2 Hi2 as2 x2 S2 r2 => ?_)
        unfold mutDo at h2
        split at h2
        · rename_i ds ρ1 hf
          obtain ⟨Hi3, x3, S3, r3⟩ := S2.frzs r2 hf
          split at h2
          · rename_i d1 hk1
            split at h2
            · rename_i hkd
              split at h2
              · rename_i rr d2 hF2
                have ha2 : as2[k]? = some a0 := pre_get x2.as ha0
                obtain ⟨own, hn⟩ := S3.res k _ a0 hk1 ha2
                refine ⟨Hi3, S3.sub, a0, d1, ds, rr, d2, rfl, own, r3, by simp only [if_pos hkd]; exact hF2, fun v ho rv own2 => ?_⟩
                exact h2 v _ Hi3 as2 ((x1.trans x2).trans x3) (S3.put hk1 ha2 own2) rv
              · exact h2.elim
            · exact h2.elim
          · exact h2.elim
        · exact h2.elim
      · cases hm
    · cases hm
  · split at h1
    · rename_i d hd
      split at h1
      · rename_i F hF
        obtain ⟨Tn, id, ht, pa, slot, hty, hmt⟩ := hro _ _ _ hF
        have op := S1.opd r1 hd
        have hE : MtR X id (fun x xs H Q => ∃ Hi, RMD X.K Hi (fun d' ds => if kindD d' = kindD d then F d' ds else .no) x xs H Q) := fun pins s σ H x xs v us Q I rx rs ⟨Hi, q⟩ => hmt Hi pins s σ H x xs v us Q I rx rs q
        refine ⟨_, ⟨Tn, id, pa, slot, hty, hE, opd_ty hx S1.sub op ht⟩, ?_⟩
        refine hr e b1 as1 Hi1 p.2 σ H1 _ S1 ((T.all_bind.mp h1).mono fun b2 q _ h2 us H2 Hi2 as2 x2 S2 r2 => ?_)
        unfold roDo at h2
        split at h2
        · rename_i d' hd'
          split at h2
          · rename_i hkd
            obtain ⟨sub, ds, os, post⟩ := dn_post S2 r2 (h2.mono fun _ _ _ z => z.ext (x1.trans x2))
            exact ⟨Hi2, sub, d', ds, S2.opd (r1.mono x2) hd', os, by simp only [if_pos hkd]; exact post⟩
          · exact h2.elim
        · exact h2.elim
      · exact h1.elim
    · exact h1.elim
theorem snd_mtd0 {apos pos : Pos} (hx : Hx X) (hro : RoOk X ro) (hmu : MuOk X mu) (ho : Snd X o mo) (hbase : attributeBase o name X.env (eval o X.env) = eval o X.env) (hline : (apos.endLine == pos.line) = true) :
    Snd X (.Call (.Attribute o name apos) [] [] pos) (mMtd ro mu name mo maNil) := fun e b as Hi ρ σ H R S h =>
  ev_bm0 (mtd_post (mr := maNil) (P := fun R σ H => R [] H) hx hro hmu (fun e b as Hi ρ σ H R S h => h [] H Hi as (Ext.refl _ _) S .nil) S ho h) hbase hline
theorem snd_mtd {a : Expr} {apos pos : Pos} (hx : Hx X) (hro : RoOk X ro) (hmu : MuOk X mu) (ho : Snd X o mo) (hr : SndA X (a :: es) mr) (hbase : attributeBase o name X.env (eval o X.env) = eval o X.env)
    (hfew : ((backTo pos (starEach (a :: es) X.env)).all (fun x => !x.1) && (backToKw pos (keywordEach [] X.env)).all (fun x => x.1.isSome)
      && decide ((a :: es).length + ([] : List Keyword).length + (if ([] : List Keyword).isEmpty then 0 else 1) < 30)) = true)
    (hline : (apos.endLine == pos.line) = true) (hs : starEach (a :: es) X.env = (false, eval a X.env) :: starEach es X.env) (hpl : (backTo pos (starEach es X.env)).any (·.1) = false) :
    Snd X (.Call (.Attribute o name apos) (a :: es) [] pos) (mMtd ro mu name mo mr) := fun e b as Hi ρ σ H R S h =>
  ev_bm (mtd_post (P := fun R σ H => ArOk X (a :: es) σ H R) hx hro hmu (fun e b as Hi ρ σ H R S h => hr e b as Hi ρ σ H R S h) S ho h) hbase hfew hline hs hpl
end
end Wk

/-! Wk7n: the methods that are known. -/
namespace Wk
open PySem PySem.Spec PyProof.Rows L2
variable [Ctx]
section
variable {X : Cx}
def mUpper : D → List D → OV
  | .str a, [] => if a.length ≤ 5592405 then .v (.str (Txt.upper a)) else .no
  | _, _ => .no
theorem mt_upperD : MtD X "str.upper" mUpper := by
  intro Hi pins s σ H x xs v us Q I rx rs ⟨sub, d, ds, o, os, q⟩
  cases d with
  | str a =>
    cases o.str_
    cases os with
    | nil =>
      simp only [mUpper] at q
      split at q
      · rename_i h; exact mt_upper pins s σ H _ _ v us Q I rx rs ⟨a, rfl, rfl, h, q.leaf sub (.str _)⟩
      · exact OPost.no q
    | cons _ _ => exact OPost.no q
  | _ => exact OPost.no q
def tupflat : D → Bool
  | .tuple _ => true
  | d => flatD d
theorem Opd.rp {K : PySem.W.Frag} {Hi H : Hp} {x : V} {d : D} (s : Same Hi H) (o : Opd K Hi H x d) (h : tupflat d = true) : Rp K Hi x d := by
  cases d with
  | none => cases o.none_; exact .non
  | bool b => cases o.bool_; exact .bl b
  | int b => cases o.int_; exact .int b
  | str b => cases o.str_; exact .str b
  | tuple ds =>
    cases o with
    | val r => exact r
    | own r => cases r
  | list ds => cases h
  | dict ds => cases h
def mGet : D → List D → OV
  | .dict es, [k] => (match keyOf k with
    | some _ => if unm es then .v ((dGet k es).getD .none) else .no
    | none => .no)
  | .dict es, [k, x] => (match keyOf k with
    | some _ => if unm es && tupflat x then .v ((dGet k es).getD x) else .no
    | none => .no)
  | _, _ => .no
theorem mt_getD (hu : X.A.units + 1 < cLine) : MtD X "dict.get" mGet := by
  intro Hi pins s σ H x xs v us Q I rx rs ⟨sub, d, ds, o, os, q⟩
  cases d with
  | dict es =>
    by_cases hm : unm es = true
    case neg =>
      cases os with
      | nil => exact OPost.no q
      | cons h t =>
        cases t with
        | nil => simp only [mGet, if_neg hm] at q; split at q <;> exact OPost.no q
        | cons h2 t2 =>
          cases t2 with
          | nil => simp only [mGet, Bool.eq_false_iff.mpr hm, Bool.false_and] at q; split at q <;> exact OPost.no q
          | cons _ _ => exact OPost.no q
    obtain ⟨a, kvs, rfl, hx, rt⟩ := o.dict_ sub hm
    cases rx
    cases os with
    | nil => exact OPost.no q
    | cons h t =>
      rename_i y kd _ _
      cases t with
      | nil =>
        simp only [mGet, if_pos hm] at q
        split at q
        · rename_i k hk
          have e := keyOf_eq hk
          subst e
          have ey := key_opd h k rfl
          subst ey
          obtain ⟨u, rfl, ru⟩ := rs.one
          refine d_get1 hu I (.inl ⟨kvs, k, hx, rfl, rfl⟩) ru fun w' s' I' rw' => ?_
          rcases dGet_of k rt with ⟨e1, e2⟩ | ⟨v1, d1, e1, e2, r1⟩
          · rw [e1] at rw'; rw [e2] at q
            exact ⟨_, H, I', rw', q.leaf sub .non⟩
          · rw [e1] at rw'; rw [e2] at q
            exact ⟨_, H, I', rw', q.leaf sub r1⟩
        · exact OPost.no q
      | cons h2 t2 =>
        cases t2 with
        | cons _ _ => exact OPost.no q
        | nil =>
          rename_i z zd
          simp only [mGet, hm, Bool.true_and] at q
          split at q
          · rename_i k hk
            split at q
            · rename_i hz
              have e := keyOf_eq hk
              subst e
              have ey := key_opd h k rfl
              subst ey
              obtain ⟨u, r, rfl, ru, rr⟩ : ∃ u r, us = [u, r] ∧ RelV (kV k) u ∧ RelV z r := by
                cases rs with | cons a b => cases b with | cons c d => cases d; exact ⟨_, _, rfl, a, c⟩
              refine d_get2 hu I (.inl ⟨kvs, k, hx, rfl, rfl⟩) ru rr fun w' s' I' rw' => ?_
              rcases dGet_of k rt with ⟨e1, e2⟩ | ⟨v1, d1, e1, e2, r1⟩
              · rw [e1] at rw'; rw [e2] at q
                exact ⟨_, H, I', rw', q.leaf sub (h2.rp sub hz)⟩
              · rw [e1] at rw'; rw [e2] at q
                exact ⟨_, H, I', rw', q.leaf sub r1⟩
            · exact OPost.no q
          · exact OPost.no q
  | _ => exact OPost.no q
/-! changing -/
def uApp : D → List D → Option (D × D)
  | .list ds, [d] => if ds.length < sizeLine then some (.none, .list (ds ++ [d])) else none
  | _, _ => none
def uExt : D → List D → Option (D × D)
  | .list ds, [.list es] => if ds.length + es.length ≤ sizeLine then some (.none, .list (ds ++ es)) else none
  | _, _ => none
def uRev : D → List D → Option (D × D)
  | .list ds, [] => some (.none, .list ds.reverse)
  | _, _ => none
def uClr : D → List D → Option (D × D)
  | .list _, [] => some (.none, .list [])
  | _, _ => none
def uPop : D → List D → Option (D × D)
  | .list ds, [] => (match ds[ds.length - 1]? with
    | some d => some (d, .list ds.dropLast)
    | none => none)
  | .list ds, [.int i] => (match ixN ds.length i with
    | some k => (match ds[k]? with
      | some d => if decide (-(2 ^ 63) ≤ i) && decide (i < 2 ^ 63) then some (d, .list (ds.eraseIdx k)) else none
      | none => none)
    | none => none)
  | _, _ => none
theorem Rps.rev {K : PySem.W.Frag} {H : Hp} : ∀ {vs : List V} {ds : List D}, Rps K H vs ds → Rps K H vs.reverse ds.reverse
  | _, _, .nil => .nil
  | _, _, .cons a t => by rw [List.reverse_cons, List.reverse_cons]; exact t.rev.append (.cons a .nil)
theorem Rps.get' {K : PySem.W.Frag} {H : Hp} : ∀ {vs : List V} {ds : List D} {k : Nat} {d : D}, Rps K H vs ds → ds[k]? = some d → ∃ v, vs[k]? = some v ∧ Rp K H v d
  | _, _, _, _, .nil, h => by simp at h
  | _, _, 0, _, .cons a _, h => by simp at h; subst h; exact ⟨_, rfl, a⟩
  | _, _, k + 1, _, .cons _ t, h => by
    obtain ⟨v, h1, h2⟩ := t.get' (k := k) (by simpa using h)
    exact ⟨v, by simpa using h1, h2⟩
theorem Rps.dropLast {K : PySem.W.Frag} {H : Hp} {vs : List V} {ds : List D} (h : Rps K H vs ds) : Rps K H vs.dropLast ds.dropLast := by
  rw [List.dropLast_eq_take, List.dropLast_eq_take, h.length]
  exact h.take _
theorem Rps.erase {K : PySem.W.Frag} {H : Hp} {vs : List V} {ds : List D} (h : Rps K H vs ds) (k : Nat) : Rps K H (vs.eraseIdx k) (ds.eraseIdx k) := by
  rw [List.eraseIdx_eq_take_drop_succ, List.eraseIdx_eq_take_drop_succ]
  exact (h.take _).append (h.drop _)
theorem mu_app (Hi : Hp) : MtR X "list.append" (RMu X.K Hi uApp) := by
  intro pins s σ H x vs v us Q I rx rv ⟨sub, a, d, ds, r, d', ex, own, rps, hf, q⟩
  subst ex
  cases d with
  | list es =>
    cases rps with
    | nil => cases hf
    | cons h t =>
      cases t with
      | cons _ _ => cases hf
      | nil =>
        simp only [uApp] at hf
        split at hf
        · rename_i hz
          cases hf
          obtain ⟨xs, hx, rs⟩ := own.list_
          refine mt_append pins s σ H _ _ v us Q I rx rv ⟨a, xs, _, rfl, rfl, hx, by rw [rs.length]; exact hz, q _ _ .non (.lst upd_same (rs.append (.cons h .nil)))⟩
        · cases hf
  | _ => cases hf
theorem mu_ext (Hi : Hp) : MtR X "list.extend" (RMu X.K Hi uExt) := by
  intro pins s σ H x vs v us Q I rx rv ⟨sub, a, d, ds, r, d', ex, own, rps, hf, q⟩
  subst ex
  cases d with
  | list es =>
    cases rps with
    | nil => cases hf
    | cons h t =>
      cases t with
      | cons _ _ => rename_i d _ _ _ _ _ _ ; cases d <;> cases hf
      | nil =>
        cases h with
        | lst hb rb =>
          simp only [uExt] at hf
          split at hf
          · rename_i hz
            cases hf
            obtain ⟨xs, hx, rs⟩ := own.list_
            exact mt_extend pins s σ H _ _ v us Q I rx rv ⟨a, _, xs, _, rfl, rfl, hx, sub _ _ hb, by rw [rs.length, rb.length]; exact hz, q _ _ .non (.lst upd_same (rs.append rb))⟩
          · cases hf
        | _ => cases hf
  | _ => cases hf
theorem mu_rev (Hi : Hp) : MtR X "list.reverse" (RMu X.K Hi uRev) := by
  intro pins s σ H x vs v us Q I rx rv ⟨sub, a, d, ds, r, d', ex, own, rps, hf, q⟩
  subst ex
  cases d with
  | list es =>
    cases rps with
    | cons h t => cases hf
    | nil =>
      cases hf
      obtain ⟨xs, hx, rs⟩ := own.list_
      exact mt_reverse pins s σ H _ _ v us Q I rx rv ⟨a, xs, rfl, rfl, hx, q _ _ .non (.lst upd_same rs.rev)⟩
  | _ => cases hf
theorem mu_clr (Hi : Hp) : MtR X "list.clear" (RMu X.K Hi uClr) := by
  intro pins s σ H x vs v us Q I rx rv ⟨sub, a, d, ds, r, d', ex, own, rps, hf, q⟩
  subst ex
  cases d with
  | list es =>
    cases rps with
    | cons h t => cases hf
    | nil =>
      cases hf
      obtain ⟨xs, hx, rs⟩ := own.list_
      exact mt_clear pins s σ H _ _ v us Q I rx rv ⟨a, xs, rfl, rfl, hx, q _ _ .non (.lst upd_same .nil)⟩
  | _ => cases hf
theorem ixN_seq' {n : Nat} {i : Int} {k : Nat} (h : ixN n i = some k) : seqIndex? i n = some k := (ixN_seq h).1
theorem mu_pop (Hi : Hp) : MtR X "list.pop" (RMu X.K Hi uPop) := by
  intro pins s σ H x vs v us Q I rx rv ⟨sub, a, d, ds, r, d', ex, own, rps, hf, q⟩
  subst ex
  cases d with
  | list es =>
    obtain ⟨xs, hx, rs⟩ := own.list_
    cases rps with
    | nil =>
      simp only [uPop] at hf
      split at hf
      · rename_i d hd
        cases hf
        obtain ⟨y, hy, ry⟩ := rs.get' hd
        exact mt_pop pins s σ H _ _ v us Q I rx rv ⟨a, xs, y, rfl, rfl, hx, by rw [rs.length]; exact hy, q _ _ ry (.lst upd_same rs.dropLast)⟩
      · cases hf
    | cons h t =>
      cases t with
      | cons _ _ => rename_i d _ _ _ _ _ _ ; cases d <;> cases hf
      | nil =>
        cases h with
        | int i =>
          simp only [uPop] at hf
          split at hf
          · rename_i k hk
            split at hf
            · rename_i d hd
              split at hf
              · rename_i hb
                cases hf
                simp only [Bool.and_eq_true, decide_eq_true_eq] at hb
                obtain ⟨y, hy, ry⟩ := rs.get' hd
                exact mt_popAt pins s σ H _ _ v us Q I rx rv ⟨a, xs, i, k, y, rfl, rfl, hx, hb.1, hb.2, by rw [rs.length]; exact ixN_seq' hk, hy, q _ _ ry (.lst upd_same (rs.erase k))⟩
              · cases hf
            · cases hf
          · cases hf
        | _ => cases hf
  | _ => cases hf
/-! the tables -/
def roT : RoT := fun name k =>
  if k = 3 then (if name = "join" then some mJoin else if name = "upper" then some mUpper else none)
  else if k = 6 then (if name = "get" then some mGet else none)
  else none
def muT : MuT := fun name k =>
  if k = 4 then (if name = "append" then some uApp else if name = "extend" then some uExt else if name = "reverse" then some uRev else if name = "pop" then some uPop else if name = "clear" then some uClr else none)
  else none
theorem MtD.at {id : String} {F : D → List D → OV} {k : Nat} (h : MtD X id F) : MtD X id (fun d ds => if kindD d = k then F d ds else .no) := by
  intro Hi pins s σ H x xs v us Q I rx rs ⟨sub, d, ds, o, os, q⟩
  by_cases hk : kindD d = k
  · simp only [if_pos hk] at q
    exact h Hi pins s σ H x xs v us Q I rx rs ⟨sub, d, ds, o, os, q⟩
  · simp only [if_neg hk] at q
    exact OPost.no q
theorem RMu.at {id : String} {F : D → List D → Option (D × D)} {k : Nat} (h : ∀ Hi, MtR X id (RMu X.K Hi F)) : ∀ Hi, MtR X id (RMu X.K Hi fun d ds => if kindD d = k then F d ds else none) := by
  intro Hi pins s σ H x vs v us Q I rx rv ⟨sub, a, d, ds, r, d', e, own, rps, hf, q⟩
  by_cases hk : kindD d = k
  · simp only [if_pos hk] at hf
    exact h Hi pins s σ H x vs v us Q I rx rv ⟨sub, a, d, ds, r, d', e, own, rps, hf, q⟩
  · simp only [if_neg hk] at hf
    cases hf
theorem roT_ok (hu : X.A.units + 1 < cLine) : RoOk X roT := by
  intro name k F h
  unfold roT at h
  split at h
  · rename_i hk; subst hk
    split at h
    · rename_i e; subst e; cases h
      exact ⟨"str", _, .inl ⟨rfl, rfl⟩, PySem.F.plainAttrs_str, PySem.F.slot_str_join, PySem.F.type_str_join, mt_joinD.at⟩
    · split at h
      · rename_i e; subst e; cases h
        exact ⟨"str", _, .inl ⟨rfl, rfl⟩, PySem.F.plainAttrs_str, PySem.F.slot_str_upper, PySem.F.type_str_upper, mt_upperD.at⟩
      · cases h
  · split at h
    · rename_i hk; subst hk
      split at h
      · rename_i e; subst e; cases h
        exact ⟨"dict", _, .inr (.inr ⟨rfl, rfl⟩), PySem.F.plainAttrs_dict, PySem.F.slot_dict_get, PySem.F.type_dict_get, (mt_getD hu).at⟩
      · cases h
    · cases h
theorem muT_ok : MuOk X muT := by
  intro name k F h
  unfold muT at h
  split at h
  · rename_i hk; subst hk
    split at h
    · rename_i e; subst e; cases h
      exact ⟨"list", _, .inr (.inl ⟨rfl, rfl⟩), PySem.F.plainAttrs_list, PySem.F.slot_list_append, PySem.F.type_list_append, RMu.at mu_app⟩
    · split at h
      · rename_i e; subst e; cases h
        exact ⟨"list", _, .inr (.inl ⟨rfl, rfl⟩), PySem.F.plainAttrs_list, PySem.F.slot_list_extend, PySem.F.type_list_extend, RMu.at mu_ext⟩
      · split at h
        · rename_i e; subst e; cases h
          exact ⟨"list", _, .inr (.inl ⟨rfl, rfl⟩), PySem.F.plainAttrs_list, PySem.F.slot_list_reverse, PySem.F.type_list_reverse, RMu.at mu_rev⟩
        · split at h
          · rename_i e; subst e; cases h
            exact ⟨"list", _, .inr (.inl ⟨rfl, rfl⟩), PySem.F.plainAttrs_list, PySem.F.slot_list_pop, PySem.F.type_list_pop, RMu.at mu_pop⟩
          · split at h
            · rename_i e; subst e; cases h
              exact ⟨"list", _, .inr (.inl ⟨rfl, rfl⟩), PySem.F.plainAttrs_list, PySem.F.slot_list_clear, PySem.F.type_list_clear, RMu.at mu_clr⟩
            · cases h
  · cases h
end
end Wk

/-! Wk3r: repr of plain data (dicts apart from the modules' own). -/
namespace Wk
open PySem PySem.Spec PyProof.Rows L2
variable [Ctx]
mutual
/-- a value reads as data; its dicts are ordinary ones -/
inductive RdN (h : Heap) : Value → D → Prop
  | none : RdN h .none .none
  | bool (b : Bool) : RdN h (.bool b) (.bool b)
  | int (i : Int) (t : Tok) : RdN h (.int i t) (.int i)
  | str (x : Str) (t : Tok) : RdN h (.str x t) (.str x)
  | list {a : Addr} {o : Obj} {vs : Array Value} {n : Nat} {xs : List D} : h.get? a = some o → o.cls = .type "list" → o.data = .seq vs n → RdNs h vs.toList xs → RdN h (.ref a) (.list xs)
  | tuple {a : Addr} {o : Obj} {vs : Array Value} {n : Nat} {xs : List D} : h.get? a = some o → o.cls = .type "tuple" → o.data = .seq vs n → RdNs h vs.toList xs → RdN h (.ref a) (.tuple xs)
  | dict {a : Addr} {o : Obj} {es : Array DictEntry} {n : Nat} {kvs : List (D × D)} : h.get? a = some o → o.cls = .type "dict" → o.data = .dict es n → (a == sysModules) = false →
      RdNs h (es.toList.map (·.key)) (kvs.map (·.1)) → RdNs h (es.toList.map (·.val)) (kvs.map (·.2)) → RdN h (.ref a) (.dict kvs)
inductive RdNs (h : Heap) : List Value → List D → Prop
  | nil : RdNs h [] []
  | cons {v : Value} {vs : List Value} {d : D} {ds : List D} : RdN h v d → RdNs h vs ds → RdNs h (v :: vs) (d :: ds)
end
section
variable {h : Heap}
mutual
theorem RdN.reads : ∀ {v : Value} {d : D}, RdN h v d → ∃ as, Reads h v d as
  | _, _, .none => ⟨_, .none⟩
  | _, _, .bool b => ⟨_, .bool b⟩
  | _, _, .int i t => ⟨_, .int i t⟩
  | _, _, .str x t => ⟨_, .str x t⟩
  | _, _, .list q1 q2 q3 q4 => let ⟨_, r⟩ := q4.reads; ⟨_, .list q1 q2 q3 r⟩
  | _, _, .tuple q1 q2 q3 q4 => let ⟨_, r⟩ := q4.reads; ⟨_, .tuple q1 q2 q3 r⟩
  | _, _, .dict q1 q2 q3 _ q4 q5 => let ⟨_, r⟩ := q4.reads; let ⟨_, r'⟩ := q5.reads; ⟨_, .dict q1 q2 q3 r r'⟩
theorem RdNs.reads : ∀ {vs : List Value} {ds : List D}, RdNs h vs ds → ∃ as, ReadsAll h vs ds as
  | _, _, .nil => ⟨_, .nil⟩
  | _, _, .cons q r => let ⟨_, q'⟩ := q.reads; let ⟨_, r'⟩ := r.reads; ⟨_, .cons q' r'⟩
end
end
section
variable {prog : Program} {w : World} {h₀ : Heap}
def Fine (prog : Program) (w : World) (h₀ : Heap) (v : Value) (d : D) : Prop := ∃ bs, ReadAtMost h₀ d.depth bs ∧ ReprK prog w bs h₀ d.depth v d.shown
def FineAll (prog : Program) (w : World) (h₀ : Heap) (vs : List Value) (ds : List D) : Prop := ∃ bs, ReadAtMost h₀ (PyData.depthAll ds) bs ∧ ReprAllK prog w bs h₀ (PyData.depthAll ds) vs (PyData.shownAll ds)
theorem fine_leaf {v : Value} {d : D} (hd : d.depth = 0) (h : ReprIs prog w v d.shown) : Fine prog w h₀ v d := ⟨[], (fun _ z => nomatch z), .of_is h _ _ _⟩
mutual
theorem RdN.fine : ∀ {v : Value} {d : D}, RdN h₀ v d → d.showable = true → d.shown.length ≤ sizeLine → Fine prog w h₀ v d
  | _, _, .none, _, _ => fine_leaf (by simp only [PyData.depth]) (by simp only [PyData.shown]; exact .none)
  | _, _, .bool b, _, _ => fine_leaf (by simp only [PyData.depth]) (by simp only [PyData.shown]; exact .bool b)
  | _, _, .int i t, hs, _ => fine_leaf (by simp only [PyData.depth]) (by simp only [PyData.shown]; exact .int t (by simpa [PyData.showable] using hs))
  | _, _, .str x t, _, hz => fine_leaf (by simp only [PyData.depth]) (by simp only [PyData.shown] at hz ⊢; exact .str x t hz)
  | _, _, .list (a := a) (vs := vs) (xs := xs) q1 q2 q3 q4, hs, hz => by
    simp only [PyData.shown] at hz
    simp only [PyData.showable] at hs
    obtain ⟨bs, hb, hk⟩ := q4.fine hs fun t ht => Nat.le_trans (listText_mem_le ht) hz
    obtain ⟨as, rd⟩ := (RdN.list q1 q2 q3 q4).reads
    have deep : PyData.depthAll xs < (PyData.list xs).depth := by rw [PyData.depth]; exact Nat.lt_succ_self _
    have out : a ∉ bs := not_mem_of_deeper rd deep hb
    refine ⟨a :: bs, .cons rd (Nat.le_of_lt deep) hb, ?_⟩
    rw [PyData.depth, PyData.shown]
    obtain ⟨l⟩ := vs
    match l, q4, hk, q3 with
    | [], q4, hk, q3 =>
      cases q4
      rw [PyData.shownAll, listText_nil]
      exact ReprK.listEmpty q1 q2 q3
    | x :: l, _, hk, q3 => exact ReprK.list q1 q2 q3 out (by simpa using hk.length_eq) fun i y z => hk.item i y (by simpa using z)
  | _, _, .tuple (a := a) (vs := vs) (xs := xs) q1 q2 q3 q4, hs, hz => by
    simp only [PyData.shown] at hz
    simp only [PyData.showable] at hs
    obtain ⟨bs, hb, hk⟩ := q4.fine hs fun t ht => Nat.le_trans (tupleText_mem_le ht) hz
    obtain ⟨as, rd⟩ := (RdN.tuple q1 q2 q3 q4).reads
    have deep : PyData.depthAll xs < (PyData.tuple xs).depth := by rw [PyData.depth]; exact Nat.lt_succ_self _
    refine ⟨a :: bs, .cons rd (Nat.le_of_lt deep) hb, ?_⟩
    rw [PyData.depth, PyData.shown]
    exact ReprK.tuple q1 q2 q3 (not_mem_of_deeper rd deep hb) hk
  | _, _, .dict (a := a) (es := es) (kvs := kvs) q1 q2 q3 q6 q4 q5, hs, hz => by
    simp only [PyData.shown] at hz
    obtain ⟨s1, s2⟩ := PyData.showableKv_split kvs (by simpa only [PyData.showable] using hs)
    obtain ⟨b1, hb1, k1⟩ := q4.fine s1 fun t ht => by
      obtain ⟨p, hp, hl⟩ := PyData.shownKv_key_le kvs t ht
      exact Nat.le_trans hl (Nat.le_trans (dictText_mem_le hp) hz)
    obtain ⟨b2, hb2, k2⟩ := q5.fine s2 fun t ht => by
      obtain ⟨p, hp, hl⟩ := PyData.shownKv_val_le kvs t ht
      exact Nat.le_trans hl (Nat.le_trans (dictText_mem_le hp) hz)
    obtain ⟨as, rd⟩ := (RdN.dict q1 q2 q3 q6 q4 q5).reads
    have both : ReadAtMost h₀ (PyData.depthKv kvs) (b1 ++ b2) := .append (hb1.mono (PyData.depthAll_keys_le kvs)) (hb2.mono (PyData.depthAll_vals_le kvs))
    have deep : PyData.depthKv kvs < (PyData.dict kvs).depth := by rw [PyData.depth]; exact Nat.lt_succ_self _
    refine ⟨a :: (b1 ++ b2), .cons rd (Nat.le_of_lt deep) both, ?_⟩
    rw [PyData.depth, PyData.shown, PyData.shownKv_eq]
    exact ReprK.dict q1 q2 q3 q6 (not_mem_of_deeper rd deep both) (.of_two es.toList _ _ (k1.more_le (fun b z => List.mem_append_left _ z) (PyData.depthAll_keys_le kvs)) (k2.more_le (fun b z => List.mem_append_right _ z) (PyData.depthAll_vals_le kvs)))
theorem RdNs.fine : ∀ {vs : List Value} {ds : List D}, RdNs h₀ vs ds → PyData.showableAll ds = true → (∀ t ∈ PyData.shownAll ds, t.length ≤ sizeLine) → FineAll prog w h₀ vs ds
  | _, _, .nil, _, _ => ⟨[], (fun _ z => nomatch z), by rw [PyData.shownAll]; exact .nil⟩
  | _, _, .cons (d := d) (ds := ds) q r, hs, hz => by
    rw [PyData.showableAll, Bool.and_eq_true] at hs
    obtain ⟨b1, hb1, k1⟩ := q.fine hs.1 (hz _ (by rw [PyData.shownAll]; exact List.mem_cons_self))
    obtain ⟨b2, hb2, k2⟩ := r.fine hs.2 fun t ht => hz t (by rw [PyData.shownAll]; exact List.mem_cons_of_mem _ ht)
    refine ⟨b1 ++ b2, ?_, ?_⟩
    · rw [PyData.depthAll]
      exact .append (hb1.mono (Nat.le_max_left _ _)) (hb2.mono (Nat.le_max_right _ _))
    · rw [PyData.depthAll, PyData.shownAll]
      exact .cons ((k1.more fun b z => List.mem_append_left _ z).level_le (Nat.le_max_left _ _)) (k2.more_le (fun b z => List.mem_append_right _ z) (Nat.le_max_right _ _))
end
/-- repr's call -/
theorem repr_call {A : Around} {E : Value → Shared → Prop} {s : Shared} {Q : Value → Shared → Prop} {v : Value} {d : D} (r : RdN s.heap v d) (hs : d.showable = true) (hz : d.shown.length ≤ sizeLine) (hg : A.guards = some []) (hu : A.units + (d.depth + 1) < cLine)
    (hQ : ∀ h' u tk, (∀ b o, s.heap.get? b = some o → h'.get? b = some o) → Q (.str d.shown u) { s with heap := h', toks := tk }) : wpAny (model prog w) A (call (.builtin "repr") [v]) Q E s := by
  have grd : A.in1.guards = some [] := hg
  cases r with
  | none => simp only [PyData.shown] at hQ; exact PySem.P.repr_of_none (hQ s.heap _ _ fun _ _ z => z)
  | bool b => simp only [PyData.shown] at hQ; exact PySem.P.repr_of_bool (hQ s.heap _ _ fun _ _ z => z)
  | int i t => simp only [PyData.shown] at hQ; exact PySem.P.repr_of_int (by simpa [PyData.showable] using hs) (hQ s.heap _ _ fun _ _ z => z)
  | str x t => simp only [PyData.shown] at hQ hz; exact PySem.P.repr_of_str (hQ s.heap _ _ fun _ _ z => z) hz
  | @list a o vs n xs q1 q2 q3 q4 =>
    simp only [PyData.shown] at hz hQ
    simp only [PyData.showable] at hs
    simp only [PyData.depth] at hu
    obtain ⟨bs, hb, hk⟩ := q4.fine (prog := prog) (w := w) hs fun t ht => Nat.le_trans (listText_mem_le ht) hz
    obtain ⟨as, rd⟩ := (RdN.list q1 q2 q3 q4).reads
    have out : a ∉ bs := not_mem_of_deeper rd (by rw [PyData.depth]; exact Nat.lt_succ_self _) hb
    refine call_repr_slot (by omega) ⟨o, q1, q2⟩ PySem.F.slot_list_repr.toG ?_
    have room : A.in1.units + (PyData.depthAll xs + 1) < cLine := by show A.units + 1 + _ < _; omega
    obtain ⟨l⟩ := vs
    match l, q4, hk, q3 with
    | [], q4, hk, q3 =>
      cases q4
      rw [PyData.shownAll, listText_nil] at hQ
      exact call_list_repr_empty ⟨o, q1, q2⟩ q1 q3 ⟨_, _, rfl, hQ s.heap _ _ fun _ _ z => z⟩
    | x :: l, _, hk, q3 =>
      exact call_list_reprK q1 q2 q3 out (by simpa using hk.length_eq) (fun i y z => hk.item i y (by simpa using z)) grd (fun b _ => Clear.nil b) room (fun _ _ z => z) (fun h' u tk k => ⟨_, _, rfl, hQ h' u tk k⟩) hz
  | @tuple a o vs n xs q1 q2 q3 q4 =>
    simp only [PyData.shown] at hz hQ
    simp only [PyData.showable] at hs
    simp only [PyData.depth] at hu
    obtain ⟨bs, hb, hk⟩ := q4.fine (prog := prog) (w := w) hs fun t ht => Nat.le_trans (tupleText_mem_le ht) hz
    obtain ⟨as, rd⟩ := (RdN.tuple q1 q2 q3 q4).reads
    have out : a ∉ bs := not_mem_of_deeper rd (by rw [PyData.depth]; exact Nat.lt_succ_self _) hb
    refine call_repr_slot (by omega) ⟨o, q1, q2⟩ PySem.F.slot_tuple_repr ?_
    have room : A.in1.units + (PyData.depthAll xs + 1) < cLine := by show A.units + 1 + _ < _; omega
    exact call_tuple_reprK q1 q2 q3 out hk grd (fun b _ => Clear.nil b) room (fun _ _ z => z) (fun h' u tk k => ⟨_, _, rfl, hQ h' u tk k⟩) hz
  | @dict a o es n kvs q1 q2 q3 q6 q4 q5 =>
    simp only [PyData.shown] at hz hQ
    simp only [PyData.depth] at hu
    obtain ⟨s1, s2⟩ := PyData.showableKv_split kvs (by simpa only [PyData.showable] using hs)
    obtain ⟨b1, hb1, k1⟩ := q4.fine (prog := prog) (w := w) s1 fun t ht => by
      obtain ⟨p, hp, hl⟩ := PyData.shownKv_key_le kvs t ht
      exact Nat.le_trans hl (Nat.le_trans (dictText_mem_le hp) hz)
    obtain ⟨b2, hb2, k2⟩ := q5.fine (prog := prog) (w := w) s2 fun t ht => by
      obtain ⟨p, hp, hl⟩ := PyData.shownKv_val_le kvs t ht
      exact Nat.le_trans hl (Nat.le_trans (dictText_mem_le hp) hz)
    obtain ⟨as, rd⟩ := (RdN.dict q1 q2 q3 q6 q4 q5).reads
    have both : ReadAtMost s.heap (PyData.depthKv kvs) (b1 ++ b2) := .append (hb1.mono (PyData.depthAll_keys_le kvs)) (hb2.mono (PyData.depthAll_vals_le kvs))
    have out : a ∉ b1 ++ b2 := not_mem_of_deeper rd (by rw [PyData.depth]; exact Nat.lt_succ_self _) both
    rw [PyData.shownKv_eq] at hz hQ
    refine call_repr_slot (by omega) ⟨o, q1, q2⟩ PySem.F.slot_dict_repr ?_
    have room : A.in1.units + (PyData.depthKv kvs + 1) < cLine := by show A.units + 1 + _ < _; omega
    exact call_dict_reprK q1 q2 q3 q6 out (.of_two es.toList _ _ (k1.more_le (fun b z => List.mem_append_left _ z) (PyData.depthAll_keys_le kvs)) (k2.more_le (fun b z => List.mem_append_right _ z) (PyData.depthAll_vals_le kvs))) grd (fun b _ => Clear.nil b) room
      (fun _ _ z => z) (fun h' u tk k => ⟨_, _, rfl, hQ h' u tk k⟩) hz
end
end Wk

/-! Wk7r: repr as a built-in over data. -/
namespace Wk
open PySem PySem.Spec PyProof.Rows L2
variable [Ctx]
section
variable {X : Cx} {pins : List (Addr × Obj)} {σ : L2.St} {H : Hp} {s : Shared}
mutual
theorem Rp.rdn (I : Inv X pins σ H s) : ∀ {v : V} {d : D} {u : Value}, Rp X.K H v d → RelV v u → RdN s.heap u d
  | _, _, _, .non, r => by cases r; exact .none
  | _, _, _, .bl b, r => by cases r; exact .bool b
  | _, _, _, .int i, r => by obtain ⟨t, rfl⟩ := r; exact .int i t
  | _, _, _, .str x, r => by obtain ⟨t, rfl⟩ := r; exact .str x t
  | _, _, _, .lst h rs, r => by
    cases r
    obtain ⟨its, rv, ⟨o, n, ho, hc, _, hd⟩, _⟩ := I.list (SqL.of h)
    exact .list ho hc hd (rs.rdn I rv)
  | _, _, _, .tup h rs, r => by
    cases r
    obtain ⟨its, rv, ⟨o, ho, hc, n, hd⟩, _⟩ := I.tuple h
    exact .tuple ho hc hd (rs.rdn I rv)
  | _, _, _, .dik h rk, r => by
    cases r
    obtain ⟨_, hs, vs, kv, o, es, ep, ho, ex, hd, _, pr, _⟩ := dk_rd I.hok h
    obtain ⟨z1, z2⟩ := rk.rdn I kv pr
    exact .dict ho ex.1 hd hs z1 z2
  | _, _, _, .dit h rk n, r => by
    cases r
    obtain ⟨z, y, xs, pt, o, es, ep, h1, h2, h3, h4, h5⟩ := (show ObjOk X.prog X.w H s.heap _ (dtO _ _) from I.hok _ _ h).1
    obtain ⟨z1, z2⟩ := rk.rdn I pt
    exact .dict h1 h2.1 h3 y (by rw [h4, List.map_map]; exact z1) (by rw [h4, List.map_map]; exact z2)
theorem Rps.rdn (I : Inv X pins σ H s) : ∀ {vs : List V} {ds : List D} {us : List Value}, Rps X.K H vs ds → Vals vs us → RdNs s.heap us ds
  | _, _, _, .nil, r => by cases r; exact .nil
  | _, _, _, .cons a t, r => by
    cases r with | cons r1 r2 => exact .cons (a.rdn I r1) (t.rdn I r2)
theorem Rpk.rdn (I : Inv X pins σ H s) : ∀ {kvs : List (Key × V)} {ds : List (D × D)} {vs : List (Key × Value)} {es : List DictEntry}, Rpk X.K H kvs ds → KV kvs vs → Pairs (mixKind X.prog X.w) es vs →
    RdNs s.heap (es.map (·.key)) (ds.map (·.1)) ∧ RdNs s.heap (es.map (·.val)) (ds.map (·.2))
  | _, _, _, _, .nil, r, p => by cases r; cases p; exact ⟨.nil, .nil⟩
  | _, _, _, _, .cons (k := k) a t, r, p => by
    cases r with
    | cons r1 r2 =>
      cases p with
      | cons p1 p2 p3 =>
        obtain ⟨z1, z2⟩ := t.rdn I r2 p3
        refine ⟨.cons ?_ z1, .cons ?_ z2⟩
        · have e := r1.1
          have p1 : keyIs _ _ = true := p1
          rw [← e] at p1
          rcases keyIs_shape p1 with ⟨i, t, e1, e2⟩ | ⟨x, t, e1, e2⟩
          · have e1 : k = Sum.inl i := e1
            rw [e1]; simp only [e2]; exact .int i t
          · have e1 : k = Sum.inr x := e1
            rw [e1]; simp only [e2]; exact .str x t
        · simp only [p2]; exact a.rdn I r1.2
theorem RpT.rdn (I : Inv X pins σ H s) : ∀ {L : TL} {ds : List (D × D)} {xs : TX}, RpT X.K H L ds → PtL L xs →
    RdNs s.heap (xs.map ((·.key) ∘ entryOfKey (tupleKind (mixKind Ctx.P Ctx.w)))) (ds.map (·.1)) ∧ RdNs s.heap (xs.map ((·.val) ∘ entryOfKey (tupleKind (mixKind Ctx.P Ctx.w)))) (ds.map (·.2))
  | _, _, _, .nil, p => by cases p; exact ⟨.nil, .nil⟩
  | _, _, _, .cons (k := k) sq a t, p => by
    cases p with
    | cons e p =>
      obtain ⟨z1, z2⟩ := t.rdn I p
      refine ⟨.cons ?_ z1, .cons (a.rdn I e.2.2) z2⟩
      obtain ⟨its, rv, ⟨o, ho, hc, n, hd⟩, _⟩ := I.tuple sq
      show RdN s.heap (.ref _) _
      rw [← e.2.1]
      refine .tuple ho hc hd ?_
      have key : ∀ (k : List Key) (us : List Value), Vals (k.map kV) us → RdNs s.heap us (k.map kD) := by
        intro k
        induction k with
        | nil => intro us h; cases h; exact .nil
        | cons x k ih =>
          intro us h
          cases h with
          | cons h1 h2 =>
            refine .cons ?_ (ih _ h2)
            cases x with
            | inl i => obtain ⟨t, rfl⟩ := h1; exact .int i t
            | inr x => obtain ⟨t, rfl⟩ := h1; exact .str x t
      exact key k _ (by simpa using rv)
end
end
section
variable {X : Cx}
def reprOk (d : D) : Bool := d.showable && decide (d.depth ≤ 60) && decide (d.shown.length ≤ sizeLine)
def bRepr (d : D) : OV := if reprOk d then .v (.str d.shown) else .no
theorem call_reprD (hg : X.A.guards = some []) (hu : X.A.units + 64 < cLine) : CallD X (.builtin "repr") (f1 bRepr) := by
  refine call1 fun Hi pins s σ H x d us Q I r sub o q => ?_
  unfold bRepr at q
  split at q
  · rename_i h
    unfold reprOk at h
    simp only [Bool.and_eq_true, decide_eq_true_eq] at h
    obtain ⟨u, rfl, ru⟩ := r.one
    refine repr_call ((o.full sub).rdn I ru) h.1.1 h.2 hg (by omega) fun h' t tk k => ?_
    exact ⟨.str d.shown, H, I.kept k, ⟨t, rfl⟩, q.leaf sub (.str _)⟩
  · exact OPost.no q
end
end Wk

/-! Wk7s: max, min, sum over ints. -/
namespace Wk
open PySem PySem.Spec PyProof.Rows L2
variable [Ctx]
section
variable {X : Cx}
def asInts : List D → Option (List Int)
  | [] => some []
  | .int b :: r => (asInts r).map (b :: ·)
  | _ :: _ => none
theorem asInts_of : ∀ {ds : List D} {bs : List Int}, asInts ds = some bs → ds = bs.map .int
  | [], bs, h => by cases h; rfl
  | d :: r, bs, h => by
    cases d with
    | int b =>
      simp only [asInts, Option.map_eq_some_iff] at h
      obtain ⟨cs, h1, rfl⟩ := h
      rw [asInts_of h1]; rfl
    | _ => cases h
theorem asInts_map : ∀ bs : List Int, asInts (bs.map .int) = some bs
  | [] => rfl
  | b :: bs => by simp [asInts, asInts_map bs]
def maxI : List Int → Int
  | [] => 0
  | [x] => x
  | x :: y :: r => if maxI (y :: r) ≤ x then x else maxI (y :: r)
def minI : List Int → Int
  | [] => 0
  | [x] => x
  | x :: y :: r => if x ≤ minI (y :: r) then x else minI (y :: r)
theorem maxI_spec : ∀ {ns : List Int}, 0 < ns.length → maxI ns ∈ ns ∧ ∀ y ∈ ns, y ≤ maxI ns
  | [x], _ => by simp [maxI]
  | x :: y :: r, _ => by
    obtain ⟨h1, h2⟩ := maxI_spec (ns := y :: r) (by simp)
    rw [maxI]
    split
    · rename_i h
      refine ⟨List.mem_cons_self, fun z hz => ?_⟩
      rcases List.mem_cons.mp hz with rfl | hz
      · exact Int.le_refl _
      · exact Int.le_trans (h2 z hz) h
    · rename_i h
      refine ⟨List.mem_cons_of_mem _ h1, fun z hz => ?_⟩
      rcases List.mem_cons.mp hz with rfl | hz
      · omega
      · exact h2 z hz
theorem minI_spec : ∀ {ns : List Int}, 0 < ns.length → minI ns ∈ ns ∧ ∀ y ∈ ns, minI ns ≤ y
  | [x], _ => by simp [minI]
  | x :: y :: r, _ => by
    obtain ⟨h1, h2⟩ := minI_spec (ns := y :: r) (by simp)
    rw [minI]
    split
    · rename_i h
      refine ⟨List.mem_cons_self, fun z hz => ?_⟩
      rcases List.mem_cons.mp hz with rfl | hz
      · exact Int.le_refl _
      · exact Int.le_trans h (h2 z hz)
    · rename_i h
      refine ⟨List.mem_cons_of_mem _ h1, fun z hz => ?_⟩
      rcases List.mem_cons.mp hz with rfl | hz
      · omega
      · exact h2 z hz
def bMax : List D → OV
  | [.int i, .int j] => .v (.int (if j > i then j else i))
  | [.list ds] => (match asInts ds with
    | some ns => if 0 < ns.length then .v (.int (maxI ns)) else .no
    | none => .no)
  | _ => .no
def bMin : List D → OV
  | [.int i, .int j] => .v (.int (if j < i then j else i))
  | [.list ds] => (match asInts ds with
    | some ns => if 0 < ns.length then .v (.int (minI ns)) else .no
    | none => .no)
  | _ => .no
def bSum : D → OV
  | .list ds => (match asInts ds with
    | some ns => .v (.int ns.sum)
    | none => .no)
  | _ => .no
theorem call_maxD (hc : X.calm = true) : CallD X (.builtin "max") bMax := by
  intro Hi pins s σ H xs us Q I r ⟨sub, ds, os, q⟩
  match ds, os, q with
  | [.int i, .int j], os, q =>
    obtain ⟨x, y, rfl, hx, hy⟩ := os.two
    cases hx.int_; cases hy.int_
    exact call_max2 hc pins s σ H _ us Q I r ⟨i, j, rfl, q.leaf sub (.int _)⟩
  | [.list es], os, q =>
    obtain ⟨x, rfl, hx⟩ := os.one
    obtain ⟨a, zs, rfl, ha, rs⟩ := hx.list_ sub
    simp only [bMax] at q
    split at q
    · rename_i ns hns
      split at q
      · rename_i hl
        have e := asInts_of hns
        subst e
        have e2 := rs.ints
        subst e2
        obtain ⟨m1, m2⟩ := maxI_spec hl
        exact cr_max hc pins s σ H _ us Q I r ⟨a, ns, rfl, SqL.of ha, hl, fun m h1 h2 => by
          have : m = maxI ns := Int.le_antisymm (m2 m h1) (h2 _ m1)
          rw [this]; exact q.leaf sub (.int _)⟩
      · exact OPost.no q
    · exact OPost.no q
theorem call_minD (hc : X.calm = true) : CallD X (.builtin "min") bMin := by
  intro Hi pins s σ H xs us Q I r ⟨sub, ds, os, q⟩
  match ds, os, q with
  | [.int i, .int j], os, q =>
    obtain ⟨x, y, rfl, hx, hy⟩ := os.two
    cases hx.int_; cases hy.int_
    exact call_min2 hc pins s σ H _ us Q I r ⟨i, j, rfl, q.leaf sub (.int _)⟩
  | [.list es], os, q =>
    obtain ⟨x, rfl, hx⟩ := os.one
    obtain ⟨a, zs, rfl, ha, rs⟩ := hx.list_ sub
    simp only [bMin] at q
    split at q
    · rename_i ns hns
      split at q
      · rename_i hl
        have e := asInts_of hns
        subst e
        have e2 := rs.ints
        subst e2
        obtain ⟨m1, m2⟩ := minI_spec hl
        exact cr_min hc pins s σ H _ us Q I r ⟨a, ns, rfl, SqL.of ha, hl, fun m h1 h2 => by
          have : m = minI ns := Int.le_antisymm (h2 _ m1) (m2 m h1)
          rw [this]; exact q.leaf sub (.int _)⟩
      · exact OPost.no q
    · exact OPost.no q
theorem call_sumD (hc : X.calm = true) : CallD X (.builtin "sum") (f1 bSum) := by
  refine call1 fun Hi pins s σ H x d us Q I r sub o q => ?_
  cases d with
  | list es =>
    obtain ⟨a, zs, rfl, ha, rs⟩ := o.list_ sub
    simp only [bSum] at q
    split at q
    · rename_i ns hns
      have e := asInts_of hns
      subst e
      have e2 := rs.ints
      subst e2
      exact cr_sum hc pins s σ H _ us Q I r ⟨a, ns, rfl, SqL.of ha, q.leaf sub (.int _)⟩
    · exact OPost.no q
  | _ => exact OPost.no q
end
end Wk

/-! Wk7c: a chain of comparisons as a value. -/
namespace Wk
open PySem PySem.Spec PyProof.Rows L2
variable [Ctx]
section
variable {X : Cx} {a c d : Expr} {pos : Pos} {ma mc md : ME}
def mChain (f g : D → D → OV) (ma mc md : ME) : ME := fun ρ => (ma ρ).bind fun p => (mc p.2).bind fun q => (d2 f p.1 q.1 q.2).bind fun k => (asB k).bind fun k => if k.1 then (md k.2).bind fun w => d2 g q.1 w.1 w.2 else .ret (.val (.bool false), k.2)
theorem snd_chain {op op' : CmpOp} {f g : D → D → OV} (ho : Op2 X (compareOp op) f) (ho' : Op2 X (compareOp op') g) (ha : Snd X a ma) (hc : Snd X c mc) (hd : Snd X d md)
    (hm : lastMarks [op, op'] [c, d] = false) : Snd X (.Compare a [op, op'] [c, d] pos) (mChain f g ma mc md) := fun e b as Hi ρ σ H R S h => by
  refine .of (pe_chain ho.E ho'.E (pe_tE X a) (pe_tE X c) (pe_tE X d) hm) ?_
  refine ha e b as Hi ρ σ H _ S ((T.all_bind.mp h).mono fun b1 p _ h1 v H1 Hi1 as1 x1 S1 r1 => ?_)
  refine hc e b1 as1 Hi1 p.2 σ H1 _ S1 ((T.all_bind.mp h1).mono fun b2 q _ h2 u H2 Hi2 as2 x2 S2 r2 => ?_)
  refine ⟨Hi2, d2_post S2 (r1.mono x2) r2 ((T.all_bind.mp h2).mono fun b3 k _ h3 z H3 Hi3 as3 x3 S3 r3 => ?_)⟩
  have h4 := T.all_bind.mp h3
  unfold asB at h4
  split at h4
  · rename_i kb hk
    refine ⟨kb, (S3.opd r3 hk).bool_, ?_⟩
    cases kb with
    | false => exact h4 (.bl false) H3 Hi3 as3 (x1.trans (x2.trans x3)) S3 (.bl false)
    | true =>
      have h5 : ((md k.2).bind fun w => d2 g q.1 w.1 w.2).All b3 (Post X.K e as Hi σ R) := h4
      refine hd e b3 as3 Hi3 k.2 σ H3 _ S3 ((T.all_bind.mp h5).mono fun b4 w _ h6 y H4 Hi4 as4 x4 S4 r4 => ?_)
      exact ⟨Hi4, d2_post S4 ((r2.mono x3).mono x4) r4 (h6.mono fun _ _ _ z => z.ext (x1.trans (x2.trans (x3.trans x4))))⟩
  · exact h4.elim
end
end Wk

/-! Wk7t: t[::-1] of a tuple. -/
namespace Wk
open PySem PySem.Spec PyProof.Rows L2
variable [Ctx]
section
variable {prog : Program} {w : World} {A : Around} {E : Value → Shared → Prop} {s : Shared}
theorem pick_back (xs : Array Value) : ((List.range xs.size).filterMap fun (m : Nat) => xs[((xs.size : Int) - 1 + (m : Int) * (-1)).toNat]?).toArray = xs.toList.reverse.toArray := by
  congr 1
  have e : (List.range xs.size).filterMap (fun (m : Nat) => xs[((xs.size : Int) - 1 + (m : Int) * (-1)).toNat]?) = ((List.range xs.size).map fun k => xs.size - 1 - k).filterMap (xs[·]?) := by
    rw [List.filterMap_map]
    congr 1
    funext m
    have e2 : ((xs.size : Int) - 1 + (m : Int) * (-1)).toNat = xs.size - 1 - m := by omega
    show xs[_]? = xs[_]?
    rw [e2]
  rw [e, PySem.W.krv_range, List.filterMap_reverse, PySem.W.krv_all]
theorem applied_back {sl : Addr} {vl vu : Value} {t : Tok} {n : Nat} {Q : Int × Int × Nat → Shared → Prop} (hs : s.heap.IsSliceOf sl vl vu (.int (-1) t)) (pl : IsPart vl none) (pu : IsPart vu none)
    (h : Q ((n : Int) - 1, -1, n) s) : wpAny (model prog w) A (Builtin.Slice.sliceApplied (.ref sl) (pure (n : Int))) Q E s := by
  obtain ⟨os, hos, hcs, hds⟩ := id hs
  unfold Builtin.Slice.sliceApplied Builtin.Slice.sliceFields
  refine wpAny_bind (wpAny_bind (wpAny_field hos hds (x := vl) rfl (wpAny_bind (wpAny_field hos hds (x := vu) rfl (wpAny_bind (wpAny_field hos hds (x := .int (-1) t) rfl (wpAny_pure ?_)))))))
  refine wpAny_bind (slicePart_int ?_)
  show wpAny _ _ (if ((-1 : Int) == 0) = true then _ else _) _ _ s
  rw [if_neg (by decide)]
  refine wpAny_bind (HT.slicePart_ pl (wpAny_bind (HT.slicePart_ pu (wpAny_bind (wpAny_pure ?_)))))
  have e1 : Builtin.Slice.sliceAdjust none none (-1) (n : Int) = ((n : Int) - 1, -1) := rfl
  have e2 : Builtin.Slice.slicePlaces ((n : Int) - 1) (-1) (-1) = n := by
    unfold Builtin.Slice.slicePlaces
    rw [if_neg (by decide)]
    split
    · rw [show (- -1 : Int) = 1 by decide, Int.ediv_one]; omega
    · rename_i hz; omega
  show wpAny _ _ (match Builtin.Slice.sliceAdjust none none (-1) (n : Int) with | (lo, hi) => pure (lo, (-1 : Int), Builtin.Slice.slicePlaces lo hi (-1))) _ _ s
  rw [e1]
  show wpAny _ _ (pure ((n : Int) - 1, (-1 : Int), Builtin.Slice.slicePlaces ((n : Int) - 1) (-1) (-1))) _ _ s
  rw [e2]
  exact wpAny_pure h
theorem getItem_back {a sl : Addr} {items : Array Value} {vl vu : Value} {t : Tok} {Q : Value → Shared → Prop} (ht : IsTup s.heap a items) (hs : s.heap.IsSliceOf sl vl vu (.int (-1) t)) (pl : IsPart vl none) (pu : IsPart vu none)
    (h : Q (.ref s.heap.objs.size) { s with heap := s.heap.push { cls := .type "tuple", data := .seq items.toList.reverse.toArray } }) (hsz : items.size ≤ sizeLine) : wpAny (model prog w) A (getItem (.ref a) (.ref sl)) Q E s := by
  have fit : sizeOk (.seq items.toList.reverse.toArray) := by
    show items.toList.reverse.toArray.size ≤ sizeLine
    rw [List.size_toArray, List.length_reverse, Array.length_toList]; exact hsz
  obtain ⟨os, hos, hcs, hds⟩ := id hs
  have isS : s.TypeIs (.ref sl) "slice" := ⟨os, hos, hcs⟩
  unfold getItem
  try with_reducible refine wpAny_holding ?_
  first | refine wpAny_bind (wpAny_pure ?_) | skip
  refine wpAny_bind (wpAny_sequenceKey ht.typeIs (by decide) ?_)
  refine wpAny_bind (wpAny_callSpecial?_slot (name := Str.ofString "__getitem__") ht.typeIs PyProof.Rows.slot_tuple_getitem
    (wpAny_call_entry PyProof.Rows.slot_tuple_getitem ht.typeIs entry_tuple_getitem ?_ (args_tuple_getitem _ _)))
  show wpAny _ _ (Builtin.Tuple.tupleItemsOf (.ref a) >>= _) _ _ s
  refine wpAny_bind (tupleItemsOf_ ht ?_)
  refine wpAny_bind (wpAny_typeOf isS ?_)
  rw [if_pos (by decide)]
  refine wpAny_bind (applied_back hs pl pu ?_)
  have no : ¬ ((((items.size : Int) - 1 == 0) && (-1 : Int) == 1 && items.size == items.size) = true) := by
    intro q
    rw [Bool.and_eq_true, Bool.and_eq_true] at q
    exact absurd q.1.2 (by decide)
  show wpAny _ _ (if (((items.size : Int) - 1 == 0) && (-1 : Int) == 1 && items.size == items.size) = true then _ else _) _ _ s
  rw [if_neg no, pick_back]
  first
    | exact wpAny_bind (m := Builtin.Tuple.tupleExact _) (wpAny_newObj_type (wpAny_pure ⟨_, rfl, wpAny_pure h⟩) fit)
    | exact wpAny_bind (m := Builtin.Tuple.tupleExact _) (wpAny_newObj_type (wpAny_bind (wpAny_pure (wpAny_pure ⟨_, rfl, wpAny_pure h⟩))) fit)
    | exact wpAny_bind (wpAny_bind (m := Builtin.Tuple.tupleExact _) (wpAny_newObj_type (wpAny_pure (wpAny_pure ⟨_, rfl, wpAny_pure h⟩)) fit))
    | exact wpAny_bind (wpAny_bind (m := Builtin.Tuple.tupleExact _) (wpAny_newObj_type (wpAny_pure ⟨_, rfl, wpAny_pure h⟩) fit))
end
section
variable {X : Cx}
/-- e[::-1], of a list or a tuple -/
theorem ev_rev {e : Expr} {k : Nat} {p1 p2 p3 pos : Pos} {σ : L2.St} {H : Hp} {Q : VK}
    (he : EvOk X e σ H fun x H1 => ∃ a xs, x = .ref a ∧ ((SqL X.K H1 a xs ∧ ∀ p, H1 p = none → Q (.ref p) (upd H1 p (.lst xs.reverse))) ∨ (SqT X.K H1 a xs ∧ ∀ p, H1 p = none → Q (.ref p) (upd H1 p (.tup xs.reverse))))) :
    EvOk X (.Subscript e (.Slice none none (some (.UnaryOp .USub (.Constant (.int 1) k p1) p2)) p3) pos) σ H Q := by
  intro pins s I
  refine Subscript_ (thn (he pins s I) fun v s1 ⟨x, H1, I1, r1, a, xs, ex, both⟩ => ?_)
  subst ex
  cases r1
  have back : PO X (some (.UnaryOp .USub (.Constant (.int 1) k p1) p2)) (tPart (tUn (rU fun i => .int (-i)) (tC (.int 1)))) := po_some (pe_un un_neg pe_int)
  refine wpAny_Slice (thn (po_none.run pins s1 σ H1 (fun o H2 => o = none ∧ H2 = H1) I1 ⟨rfl, rfl⟩) ?_)
  rintro vl s2 ⟨l, H2, I2, pl, el, e2⟩
  subst el e2
  refine thn (po_none.run pins s2 σ H2 (fun o H3 => o = none ∧ H3 = H2) I2 ⟨rfl, rfl⟩) ?_
  rintro vu s3 ⟨u, H3, I3, pu, eu, e3⟩
  subst eu e3
  refine thn (back.run pins s3 σ H3 (fun o H4 => o = some (-1) ∧ H4 = H3) I3 ⟨1, rfl, -1, rfl, rfl, rfl⟩) ?_
  rintro vs s4 ⟨o, H4, I4, ps, eo, e4⟩
  subst eo e4
  have I5 : Inv X pins σ H4 { s4 with heap := s4.heap.push { cls := .type "slice", data := .fields #[vl, vu, vs] } } := I4.kept (t' := s4.toks) fun b ob q => Heap.get?_push_of_some _ q
  show wpAny (model X.prog X.w) X.A (subscriptTail e (.Slice none none (some (.UnaryOp .USub (.Constant (.int 1) k p1) p2)) p3) (.ref a) (.ref s4.heap.objs.size)) (EP X pins σ Q) X.xe
    { s4 with heap := s4.heap.push { cls := .type "slice", data := .fields #[vl, vu, vs] } }
  rcases both with ⟨hx, q⟩ | ⟨hx, q⟩
  · obtain ⟨its, r, ht, hz⟩ := I5.list hx
    have hlen := r.length
    refine tail_any (ops := [.ref a, .ref s4.heap.objs.size]) ht.isList.typeIs (PySem.slot_list_getitem.lookup) ?_ (by with_unfolding_all rfl)
    refine wpAny_getItem_list_slice ht.isList (Heap.IsSliceOf.new _ vl vu vs) pl pu ps (by decide) ?_ (by rw [List.size_toArray]; omega)
    rw [PySem.W.krv_pick]
    have I6 := I5.laid (t' := s4.toks) (o := .lst xs.reverse) (h' := (s4.heap.push { cls := .type "slice", data := .fields #[vl, vu, vs] }).push { cls := .type "list", data := .seq its.toArray.toList.reverse.toArray }) (fun b ob z => Heap.get?_push_of_some _ z) (Nat.le_refl _)
      ⟨by rw [List.length_reverse]; exact hz, _, 0, r.reverse, Heap.get?_push_size _ rfl⟩
    exact ⟨.ref _, _, I6, rfl, q _ (I5.hok.fresh (Nat.le_refl _))⟩
  · obtain ⟨its, r, ht, hz⟩ := I5.tuple hx
    have hlen := r.length
    obtain ⟨t, rfl⟩ : ∃ t, vs = .int (-1) t := by cases ps; exact ⟨_, rfl⟩
    refine tail_any (ops := [.ref a, .ref s4.heap.objs.size]) ht.typeIs (PyProof.Rows.slot_tuple_getitem.lookup) ?_ (by with_unfolding_all rfl)
    refine getItem_back ht (Heap.IsSliceOf.new _ vl vu _) pl pu ?_ (by rw [List.size_toArray]; omega)
    have I6 := I5.laid (t' := s4.toks) (o := .tup xs.reverse) (h' := (s4.heap.push { cls := .type "slice", data := .fields #[vl, vu, .int (-1) t] }).push { cls := .type "tuple", data := .seq its.toArray.toList.reverse.toArray }) (fun b ob z => Heap.get?_push_of_some _ z) (Nat.le_refl _)
      ⟨by rw [List.length_reverse]; exact hz, _, r.reverse, _, Heap.get?_push_size _ rfl, rfl, _, rfl⟩
    exact ⟨.ref _, _, I6, rfl, q _ (I5.hok.fresh (Nat.le_refl _))⟩
end
end Wk

/-! Wk7u: sorted, over texts, ints, tuples of texts; dict(d). -/
namespace Wk
open PySem PySem.Spec PyProof.Rows L2
variable [Ctx]
section
variable {X : Cx}
def isRowD : D → Bool
  | .tuple (_ :: _) => true
  | _ => false
def isPlD : D → Bool
  | .none => false
  | .tuple _ => false
  | _ => true
/-- what can be sorted -/
def sOk (ds : List D) : Bool := (ds.all fun a => ds.all fun b => PySem.W.alike a b) && (ds.all isRowD || ds.all isPlD) && ds.all fun d => decide (d.depth ≤ 20)
def leD (a b : D) : Bool := !PySem.W.dataLt b a
theorem sOk_facts {ds : List D} (h : sOk ds = true) : PySem.W.AllAlike ds ∧ PySem.W.Sortable ds ∧ ∀ d ∈ ds, d.depth ≤ 20 := by
  unfold sOk at h
  simp only [Bool.and_eq_true, Bool.or_eq_true] at h
  obtain ⟨⟨h1, h2⟩, h3⟩ := h
  refine ⟨fun d hd d' hd' => List.all_eq_true.mp (List.all_eq_true.mp h1 d hd) d' hd', ?_, fun d hd => of_decide_eq_true (List.all_eq_true.mp h3 d hd)⟩
  rcases h2 with h | h
  · refine .inl fun d hd => ?_
    have := List.all_eq_true.mp h d hd
    cases d with
    | tuple xs =>
      cases xs with
      | nil => cases this
      | cons x r => exact ⟨x, r, rfl⟩
    | _ => cases this
  · refine .inr fun d hd => ?_
    have := List.all_eq_true.mp h d hd
    cases d with
    | none => cases this
    | tuple _ => cases this
    | _ => exact ⟨nofun, nofun⟩
abbrev RZ (K : PySem.W.Frag) (Hi : Hp) (v : Value) (b : V × D) : Prop := RelV b.1 v ∧ Rp K Hi b.1 b.2
theorem rz_of {K : PySem.W.Frag} {Hi : Hp} : ∀ {xs : List V} {vs : List Value} {ds : List D}, Vals xs vs → Rps K Hi xs ds → PySem.W.EachIs (RZ K Hi) vs (xs.zip ds)
  | _, _, _, .nil, .nil => .nil
  | _, _, _, .cons a b, .cons c d => .cons ⟨a, c⟩ (rz_of b d)
theorem rz_back {K : PySem.W.Frag} {Hi : Hp} : ∀ {vs : List Value} {bs : List (V × D)}, PySem.W.EachIs (RZ K Hi) vs bs → Vals (bs.map Prod.fst) vs ∧ Rps K Hi (bs.map Prod.fst) (bs.map Prod.snd)
  | _, _, .nil => ⟨.nil, .nil⟩
  | _, _, .cons h r => ⟨.cons h.1 (rz_back r).1, .cons h.2 (rz_back r).2⟩
theorem zip_snd : ∀ {xs : List V} {ds : List D}, xs.length = ds.length → (xs.zip ds).map Prod.snd = ds
  | [], [], _ => rfl
  | x :: xs, d :: ds, h => by rw [List.zip_cons_cons, List.map_cons, zip_snd (by simpa using h)]
  | [], _ :: _, h => by simp at h
  | _ :: _, [], h => by simp at h
theorem sorted_core {pins : List (Addr × Obj)} {σ : L2.St} {Hi H : Hp} {s : Shared} (I : Inv X pins σ H s) {a : Addr} {xs : List V} {vs : List Value} {ds : List D} {Q : VK} (rv : Vals xs vs) (sub : Same Hi H) (rs : Rps X.K Hi xs ds) (ok : sOk ds = true)
    (hz : vs.length ≤ sizeLine) (hu : X.A.units + 65 < cLine)
    (hcol : ∀ (E : Value → Shared → Prop) (R : List Value → Shared → Prop), (∀ h' tk, (∀ b o, s.heap.get? b = some o → h'.get? b = some o) → R vs { s with heap := h', toks := tk }) → wpAny (model X.prog X.w) X.A.in1 (collect (.ref a)) R E s)
    (q : ∀ zs p, H p = none → Rps X.K Hi zs (ds.mergeSort leD) → Q (.ref p) (upd H p (.lst zs))) :
    wpAny (model X.prog X.w) X.A (call (.builtin "sorted") [.ref a]) (EP X pins σ Q) X.xe s := by
  obtain ⟨hal, hso, hdp⟩ := sOk_facts ok
  have hlen : xs.length = ds.length := rs.length
  have hbs : (xs.zip ds).map Prod.snd = ds := zip_snd hlen
  refine Calls.call_function_entry PyProof.Rows.kind_sorted PyProof.Rows.plain_sorted PyProof.Rows.entry_sorted (PyProof.Rows.args_sorted1 _) ?_
  unfold Builtin.«sorted»
  refine wpAny_bind (m := checkCount "sorted" 1 1 _) (wpAny_pure ?_)
  refine wpAny_bind (hcol _ _ fun h' tk hk => ?_)
  have I1 : Inv X pins σ H { s with heap := h', toks := tk } := I.kept hk
  refine wpAny_bind (wpAny_newList ?_ hz)
  have hoL : (h'.push (seqObj "list" vs.toArray 0)).get? h'.objs.size = some (seqObj "list" vs.toArray 0) := Heap.get?_push_size _ rfl
  show wpAny _ _ _ _ _ { s with heap := h'.push (seqObj "list" vs.toArray 0), toks := tk }
  have old : ∀ b o, h'.get? b = some o → (PySem.W.sortingHeap (h'.push (seqObj "list" vs.toArray 0)) h'.objs.size vs).get? b = some o := fun b o e =>
    PySem.W.sortingHeap_old (Nat.ne_of_lt (Heap.lt_size e)) (Heap.get?_push_of_some _ e)
  have e0 := rz_of rv rs
  have er : PySem.W.EachIs (fun v (b : V × D) => ∃ as, Reads (PySem.W.sortingHeap (h'.push (seqObj "list" vs.toArray 0)) h'.objs.size vs) v b.2 as) vs (xs.zip ds) := e0.mono fun v b ⟨r1, r2⟩ => by
    obtain ⟨as, rd⟩ := ((r2.mono sub).rdn I1 r1).reads
    exact ⟨as, PyProof.Rows.Reads.keeps old rd⟩
  have hal' : PySem.W.AllAlike ((xs.zip ds).map Prod.snd) := by rw [hbs]; exact hal
  have hso' : PySem.W.Sortable ((xs.zip ds).map Prod.snd) := by rw [hbs]; exact hso
  have S := PySem.W.SortsAt.data (prog := X.prog) (w := X.w) (A := X.A.in1.in1) (s := { s with heap := PySem.W.sortingHeap (h'.push (seqObj "list" vs.toArray 0)) h'.objs.size vs, toks := tk })
    (PySem.W.each_map (R := fun v d => ∃ as, Reads (PySem.W.sortingHeap (h'.push (seqObj "list" vs.toArray 0)) h'.objs.size vs) v d as) Prod.snd er) hal' hso' (fun d hd => by
      have h1 := hdp d (by rw [← hbs]; exact hd)
      have h2 : X.A.in1.in1.units ≤ X.A.units + 2 := by show X.A.units + 1 + 1 ≤ _; omega
      omega)
  have out := PySem.W.sortVals_data false e0 er hal'
  refine wpAny_bind (wpAny_holding (wpAny_call_entry PyProof.Rows.slot_list_sort ⟨_, hoL, rfl⟩ PyProof.Rows.entry_list_sort
    (PySem.W.list_sort_vals (s := { s with heap := h'.push (seqObj "list" vs.toArray 0), toks := tk }) hoL S hz ⟨_, rfl, ?_⟩)
    (PyProof.Rows.args_list_sort _)))
  generalize hout : PySem.W.sortVals (PySem.W.dataKind (PySem.W.sortingHeap (h'.push (seqObj "list" vs.toArray 0)) h'.objs.size vs) ((xs.zip ds).map Prod.snd)) false vs vs = ov at out
  obtain ⟨e', he'⟩ := PyProof.Rows.sortedHeap_at (vs := vs) (out := ov.toArray) hoL
  obtain ⟨z1, z2⟩ := rz_back out
  have em : ((xs.zip ds).mergeSort (PySem.W.dataLe false Prod.snd)).map Prod.snd = ds.mergeSort leD := by
    have := List.map_mergeSort (r := PySem.W.dataLe false (Prod.snd : V × D → D)) (s := leD) (f := Prod.snd) (l := xs.zip ds) (fun _ _ _ _ => rfl)
    rw [this, hbs]
  rw [em] at z2
  have hl2 : (((xs.zip ds).mergeSort (PySem.W.dataLe false Prod.snd)).map Prod.fst).length ≤ sizeLine := by
    rw [List.length_map, List.length_mergeSort, List.length_zip, hlen, Nat.min_self, ← hlen, rv.length]; exact hz
  refine wpAny_pure ⟨_, rfl, .ref h'.objs.size, upd H h'.objs.size (.lst _), I1.laid (t' := tk) (fun b u e => ?_) (Nat.le_refl _)
    (show ObjOk X.prog X.w _ _ _ (.lst (((xs.zip ds).mergeSort (PySem.W.dataLe false Prod.snd)).map Prod.fst)) from ⟨hl2, ov, e', z1, he'⟩), rfl, q _ _ (I1.hok.fresh (Nat.le_refl _)) z2⟩
  have hb : b < h'.objs.size := Heap.lt_size e
  rw [PyProof.Rows.sortedHeap_old (Nat.ne_of_lt hb) (by rw [size_push']; exact Nat.lt_succ_of_lt hb)]
  exact Heap.get?_push_of_some _ e
theorem keys_rel {P : Program} {w : World} {kvs : List (Key × Value)} : ∀ {us : List Value}, us.length = kvs.length → (∀ (j : Nat) (v : Value), us[j]? = some v → ∃ (k : Key) (x : Value), kvs[j]? = some (k, x) ∧ keyIs k v = true) → Vals (kvs.map fun p => kV p.1) us := fun {us} hl h => keys_at hl h
def bSorted : D → OV
  | .list ds => if sOk ds then .f (.list (ds.mergeSort leD)) else .no
  | .tuple ds => if sOk ds then .f (.list (ds.mergeSort leD)) else .no
  | .dict es => if sOk (es.map (·.1)) then .f (.list ((es.map (·.1)).mergeSort leD)) else .no
  | _ => .no
theorem call_sortedAll (hx : Hx X) (hc : X.calm = true) (hu : X.A.units + 65 < cLine) : CallD X (.builtin "sorted") (f1 bSorted) := by
  refine call1 fun Hi pins s σ H x d us Q I r sub o q => ?_
  cases d with
  | list ds =>
    obtain ⟨a, xs, rfl, hx, rs⟩ := o.list_ sub
    simp only [bSorted] at q
    split at q
    · rename_i ok
      obtain ⟨its, rv, hl, hz⟩ := I.list (SqL.of hx)
      rw [Vals.ref1 r]
      obtain ⟨ob, ho, hcl, n, hd⟩ := id hl.isList
      refine sorted_core I rv sub rs ok (by rw [← rv.length]; exact hz) hu (fun E R h => ?_) fun zs p hp rz => q.newL sub hp rz
      refine wpAny_collect_seq a (.inl rfl) ho hcl hd (fun h' hk => ?_) (by rw [List.size_toArray, ← rv.length]; exact hz)
      exact h h' s.toks hk
    · exact OPost.no q
  | tuple ds =>
    obtain ⟨a, xs, rfl, hx, rs, _⟩ := o.tuple_ sub
    simp only [bSorted] at q
    split at q
    · rename_i ok
      obtain ⟨its, rv, ⟨ob, ho, hcl, n, hd⟩, hz⟩ := I.tuple hx
      rw [Vals.ref1 r]
      refine sorted_core I rv sub rs ok (by rw [← rv.length]; exact hz) hu (fun E R h => ?_) fun zs p hp rz => q.newL sub hp rz
      refine wpAny_collect_seq a (.inr rfl) ho hcl hd (fun h' hk => ?_) (by rw [List.size_toArray, ← rv.length]; exact hz)
      exact h h' s.toks hk
    · exact OPost.no q
  | dict es =>
    by_cases hm : unm es = true
    case neg =>
      simp only [bSorted] at q
      split at q
      · rename_i ok
        obtain ⟨a, L, xs, rfl, rt, pt, dd, hs, hz⟩ := dt_in hx I sub (tkm_of hm) o
        obtain ⟨z1, z2⟩ := dt_keys pt rt
        obtain ⟨ob, er, ep, ho, hex, hd, he, _, _⟩ := dd
        rw [Vals.ref1 r]
        have l1 : er.size = xs.length := size_of_entries he
        have l2 := dt_len pt
        refine sorted_core I z1 sub z2 ok (by rw [List.length_map]; omega) hu (fun E R h => ?_) fun zs p hp rz => q.newL sub hp rz
        refine PySem.W.kdu_collect (A := X.A.in1) (kdl_raw hs hex hd) (I.ok.hd hc) ho (by omega) fun h' tk acc hk it => ?_
        have ea : acc.toList = xs.map fun x => Value.ref x.2.1 := by
          apply List.ext_getElem?
          intro j
          rw [List.getElem?_map]
          cases hj : acc.toList[j]? with
          | none =>
            have h1 := List.getElem?_eq_none_iff.mp hj
            rw [Array.length_toList, it.1] at h1
            rw [List.getElem?_eq_none (by omega)]; rfl
          | some v =>
            obtain ⟨en, hen, hv⟩ := it.2 j v (by rw [← Array.getElem?_toList]; exact hj)
            have qe := entry_at he j
            rw [hen] at qe
            obtain ⟨b, hb, eb⟩ := Option.map_eq_some_iff.mp qe.symm
            rw [hb, hv, ← eb]; rfl
        rw [ea]
        exact h h' tk hk
      · exact OPost.no q
    obtain ⟨a, kvs, rfl, hx, rs⟩ := o.dict_ sub hm
    simp only [bSorted] at q
    split at q
    · rename_i ok
      obtain ⟨z, lo, vs, rk, hd⟩ := (show ObjOk X.prog X.w H s.heap a (.dK kvs) from Rd.ok hx I.hok)
      obtain ⟨ep, hat⟩ := hd.dictAt
      have hl : kvs.length = vs.length := Paired.length rk
      have ek : (kvs.map fun kv => kV kv.1) = vs.map fun p => kV p.1 := by
        have e := congrArg (List.map kV) rk.keys
        rw [List.map_map, List.map_map] at e
        exact e
      rw [Vals.ref1 r]
      -- the keys' values are the entries' own
      obtain ⟨_, _, vs2, kv2, od, es2, ep2, ho2, ex2, hd2, _, pr, _⟩ := dk_rd I.hok hx
      have rv : Vals (kvs.map fun kv => kV kv.1) (es2.toList.map (·.key)) := by
        clear hat hd
        have : ∀ {l1 : List (Key × V)} {l2 : List (Key × Value)} {l3 : List DictEntry}, KV l1 l2 → Pairs (mixKind X.prog X.w) l3 l2 → Vals (l1.map fun kv => kV kv.1) (l3.map (·.key)) := by
          intro l1 l2 l3 h1
          induction h1 generalizing l3 with
          | nil => intro h2; cases h2; exact .nil
          | cons a b ih =>
            intro h2
            cases h2 with
            | cons p1 p2 p3 =>
              refine .cons ?_ (ih p3)
              have a1 := a.1
              show RelV (kV (Prod.fst _)) _
              rw [a1]
              exact keyIs_rel p1
        exact this kv2 pr
      refine sorted_core I rv sub rs.keys ok ?_ hu (fun E R h => ?_) fun zs p hp rz => q.newL sub hp rz
      · rw [← rv.length, List.length_map]; exact z
      · refine PySem.W.kdu_collect (A := X.A.in1) (kdl_raw lo ex2 hd2) (I.ok.hd hc) ho2 (by rw [← Array.length_toList, ← List.length_map (f := DictEntry.key), ← rv.length, List.length_map]; exact z) fun h' tk acc hk hacc => ?_
        have e : acc.toList = es2.toList.map (·.key) := by
          apply List.ext_getElem?
          intro j
          rw [List.getElem?_map]
          cases hj : acc.toList[j]? with
          | none =>
            have h1 := List.getElem?_eq_none_iff.mp hj
            rw [Array.length_toList, hacc.1] at h1
            rw [List.getElem?_eq_none (by rw [Array.length_toList]; exact h1)]; rfl
          | some v =>
            obtain ⟨en, hen, hv⟩ := hacc.2 j v (by rw [← Array.getElem?_toList]; exact hj)
            rw [Array.getElem?_toList, hen, hv]; rfl
        rw [e]
        exact h h' tk hk
    · exact OPost.no q
  | _ => exact OPost.no q
/-- dict(d) -/
def bDict : D → OV
  | .dict es => if unm es then .f (.dict es) else .no
  | _ => .no
theorem call_dictAll : CallD X (.type "dict") (f1 bDict) := by
  refine call1 fun Hi pins s σ H x d us Q I r sub o q => ?_
  cases d with
  | dict es =>
    simp only [bDict] at q
    split at q
    case isFalse => exact OPost.no q
    rename_i hm
    obtain ⟨a, kvs, rfl, hx, rs⟩ := o.dict_ sub hm
    exact call_dictD pins s σ H _ us Q I r ⟨a, kvs, rfl, hx, fun p hp => q _ _ _ _ (Gr.refl sub) hp (.dik upd_same rs)⟩
  | _ => exact OPost.no q
end
end Wk

/-! Wk7v: sets whose items are tuples of ints and texts: the table's walk, adding, set(xs). -/
namespace Wk
open PySem PySem.Spec PyProof.Rows L2
abbrev tkAt (P : Program) (w : World) (h : Heap) (k : List Key) (b : Addr) : Prop := IsTupleKey (mixKind P w) h k b
abbrev tkH (P : Program) (w : World) (k : List Key) : Int := tupleKeyHash (mixKind P w) k
/-- the c-th place of a hash's walk -/
abbrev wk (m : Nat) (h : Int) (c : Nat) : SetTable.Probe := nth m (runAt m (SetTable.bits h % (m + 1)) (SetTable.bits h)) c
section
variable {P : Program} {w : World} {A : Around} {E : Value → Shared → Prop} {s : Shared}
/-! ### items that are ints and texts -/
theorem scal_cls {k : Key} {v : Value} (h : keyIs k v = true) (n : Nat) : ofAClassStatement n v = pure false ∧ ∃ b, hashByValue n v = pure b := by
  rcases keyIs_shape h with ⟨i, t, _, rfl⟩ | ⟨x, t, _, rfl⟩
  · refine ⟨?_, true, ?_⟩ <;> cases n <;> rfl
  · refine ⟨?_, false, ?_⟩ <;> cases n <;> rfl
theorem scal_all : ∀ {k : List Key} {vs : List Value}, ItemsAre (mixKind P w) k vs → ∀ v ∈ vs, ∃ q, keyIs q v = true
  | _, _, .nil => nofun
  | _, _, .cons h r => fun v hv => by
    cases hv with
    | head => exact ⟨_, h⟩
    | tail _ m => exact scal_all r v m
theorem tk_cls {k : List Key} {b : Addr} {Q : Bool → Shared → Prop} (x : tkAt P w s.heap k b) (q : Q false s) : wpAny (model P w) A (ofAClassStatement 8 (.ref b)) Q E s := by
  have ty := x.typeIs
  obtain ⟨o, items, n, ho, _, hd, hi⟩ := x
  have all := scal_all hi
  unfold ofAClassStatement
  refine wpAny_bind (wpAny_typeOf ty ?_)
  dsimp only
  simp only [show (("tuple" : String) == "tuple") = true by decide, if_true]
  try refine wpAny_bind (wpAny_pure ?_)
  simp only [Bool.not_true, Bool.false_eq_true, if_false]
  try refine wpAny_bind (wpAny_pure ?_)
  refine wpAny_bind (wpAny_seqItems ho hd ?_)
  dsimp only
  refine wpAny_bind ?_
  rw [← Array.forIn_toList]
  refine wpAny_forIn_list _ (fun l r s' => r.1 = none ∧ s' = s ∧ ∀ v ∈ l, ∃ q, keyIs q v = true) _ (fun v l r s' hyp => ?_) (fun r s' hyp => ?_) _ _ ⟨rfl, rfl, all⟩
  · obtain ⟨_, rfl, h2⟩ := hyp
    obtain ⟨q, hq⟩ := h2 v (.head _)
    rw [(scal_cls hq _).1]
    refine wpAny_bind (wpAny_pure ?_)
    simp only [Bool.false_eq_true, if_false]
    exact wpAny_pure ⟨rfl, rfl, fun u hu => h2 u (.tail _ hu)⟩
  · obtain ⟨r1, r2⟩ := r
    obtain ⟨h1, rfl, _⟩ := hyp
    cases h1
    exact wpAny_pure q
theorem tk_byval {k : List Key} {b : Addr} {Q : Bool → Shared → Prop} (x : tkAt P w s.heap k b) (q : ∀ r, Q r s) : wpAny (model P w) A (hashByValue 8 (.ref b)) Q E s := by
  have ty := x.typeIs
  obtain ⟨o, items, n, ho, _, hd, hi⟩ := x
  have all := scal_all hi
  unfold hashByValue
  refine wpAny_bind (wpAny_specialOf ty F.slot_tuple_hash.lookup ?_)
  dsimp only
  refine wpAny_bind (wpAny_seqItems ho hd ?_)
  refine wpAny_bind ?_
  show wpAny _ _ (forIn items _ _) _ _ s
  rw [← Array.forIn_toList]
  refine wpAny_forIn_list _ (fun l r s' => (r.1 = none → ∀ v ∈ l, ∃ q, keyIs q v = true) ∧ s' = s ∧ (l ≠ [] → r.1 = none)) _ (fun v l r s' hyp => ?_) (fun r s' hyp => ?_) _ _ ⟨fun _ => all, rfl, fun _ => rfl⟩
  · obtain ⟨h1, rfl, h2⟩ := hyp
    have h2 := h2 nofun
    obtain ⟨k', hk⟩ := h1 h2 v (.head _)
    obtain ⟨c, hc⟩ := (scal_cls hk 7).2
    rw [hc]
    refine wpAny_bind (wpAny_pure ?_)
    cases c with
    | true =>
      simp only [Bool.not_true, Bool.false_eq_true, if_false]
      exact wpAny_pure ⟨fun _ u hu => h1 h2 u (.tail _ hu), rfl, fun _ => rfl⟩
    | false =>
      simp only [Bool.not_false, if_true]
      exact wpAny_pure (wpAny_pure (q _))
  · obtain ⟨r1, r2⟩ := r
    obtain ⟨_, rfl, _⟩ := hyp
    cases r1 <;> exact wpAny_pure (q _)
end
section
variable {P : Program} {w : World} {A : Around} {E : Value → Shared → Prop} {s : Shared}
/-- a search among tuples shows nothing -/
theorem tk_unseen {k : List Key} {b : Addr} {ys : List Value} {Q : Bool → Shared → Prop} (x : tkAt P w s.heap k b) (all : ∀ y ∈ ys, ∃ k' c, y = Value.ref c ∧ tkAt P w s.heap k' c) (q : Q false s) :
    wpAny (model P w) A (searchCouldBeSeen (.ref b) ys) Q E s := by
  unfold searchCouldBeSeen
  refine wpAny_bind ?_
  refine wpAny_forIn_list _ (fun l r s' => r.1 = none ∧ s' = s ∧ ∀ y ∈ l, ∃ k' c, y = Value.ref c ∧ tkAt P w s.heap k' c) _ (fun v l r s' hyp => ?_) (fun r s' hyp => ?_) _ _ ⟨rfl, rfl, all⟩
  · obtain ⟨_, rfl, h2⟩ := hyp
    obtain ⟨k', c, rfl, hc⟩ := h2 v (.head _)
    have go : wpAny (model P w) A (pure (ForInStep.yield (none, PUnit.unit)) : Sem (ForInStep (Option Bool × PUnit))) (fun r s'' => match r with
        | .yield b' => b'.1 = none ∧ s'' = s' ∧ ∀ y ∈ l, ∃ k' c, y = Value.ref c ∧ tkAt P w s'.heap k' c
        | .done b' => True) E s' := wpAny_pure ⟨rfl, rfl, fun u hu => h2 u (.tail _ hu)⟩
    dsimp only
    by_cases hv : (b == c || (carriedByValue (.ref b) && carriedByValue (.ref c))) = true
    · exact wp_if_pos hv (wpAny_pure ⟨rfl, rfl, fun u hu => h2 u (.tail _ hu)⟩)
    · refine wp_if_neg hv (wpAny_bind (wpAny_eqIsQuiet_tuple x ?_))
      simp only [Bool.not_true, Bool.false_eq_true, if_false]
      refine wpAny_bind (wpAny_eqIsQuiet_tuple hc ?_)
      simp only [Bool.not_true, Bool.false_eq_true, if_false]
      refine wpAny_bind (tk_cls x ?_)
      simp only [Bool.false_eq_true, if_false]
      refine wpAny_bind (tk_cls hc ?_)
      simp only [Bool.false_eq_true, if_false]
      exact wpAny_pure ⟨rfl, rfl, fun u hu => h2 u (.tail _ hu)⟩
  · obtain ⟨r1, r2⟩ := r
    obtain ⟨h1, rfl, _⟩ := hyp
    cases h1
    exact wpAny_pure q
/-! ### the set -/
abbrev MS2 := List (List Key × Addr)
abbrev rowT (P : Program) (w : World) (p : List Key × Addr) : Int × Value := (tkH P w p.1, .ref p.2)
/-- a set of tuples, the tuples left aside -/
structure TSet0 (P : Program) (w : World) (h : Heap) (a : Addr) (M : MS2) (es : Array (Int × Value)) (ep : Nat) (t : SetTable) : Prop where
  obj : ∃ o, h.get? a = some o ∧ o.ExactSet ∧ o.data = .set es ep t
  ent : es.toList = M.map (rowT P w)
  tab : TabOk t (M.map fun p => tkH P w p.1)
  keys : (M.map fun p => p.1).Nodup
  led : w.params.followText "set-order" = true ∨ t.led = true
  room : M.length * 5 < t.mask * 3
  few : M.length < 64
abbrev TupsAt (P : Program) (w : World) (h : Heap) (M : MS2) : Prop := ∀ p ∈ M, tkAt P w h p.1 p.2
variable {a : Addr} {M : MS2} {es : Array (Int × Value)} {ep : Nat} {t : SetTable}
theorem ent_len (h : es.toList = M.map (rowT P w)) : es.size = M.length := by
  rw [← Array.length_toList, h, List.length_map]
theorem TSet0.fits (R : TSet0 P w s.heap a M es ep t) : t.fits es.size = true := by
  have z := R.tab.sz
  have y := ent_len R.ent
  have r := R.room
  rw [List.length_map] at z
  simp only [SetTable.fits, SetTable.fill, R.tab.dm, Bool.and_eq_true, beq_iff_eq, decide_eq_true_eq]
  refine ⟨by omega, ?_⟩
  show t.place.size + 0 ≤ t.mask
  omega
theorem TSet0.at_ (R : TSet0 P w s.heap a M es ep t) {i : Nat} {p : List Key × Addr} (h : M[i]? = some p) : es[i]? = some (rowT P w p) := by
  rw [← Array.getElem?_toList, R.ent, List.getElem?_map, h]; rfl
theorem TSet0.owner (R : TSet0 P w s.heap a M es ep t) {i j : Nat} (h : t.place.toList[i]? = some j) : ∃ p, M[i]? = some p := by
  have z := R.tab.sz
  rw [List.length_map] at z
  have l : i < t.place.toList.length := (List.getElem?_eq_some_iff.mp h).1
  rw [Array.length_toList, z] at l
  exact ⟨_, List.getElem?_eq_getElem l⟩
theorem nodummy (m : Nat) : ∀ (n : Nat) (p : SetTable.Probe), p.dummy = none → (nth m p n).dummy = none
  | 0, _, h => h
  | n + 1, p, h => nodummy m n (adv m p) (by unfold adv; split <;> exact h)
/-- one candidate is asked -/
theorem cand_ask (R : TSet0 P w s.heap a M es ep t) (T : TupsAt P w s.heap M) {x : Addr} {k : List Key} (hx : tkAt P w s.heap k x) (hu : A.units < cLine) {j i f : Nat} {nx : SetTable.Probe} {p : List Key × Addr}
    (hi : t.place.toList[i]? = some j) (hp : M[i]? = some p) {Q : SetFound → Shared → Prop} (yes : p.1 = k → Q (.there none) s)
    (no : p.1 ≠ k → wpAny (model P w) A (setSearchFrom a (.ref x) (tkH P w k) true f (some nx)) Q E s) : wpAny (model P w) A (searchRest a (.ref x) (tkH P w k) true f es t j i nx) Q E s := by
  obtain ⟨o, ho, _, hd⟩ := R.obj
  unfold searchRest
  rw [R.at_ hp]
  dsimp only
  refine wpAny_bind (wpAny_holding (wpAny_eqBool_tuple hu (T p (List.mem_of_getElem? hp)) hx (wpAny_bind (wpAny_setState_of ho hd R.fits ?_))))
  dsimp only
  by_cases c : p.1 = k
  · exact wp_if_pos (by simp [c]) (wpAny_pure (yes c))
  · refine wp_if_neg (by simp [c]) ?_
    try refine wpAny_bind (wpAny_pure ?_)
    rw [sameMem]
    have live : t.slot j = .live i := slot_live R.tab.ris hi
    simp only [if_true, live, R.at_ hp]
    refine wpAny_bind (wpAny_isSame_ref_self (wpAny_bind (wpAny_pure ?_)))
    simp only [if_true]
    exact wp_if_neg (by simp [c]) (no c)
/-- the walk from its c-th place on -/
theorem walk_on (R : TSet0 P w s.heap a M es ep t) (T : TupsAt P w s.heap M) {x : Addr} {k : List Key} (hx : tkAt P w s.heap k x) (hu : A.units < cLine) {Z : Nat} (zf : Z < 10 * SetTable.turns t.mask)
    (z1 : (wk t.mask (tkH P w k) Z).j ∉ t.place.toList) (z0 : ∀ c, c < Z → (wk t.mask (tkH P w k) c).j ∈ t.place.toList) {Q : SetFound → Shared → Prop}
    (yes : k ∈ M.map (fun p => p.1) → Q (.there none) s) (no : k ∉ M.map (fun p => p.1) → Q (.free (wk t.mask (tkH P w k) Z).j false) s) (f : Nat) : ∀ (c : Nat) (st : Option SetTable.Probe),
      st.getD (t.probeStart (tkH P w k)) = wk t.mask (tkH P w k) c → c ≤ Z → Z < f + c → (∀ (i : Nat) p, M[i]? = some p → p.1 = k → ∃ d, c ≤ d ∧ d < Z ∧ t.place.toList[i]? = some (wk t.mask (tkH P w k) d).j) →
      wpAny (model P w) A (setSearchFrom a (.ref x) (tkH P w k) true f st) Q E s := by
  induction f with
  | zero => intro c st _ h1 h2; omega
  | succ f ih =>
    intro c st hst hc hf ahead
    obtain ⟨o, ho, _, hd⟩ := R.obj
    have gw : ¬ t.gaveWay = true := by simp [SetTable.gaveWay, mask_odd R.tab.mok]
    rw [setSearchFrom_succ]
    refine wpAny_bind (wpAny_setState_of ho hd R.fits ?_)
    refine wp_if_neg gw ?_
    try refine wpAny_bind (wpAny_pure ?_)
    have sh : ∀ d, nth t.mask (wk t.mask (tkH P w k) c) d = wk t.mask (tkH P w k) (c + d) := fun d => (nth_add t.mask c _ d).symm
    have ha : ∀ (i : Nat) p, M[i]? = some p → (es[i]?.map (·.1)).getD 0 = tkH P w p.1 := fun i p h => by rw [R.at_ h]; rfl
    have ec : c + (Z - c) = Z := by omega
    have met := go_spec t R.tab.ris R.tab.dm (fun i => (es[i]?.map (·.1)).getD 0) (tkH P w k) (10 * SetTable.turns t.mask) (Z - c) (wk t.mask (tkH P w k) c) (nodummy _ _ _ rfl) (by omega)
      (fun d hd => by rw [sh]; exact z0 _ (by omega)) (by rw [sh, ec]; exact z1)
    rw [hst]
    rcases met with ⟨d, i, hd1, hi, hh, before, pr⟩ | ⟨before, pr⟩
    · have pr2 : t.probe (fun i => (es[i]?.map (·.1)).getD 0) (tkH P w k) (wk t.mask (tkH P w k) c) = some (.candidate (wk t.mask (tkH P w k) (c + d)).j i (wk t.mask (tkH P w k) (c + (d + 1)))) := by
        rw [← sh, ← sh]; exact pr
      rw [pr2]
      dsimp only
      rw [sh] at hi
      obtain ⟨p, hp⟩ := R.owner hi
      have rest : wpAny (model P w) A (searchRest a (.ref x) (tkH P w k) true f es t (wk t.mask (tkH P w k) (c + d)).j i (wk t.mask (tkH P w k) (c + (d + 1)))) Q E s := by
        refine cand_ask R T hx hu hi hp (fun e => yes (List.mem_map.mpr ⟨p, List.mem_of_getElem? hp, e⟩)) fun ne => ?_
        refine ih (c + (d + 1)) _ rfl (by omega) (by omega) fun i2 p2 h2 k2 => ?_
        obtain ⟨d2, g1, g2, g3⟩ := ahead i2 p2 h2 k2
        refine ⟨d2, ?_, g2, g3⟩
        rcases Nat.lt_trichotomy d2 (c + d) with l | l | l
        · refine absurd ((ha i2 p2 h2).trans (congrArg (tkH P w) k2)) (before (d2 - c) i2 (by omega) ?_)
          rw [sh, show c + (d2 - c) = d2 by omega]; exact g3
        · rw [l] at g3
          have l1 := slot_live R.tab.ris g3
          rw [slot_live R.tab.ris hi] at l1
          cases l1
          rw [hp] at h2
          cases h2
          exact absurd k2 ne
        · omega
      by_cases hl : t.led = true
      · refine wp_if_neg (by simp [hl]) ?_
        try refine wpAny_bind (wpAny_pure ?_)
        exact rest
      · refine wp_if_pos (by simp [hl]) (wpAny_bind (tk_unseen hx (fun y hy => ?_) ?_))
        · obtain ⟨e, he, rfl⟩ := List.mem_map.mp hy
          have h1 : e ∈ es.toList := by
            have : e ∈ es ∧ e.1 = tkH P w k := by simpa using he
            simpa using this.1
          rw [R.ent] at h1
          obtain ⟨p2, hp2, rfl⟩ := List.mem_map.mp h1
          exact ⟨p2.1, p2.2, rfl, T p2 hp2⟩
        · refine wp_if_neg (by decide) ?_
          try refine wpAny_bind (wpAny_pure ?_)
          exact rest
    · have pr2 : t.probe (fun i => (es[i]?.map (·.1)).getD 0) (tkH P w k) (wk t.mask (tkH P w k) c) = some (.empty (wk t.mask (tkH P w k) Z).j none) := by
        have : (wk t.mask (tkH P w k) Z).j = (nth t.mask (wk t.mask (tkH P w k) c) (Z - c)).j := by rw [sh, ec]
        rw [this]; exact pr
      rw [pr2]
      refine wpAny_pure (no fun hm => ?_)
      obtain ⟨p0, m0, k0⟩ := List.mem_map.mp hm
      obtain ⟨i0, h0⟩ := List.mem_iff_getElem?.mp m0
      obtain ⟨d, g1, g2, g3⟩ := ahead i0 p0 h0 k0
      refine before (d - c) i0 (by omega) ?_ ((ha i0 p0 h0).trans (congrArg (tkH P w) k0))
      rw [sh, show c + (d - c) = d by omega]; exact g3
/-- the walk as adding asks for it -/
theorem walk_all (R : TSet0 P w s.heap a M es ep t) (T : TupsAt P w s.heap M) {x : Addr} {k : List Key} (hx : tkAt P w s.heap k x) (hu : A.units < cLine) {Q : SetFound → Shared → Prop}
    (yes : k ∈ M.map (fun p => p.1) → Q (.there none) s)
    (no : ∀ Z, k ∉ M.map (fun p => p.1) → way t.mask (tkH P w k) Z ∉ t.place.toList → (∀ c, c < Z → way t.mask (tkH P w k) c ∈ t.place.toList) → Q (.free (way t.mask (tkH P w k) Z) false) s) :
    wpAny (model P w) A (setSearch a (.ref x) (tkH P w k) true) Q E s := by
  have r := R.room
  obtain ⟨Z, zf, z1, z0⟩ := R.tab.first (by rw [List.length_map]; omega) (tkH P w k)
  have small : 10 * SetTable.turns t.mask ≤ 1420 := by
    unfold SetTable.turns
    rcases R.tab.mok with e | e | e <;> omega
  unfold setSearch
  refine walk_on R T hx hu zf z1 z0 yes (fun h => no Z h z1 z0) 100000 0 none rfl (Nat.zero_le _) (by omega) fun i p hp hk => ?_
  have h1 : (M.map fun p => tkH P w p.1)[i]? = some (tkH P w k) := by rw [List.getElem?_map, hp, ← hk]; rfl
  have l : i < t.place.toList.length := by
    rw [Array.length_toList, R.tab.sz]
    exact (List.getElem?_eq_some_iff.mp h1).1
  obtain ⟨d, hd, e⟩ := R.tab.before z1 h1 (List.getElem?_eq_getElem l)
  exact ⟨d, Nat.zero_le _, hd, by rw [List.getElem?_eq_getElem l, ← e]⟩
end
section
variable {P : Program} {w : World} {A : Around} {E : Value → Shared → Prop} {s : Shared}
/-- tuples stay when a set changes -/
theorem tk_beside {h h' : Heap} {k : List Key} {a b : Addr} {o : Obj} {es : Array (Int × Value)} {ep : Nat} {t : SetTable} (x : tkAt P w h k b) (ho : h.get? a = some o) (hd : o.data = .set es ep t) (sb : Heap.SameBut a h h') : tkAt P w h' k b := by
  obtain ⟨o2, items, n, h1, h2, h3, h4⟩ := x
  by_cases e : b = a
  · subst e
    rw [ho] at h1
    cases h1
    rw [hd] at h3
    cases h3
  · exact ⟨o2, items, n, (sb.2 b e).trans h1, h2, h3, h4⟩
theorem tk_kept {h h' : Heap} {k : List Key} {b : Addr} (x : tkAt P w h k b) (keep : ∀ c o, h.get? c = some o → h'.get? c = some o) : tkAt P w h' k b := by
  obtain ⟨o, items, n, h1, r⟩ := x
  exact ⟨o, items, n, keep b o h1, r⟩
/-- entries in another order -/
theorem shuffled {α β : Type} (f : α → β) (M : List α) : ∀ l : List Nat, (∀ i ∈ l, i < M.length) → l.filterMap (fun i => (M.map f)[i]?) = (l.filterMap fun i => M[i]?).map f ∧ (l.filterMap fun i => M[i]?).length = l.length
  | [], _ => ⟨rfl, rfl⟩
  | i :: l, hl => by
    have hi := hl i (.head _)
    obtain ⟨e1, e2⟩ := shuffled f M l fun j hj => hl j (.tail _ hj)
    have g : M[i]? = some M[i] := List.getElem?_eq_getElem hi
    have g2 : (M.map f)[i]? = some (f M[i]) := by rw [List.getElem?_map, g]; rfl
    rw [List.filterMap_cons_some g2, List.filterMap_cons_some g, e1]
    exact ⟨rfl, congrArg (· + 1) e2⟩
theorem all_in_turn {α : Type} : ∀ (M : List α), (List.range M.length).filterMap (fun i => M[i]?) = M := by
  intro M
  apply List.ext_getElem?
  intro j
  have key : ∀ n, n ≤ M.length → (List.range n).filterMap (fun i => M[i]?) = M.take n := by
    intro n
    induction n with
    | zero => intro _; simp
    | succ n ih =>
      intro h
      rw [List.range_succ, List.filterMap_append, ih (by omega), List.take_add_one]
      simp [List.getElem?_eq_getElem h]
  rw [key _ (Nat.le_refl _), List.take_length]
variable {a : Addr} {M : MS2} {es : Array (Int × Value)} {ep : Nat} {t : SetTable}
/-- laid anew in a greater table -/
theorem relaid_at {o : Obj} (ho : s.heap.get? a = some o) (ex : o.ExactSet) (hd : o.data = .set es ep t) (ent : es.toList = M.map (rowT P w)) (tab : TabOk t (M.map fun p => tkH P w p.1)) (mk : M.length ≤ t.mask)
    (keys : (M.map fun p => p.1).Nodup) (led : w.params.followText "set-order" = true ∨ t.led = true) (few : M.length < 64) {n B : Nat}
    (hn : SetTable.sizeAbove n - 1 = B) (hB : MaskOk B) (small : SetTable.sizeAbove n ≤ 128) (room : M.length * 5 < B * 3) {Q : Unit → Shared → Prop}
    (q : ∀ h' M' es' ep' t', Heap.SameBut a s.heap h' → TSet0 P w h' a M' es' ep' t' → M'.Perm M → Q () { s with heap := h' }) : wpAny (model P w) A (setRelay a n) Q E s := by
  have el := ent_len ent
  have fit : t.fits es.size = true := by
    have z := tab.sz
    rw [List.length_map] at z
    simp only [SetTable.fits, SetTable.fill, tab.dm, Bool.and_eq_true, beq_iff_eq, decide_eq_true_eq]
    refine ⟨by omega, ?_⟩
    show t.place.size + 0 ≤ t.mask
    omega
  obtain ⟨t2, ord, e, pm, T2, m2, l2, _, _⟩ := relaid_ok t (hs := es.map (·.1)) (wanted := n) hn hB (by rw [Array.size_map, el]; omega)
  rw [Array.size_map, el] at pm
  have inr : ∀ i ∈ ord.toList, i < M.length := fun i hi => List.mem_range.mp (pm.mem_iff.mp hi)
  obtain ⟨f1, f2⟩ := shuffled (rowT P w) M ord.toList inr
  have pm2 : (ord.toList.filterMap fun i => M[i]?).Perm M := by
    have := pm.filterMap fun i => M[i]?
    rwa [all_in_turn] at this
  have rows : (ord.filterMap (es[·]?)).toList = (ord.toList.filterMap fun i => M[i]?).map (rowT P w) := by
    rw [← f1, Array.toList_filterMap]
    congr 1
    funext i
    rw [← ent, Array.getElem?_toList]
  have hsz : (ord.filterMap (es[·]?)).size = es.size := by
    rw [← Array.length_toList, rows, List.length_map, pm2.length_eq, el]
  have T3 : TabOk t2 ((ord.toList.filterMap fun i => M[i]?).map fun p => tkH P w p.1) := by
    have key : ∀ l : List Nat, (∀ i ∈ l, i < M.length) → (l.filterMap fun i => M[i]?).map (fun p => tkH P w p.1) = l.map fun i => (es.map (·.1)).getD i 0 := by
      intro l
      induction l with
      | nil => intro _; rfl
      | cons i l ih =>
        intro inr
        have hi := inr i (.head _)
        have g : M[i]? = some M[i] := List.getElem?_eq_getElem hi
        have g2 : (es.map (·.1))[i]? = some (tkH P w M[i].1) := by
          rw [Array.getElem?_map, ← Array.getElem?_toList, ent, List.getElem?_map, g]; rfl
        rw [List.filterMap_cons_some g, List.map_cons, List.map_cons, ih fun j hj => inr j (.tail _ hj)]
        congr 1
        simp [Array.getD_eq_getD_getElem?, g2]
    rw [key _ inr]; exact T2
  rw [setRelay_eq]
  refine wpAny_bind (wpAny_setState_of ho hd fit ?_)
  dsimp only
  refine wp_if_neg (by rw [sizeLine_eq]; omega) ?_
  try refine wpAny_bind (wpAny_pure ?_)
  rw [e]
  refine wpAny_bind (wp_if_neg (by rw [hsz]; simp) ?_)
  try refine wpAny_bind (wpAny_pure ?_)
  refine wpAny_pure (wpAny_storeSet_of ho hd ?_ (by rw [hsz, el, sizeLine_eq]; omega))
  exact q _ _ _ (ep + 1) t2 (Heap.SameBut.update ..) ⟨⟨_, store_at ho hd, ⟨ex.1, ex.2.1, ex.2.2⟩, rfl⟩, rows, T3, (pm2.map _).nodup_iff.mpr keys, by rw [l2]; exact led, by rw [pm2.length_eq, m2]; exact room, by rw [pm2.length_eq]; exact few⟩ pm2
theorem tab_plain {t : SetTable} {hs : List Int} (T : TabOk t hs) : TabOk { t with plain := false } hs := ⟨T.ris, T.dm, T.sz, T.mok, T.bd, T.reach⟩
/-- one tuple added -/
theorem tset_add (R : TSet0 P w s.heap a M es ep t) (T : TupsAt P w s.heap M) {x : Addr} {k : List Key} (hx : tkAt P w s.heap k x) (hu : A.units < cLine) (few : M.length + 1 < 64) {Q : Bool → Shared → Prop}
    (q : ∀ b h' M' es' ep' t', Heap.SameBut a s.heap h' → TSet0 P w h' a M' es' ep' t' → TupsAt P w h' M' → (k ∈ M.map (fun p => p.1) → M' = M) → (k ∉ M.map (fun p => p.1) → M'.Perm ((k, x) :: M)) → Q b { s with heap := h' }) :
    wpAny (model P w) A (setAddHashed a (.ref x) (tkH P w k)) Q E s := by
  obtain ⟨o, ho, ex, hd⟩ := R.obj
  have el := ent_len R.ent
  have rm := R.room
  unfold setAddHashed
  refine wpAny_holding ?_
  rw [show (100000 : Nat) = 99999 + 1 from rfl, setAddHashedIn_succ]
  refine wpAny_bind (wpAny_setState_of ho hd R.fits ?_)
  refine wp_if_neg (by simp [byScan, Value.scannable]) ?_
  try refine wpAny_bind (wpAny_pure ?_)
  refine wpAny_bind (walk_all R T hx hu (fun hm => wpAny_pure (q false s.heap M es ep t (Heap.SameBut.refl a s.heap) R T (fun _ => rfl) fun z => absurd hm z)) fun Z hm z1 z0 => ?_)
  refine wpAny_bind (wpAny_setState_of ho hd R.fits ?_)
  dsimp only
  obtain ⟨p1, p2, p3, p4, p5, _, _, _, p9⟩ := R.tab.put z1 z0
  generalize t.put (way t.mask (tkH P w k) Z) = pt at p1 p3 p4 p5 p9 ⊢
  obtain ⟨t1, pl⟩ := pt
  dsimp only at p1 p3 p4 p5 p9 ⊢
  subst p1
  generalize SetTable.below t.place (way t.mask (tkH P w k) Z) = pl at p2 p3 ⊢
  rw [List.length_map] at p9
  have pm : (M.take pl ++ (k, x) :: M.drop pl).Perm ((k, x) :: M) := put_perm M pl (k, x)
  have ent1 : (SetTable.insertAt es pl (tkH P w k, Value.ref x)).toList = (M.take pl ++ (k, x) :: M.drop pl).map (rowT P w) := by
    rw [SetTable.toList_insertAt, R.ent, List.map_append, List.map_cons, List.map_take, List.map_drop]
  have hs1 : (M.take pl ++ (k, x) :: M.drop pl).map (fun p => tkH P w p.1) = (M.map fun p => tkH P w p.1).take pl ++ tkH P w k :: (M.map fun p => tkH P w p.1).drop pl := by
    rw [List.map_append, List.map_cons, List.map_take, List.map_drop]
  rw [← hs1] at p3
  generalize SetTable.insertAt es pl (tkH P w k, Value.ref x) = es1 at ent1 ⊢
  generalize M.take pl ++ (k, x) :: M.drop pl = M1 at pm ent1 p3
  have ml : M1.length = M.length + 1 := pm.length_eq
  have el1 := ent_len ent1
  have kn : (M1.map fun p => p.1).Nodup := (pm.map _).nodup_iff.mpr (List.nodup_cons.mpr ⟨hm, R.keys⟩)
  -- whatever the table's mark of plain items
  have go : ∀ t3 : SetTable, TabOk t3 (M1.map fun p => tkH P w p.1) → t3.mask = t.mask → t3.led = t.led → t3.fill = M.length + 1 →
      wpAny (model P w) A (do
        storeSet a es1 t3
        if !false && t3.tooFull then setRelay a (SetTable.grown (es.size + 1))
        return true) Q E s := fun t3 q3 q4 q5 q9 => by
    refine wpAny_bind (wpAny_storeSet_of ho hd ?_ (by rw [el1, ml, sizeLine_eq]; omega))
    have sb : Heap.SameBut a s.heap (s.heap.update a (Obj.putSet es1 t3)) := Heap.SameBut.update ..
    have ho1 := store_at (es' := es1) (t' := t3) ho hd
    generalize s.heap.update a (Obj.putSet es1 t3) = h1 at sb ho1 ⊢
    have T1 : TupsAt P w h1 M1 := fun p hp => by
      rcases List.mem_cons.mp (pm.mem_iff.mp hp) with rfl | hp
      · exact tk_beside hx ho hd sb
      · exact tk_beside (T p hp) ho hd sb
    have ld : w.params.followText "set-order" = true ∨ t3.led = true := by rw [q5]; exact R.led
    by_cases full : t3.tooFull = true
    · first
        | (refine wpAny_bind ?_; refine wp_if_pos (by simp [full]) ?_)
        | (refine wp_if_pos (by simp [full]) ?_; refine wpAny_bind ?_)
      have fz : (M.length + 1) * 5 ≥ t3.mask * 3 := by
        have := full
        unfold SetTable.tooFull at this
        rwa [decide_eq_true_eq, q9] at this
      rw [q4] at fz
      have two : (t.mask = 7 ∧ M.length = 4) ∨ (t.mask = 31 ∧ M.length = 18) := by
        rcases R.tab.mok with e | e | e
        · rw [e] at fz rm; left; omega
        · rw [e] at fz rm; right; omega
        · rw [e] at fz rm; omega
      rw [el]
      have re : ∀ B, SetTable.sizeAbove (SetTable.grown (M.length + 1)) - 1 = B → MaskOk B → SetTable.sizeAbove (SetTable.grown (M.length + 1)) ≤ 128 → (M.length + 1) * 5 < B * 3 →
          wpAny (model P w) A (setRelay a (SetTable.grown (M.length + 1))) (fun _ s' => wpAny (model P w) A (pure true) Q E s') E { s with heap := h1 } := fun B b1 b2 b3 b4 => by
        refine relaid_at (s := { s with heap := h1 }) ho1 ⟨ex.1, ex.2.1, ex.2.2⟩ rfl ent1 q3 (by rcases two with ⟨u, v⟩ | ⟨u, v⟩ <;> omega) kn ld (by omega) b1 b2 b3 (by omega) fun h2 M2 es2 ep2 t2 sb2 R2 pm2 => ?_
        refine wpAny_pure (q true h2 M2 es2 ep2 t2 (sb.trans sb2) R2 (fun p hp => ?_) (fun z => absurd z hm) fun _ => pm2.trans pm)
        exact tk_beside (T1 p (pm2.mem_iff.mp hp)) ho1 rfl sb2
      rcases two with ⟨_, e2⟩ | ⟨_, e2⟩
      · exact re 31 (by rw [e2, size_20]) (.inr (.inl rfl)) (by rw [e2, size_20]; decide) (by omega)
      · exact re 127 (by rw [e2, size_76]) (.inr (.inr rfl)) (by rw [e2, size_76]; decide) (by omega)
    · first
        | refine wp_if_neg (by simp [full]) ?_
        | (refine wpAny_bind ?_; refine wp_if_neg (by simp [full]) ?_; refine wpAny_pure ?_)
      refine wpAny_pure (q true h1 M1 es1 (ep + 1) t3 sb ⟨⟨_, ho1, ⟨ex.1, ex.2.1, ex.2.2⟩, rfl⟩, ent1, q3, kn, ld, ?_, by omega⟩ T1 (fun z => absurd z hm) fun _ => pm)
      have := full
      unfold SetTable.tooFull at this
      rw [decide_eq_true_eq, q9] at this
      omega
  have both : ∀ r : Bool, wpAny (model P w) A (do
        storeSet a es1 (if r = true then t1 else { t1 with plain := false })
        if !false && (if r = true then t1 else { t1 with plain := false }).tooFull then setRelay a (SetTable.grown (es.size + 1))
        return true) Q E s := fun r => by
    cases r
    · exact go _ (tab_plain p3) p4 p5 p9
    · exact go _ p3 p4 p5 p9
  by_cases pl1 : t1.plain = true
  · first
      | exact wpAny_bind (wp_if_pos pl1 (tk_byval hx both))
      | exact wp_if_pos pl1 (wpAny_bind (tk_byval hx both))
  · first
      | exact wpAny_bind (wp_if_neg pl1 (wpAny_pure (both true)))
      | exact wp_if_neg pl1 (wpAny_bind (wpAny_pure (both true)))
      | exact wp_if_neg pl1 (both true)
end
end Wk

/-! Wk7w: set(xs), len(set(xs)), sorted(set(xs)). Printed by mk7w.py. -/
namespace Wk
open PySem PySem.Spec PyProof.Rows L2
/-- a new set -/
abbrev newSet (w : World) : Obj := { cls := .type "set", dict := none, data := .set #[] 0 (.fresh 0 0 (!w.params.followText "set-order")) }
section
variable {P : Program} {w : World} {A : Around} {E : Value → Shared → Prop} {s : Shared}
/-- a set is filled, item by item -/
theorem fill_loop {I : Addr} {fp wr : List Addr} {G : Array GenState → Array GenState → Prop} {n : Nat} {Pv : Nat → Value → Prop} {St : Nat → Shared → Prop} {R : Result → Shared → Prop} (W : WalksS P w A.in1 I fp wr G n Pv St) (S : Addr) (out : S ∉ fp)
    (h0 : Heap) (s0 : h0.get? S = none) (w0 : ∀ b ∈ wr, h0.get? b = none) (J : Nat → Heap → Prop)
    (stay : ∀ i h h', J i h → (∀ o, h.get? S = some o → h'.get? S = some o) → (∀ b o, h0.get? b = some o → h'.get? b = some o) → J i h')
    (turn : ∀ i v s' (Q : Bool → Shared → Prop) (E : Value → Shared → Prop), i < n → Pv i v → J i s'.heap → (∀ b o, h0.get? b = some o → s'.heap.get? b = some o) →
      (∀ b h' tk, s'.toks ≤ tk → Heap.SameBut S s'.heap h' → J (i + 1) h' → Q b { s' with heap := h', toks := tk }) → wpAny (model P w) A.in1 (setAdd S v) Q E s') (m : Nat) :
    ∀ (i : Nat) (s : Shared), n - i = m → i ≤ n → St i s → (∀ b o, h0.get? b = some o → s.heap.get? b = some o) → J i s.heap →
      (∀ s', Moved (S :: wr) G s s' → J n s'.heap → (∀ b o, h0.get? b = some o → s'.heap.get? b = some o) → R (.ok (.ret .none)) s') →
      codeAny (model P w) A (.builtin "set.update.loop" ⟨[.ref S, .ref I], []⟩) R s := by
  have nw : S ∉ wr := fun z => out (W.sub _ z)
  have more : ∀ b ∈ wr, b ∈ S :: wr := fun b z => .tail _ z
  have kp : ∀ {s s' : Shared}, Moved wr G s s' → (∀ b o, h0.get? b = some o → s.heap.get? b = some o) → ∀ b o, h0.get? b = some o → s'.heap.get? b = some o := fun mv k b o e =>
    mv.heap b o (fun z => nomatch (w0 b z).symm.trans e) (k b o e)
  induction m with
  | zero =>
    intro i s hm hi st k j fin
    obtain rfl : i = n := by omega
    refine codeAny_builtin F.entry_set_update_loop ?_
    rw [Around.under_plainId F.plain_set_update_loop _]
    refine wpAny_bind (W.done s _ _ st fun s' mv => ?_)
    exact wpAny_pure (fin s' (mv.mono more) (stay _ _ _ j (fun o e => mv.heap S o nw e) (kp mv k)) (kp mv k))
  | succ m ih =>
    intro i s hm hi st k j fin
    have lt : i < n := by omega
    refine codeAny_builtin F.entry_set_update_loop ?_
    rw [Around.under_plainId F.plain_set_update_loop _]
    refine wpAny_bind (W.item i s _ _ lt st fun v s' pv st' mv => ?_)
    refine wpAny_bind (wpAny_holding (turn i v s' _ _ lt pv (stay _ _ _ j (fun o e => mv.heap S o nw e) (kp mv k)) (kp mv k) fun b h' tk tl sb j2 => ?_))
    have k2 : ∀ b o, h0.get? b = some o → h'.get? b = some o := fun b o e => (sb.2 b fun z => by rw [z, s0] at e; cases e).trans (kp mv k b o e)
    refine wpAny_pure ⟨plainId_quiet F.plain_set_update_loop _, ih (i + 1) _ (by omega) lt (W.frame _ s' _ _ st' tl fun b hb o e => ?_) k2 j2 fun s'' mv2 j3 k3 => ?_⟩
    · rw [sb.2 b fun z => out (z ▸ hb)]; exact e
    · refine fin s'' (Moved.trans W.gtrans ((mv.mono more).then_heap tl fun b o hb e => ?_) mv2) j3 k3
      rw [sb.2 b fun z => hb (z ▸ .head _)]; exact e

/-- how a set comes to what it is -/
structure Filling (P : Program) (w : World) (A : Around) (s : Shared) (items : Array Value) (J : Nat → Heap → Prop) (Q : Value → Shared → Prop) : Prop where
  stay : ∀ i h h', J i h → (∀ o, h.get? s.heap.objs.size = some o → h'.get? s.heap.objs.size = some o) → (∀ b o, s.heap.get? b = some o → h'.get? b = some o) → J i h'
  zero : ∀ h', h'.get? s.heap.objs.size = some (newSet w) → (∀ b o, s.heap.get? b = some o → h'.get? b = some o) → J 0 h'
  turn : ∀ i v s' (Q : Bool → Shared → Prop) (E : Value → Shared → Prop), items[i]? = some v → J i s'.heap → (∀ b o, s.heap.get? b = some o → s'.heap.get? b = some o) →
    (∀ b h' tk, s'.toks ≤ tk → Heap.SameBut s.heap.objs.size s'.heap h' → J (i + 1) h' → Q b { s' with heap := h', toks := tk }) → wpAny (model P w) A.in1.in1.in1 (setAdd s.heap.objs.size v) Q E s'
  fin : ∀ (h' : Heap) (tk : Nat), J items.size h' → (∀ b o, s.heap.get? b = some o → h'.get? b = some o) → Q (.ref s.heap.objs.size) { s with heap := h', toks := tk }

set_option maxHeartbeats 3200000 in
/-- set(xs), xs a list -/
theorem call_set_list {l : Addr} {items : Array Value} {Q : Value → Shared → Prop} (hh : A.handled = none) (hl : s.heap.IsList l items) (J : Nat → Heap → Prop) (Z : Filling P w A s items J Q) :
    wpAny (model P w) A (call (.type "set") [.ref l]) Q E s := by
  obtain ⟨c, tl, hmro⟩ := F.called_set.mro
  have hmade := F.called_set.made
  have hsub := F.called_set.sub
  have h1 := F.called_set.notType
  have h2 := F.called_set.canCreate
  have hct := F.typeCall_set_1 (.ref l)
  refine wpAny_call (codeAny_of_tree (show wpAny _ _ (callAny (.type "set") _) _ _ _ from wpAny_pure ⟨Code.quiet_builtin _ (by decide +kernel), codeAny_builtin F.entry_type_call ?_⟩))
  rw [Around.under_plain (weight_type_call_type "set" [.ref l] []) rfl]
  repeat (any_goals (first | assumption | wp_step))

  refine codeAny_mono (code_set_led1 (.ref l) (E := E) (Q₁ := fun obj s₁ => obj = .ref s.heap.objs.size ∧ s₁ = { s with heap := s.heap.push (newSet w) }) ⟨rfl, rfl⟩) fun r s₁ hr => ?_
  match r, hr with
  | .error e, hr => exact hr
  | .ok (.ret obj), hr =>
    obtain ⟨rfl, rfl⟩ := hr
    have here : (s.heap.push (newSet w)).get? s.heap.objs.size = some (newSet w) := Heap.get?_push_size _ rfl
    have isS : Shared.TypeIs { s with heap := s.heap.push (newSet w) } (.ref s.heap.objs.size) "set" := ⟨_, here, rfl⟩
    have hli := F.called_set.init.lookup
    have hbi := F.called_set.init.bind (.ref s.heap.objs.size)
    repeat (any_goals (first | assumption | wp_step))

    refine codeAny_mono (codeAny_call_builtin (R := wants (fun r s₂ => r = .none ∧ ∃ h' tk, s₂ = { s with heap := h', toks := tk } ∧ J items.size h' ∧ (∀ b o, s.heap.get? b = some o → h'.get? b = some o)) E) F.called_set.init.plain F.entry_set_init (check_set_init_1 isS ?_)) fun r₂ s₂ hr₂ => ?_
    · obtain ⟨⟨ocls, odict, odata, oslots⟩, hol, hcl, nl, hdl⟩ := hl
      simp only at hcl hdl
      subst hcl hdl
      have keep2 : ∀ {b : Addr} {o : Obj}, s.heap.get? b = some o → (s.heap.push (newSet w)).get? b = some o := fun e => Heap.get?_push_of_some _ e
      have hol' := keep2 hol
      have hsls := F.sub_list_set
      have hslf := F.sub_list_frozenset
      have hne : (Value.type "list" == Value.type "dict") = false := by decide
      have hl1 : (s.heap.push (newSet w)).IsList l items := ⟨_, hol', rfl, nl, rfl⟩
      unfold Builtin.«set.__init__» noKeywords Builtin.Frozenset.updateFrom
      generalize hPI : pyIter = PI
      wp_walk
      subst hPI

      refine wpAny_pyIter_list hl1 (wpAny_bind (wpAny_runValue ?_))
      have hlS : l < s.heap.objs.size := Heap.lt_size hol
      have hh3 : A.in1.in1.in1.handled = none := by simp [hh]
      have apart : l ≠ (s.heap.push (newSet w)).objs.size := by
        rw [Heap.size_push]; exact Nat.ne_of_lt (Nat.lt_succ_of_lt hlS)
      have free : ∀ b, s.heap.objs.size ≤ b → s.heap.get? b = none := fun b hb => by
        cases q : s.heap.get? b with
        | none => rfl
        | some o => exact absurd (Nat.lt_of_lt_of_le (Heap.lt_size q) hb) (Nat.lt_irrefl _)
      refine fill_loop ((Walks.list hh3 _ l apart items).toS) s.heap.objs.size (fun z => ?_) s.heap (free _ (Nat.le_refl _)) (fun b hb => ?_) J Z.stay (fun i v s' Q E _ pv => Z.turn i v s' Q E pv) items.size 0 _ rfl (Nat.zero_le _)
        ⟨⟨_, Heap.get?_push_size _ rfl, rfl, rfl⟩, hl1.push _⟩ (fun b o e => Heap.get?_push_of_some _ (keep2 e)) (Z.zero _ (Heap.get?_push_of_some _ here) fun b o e => Heap.get?_push_of_some _ (keep2 e)) fun s' mv j k => ?_
      · rw [Heap.size_push] at z
        simp only [List.mem_cons, List.not_mem_nil, or_false] at z
        rcases z with z | z
        · exact Nat.ne_of_lt (Nat.lt_succ_self _) z
        · exact Nat.ne_of_gt hlS z
      · rw [List.mem_singleton.mp hb, Heap.size_push]
        exact free _ (Nat.le_succ _)
      · obtain ⟨h', g2, d', tk', os'⟩ := s'
        obtain rfl : g2 = s.gens := mv.gens
        obtain rfl : d' = s.drawn := mv.drawn
        obtain rfl : os' = s.os := mv.os
        refine wpAny_pure ?_
        show wpAny _ _ (ret Value.none) _ _ _
        exact wpAny_pure ⟨rfl, h', tk', rfl, j, k⟩
    · match r₂, hr₂ with
      | .error e, hr₂ => exact hr₂
      | .ok (.ret r), hr₂ =>
        obtain ⟨rfl, h', tk, rfl, j, k⟩ := hr₂
        repeat (any_goals (first | assumption | wp_step))
        exact Z.fin _ _ j k
      | .ok .next, hr₂ => exact hr₂.elim
      | .ok .brk, hr₂ => exact hr₂.elim
      | .ok .cont, hr₂ => exact hr₂.elim
  | .ok .next, hr => exact hr.elim
  | .ok .brk, hr => exact hr.elim
  | .ok .cont, hr => exact hr.elim

set_option maxHeartbeats 3200000 in
/-- set(xs), xs a tuple -/
theorem call_set_tuple {l : Addr} {items : Array Value} {Q : Value → Shared → Prop} (hh : A.handled = none) (hl : s.heap.IsTuple l items) (J : Nat → Heap → Prop) (Z : Filling P w A s items J Q) :
    wpAny (model P w) A (call (.type "set") [.ref l]) Q E s := by
  obtain ⟨c, tl, hmro⟩ := F.called_set.mro
  have hmade := F.called_set.made
  have hsub := F.called_set.sub
  have h1 := F.called_set.notType
  have h2 := F.called_set.canCreate
  have hct := F.typeCall_set_1 (.ref l)
  refine wpAny_call (codeAny_of_tree (show wpAny _ _ (callAny (.type "set") _) _ _ _ from wpAny_pure ⟨Code.quiet_builtin _ (by decide +kernel), codeAny_builtin F.entry_type_call ?_⟩))
  rw [Around.under_plain (weight_type_call_type "set" [.ref l] []) rfl]
  repeat (any_goals (first | assumption | wp_step))

  refine codeAny_mono (code_set_led1 (.ref l) (E := E) (Q₁ := fun obj s₁ => obj = .ref s.heap.objs.size ∧ s₁ = { s with heap := s.heap.push (newSet w) }) ⟨rfl, rfl⟩) fun r s₁ hr => ?_
  match r, hr with
  | .error e, hr => exact hr
  | .ok (.ret obj), hr =>
    obtain ⟨rfl, rfl⟩ := hr
    have here : (s.heap.push (newSet w)).get? s.heap.objs.size = some (newSet w) := Heap.get?_push_size _ rfl
    have isS : Shared.TypeIs { s with heap := s.heap.push (newSet w) } (.ref s.heap.objs.size) "set" := ⟨_, here, rfl⟩
    have hli := F.called_set.init.lookup
    have hbi := F.called_set.init.bind (.ref s.heap.objs.size)
    repeat (any_goals (first | assumption | wp_step))

    refine codeAny_mono (codeAny_call_builtin (R := wants (fun r s₂ => r = .none ∧ ∃ h' tk, s₂ = { s with heap := h', toks := tk } ∧ J items.size h' ∧ (∀ b o, s.heap.get? b = some o → h'.get? b = some o)) E) F.called_set.init.plain F.entry_set_init (check_set_init_1 isS ?_)) fun r₂ s₂ hr₂ => ?_
    · obtain ⟨⟨ocls, odict, odata, oslots⟩, hol, hcl, nl, hdl⟩ := hl
      simp only at hcl hdl
      subst hcl hdl
      have keep2 : ∀ {b : Addr} {o : Obj}, s.heap.get? b = some o → (s.heap.push (newSet w)).get? b = some o := fun e => Heap.get?_push_of_some _ e
      have hol' := keep2 hol
      have hsls := F.sub_tuple_set
      have hslf := F.sub_tuple_frozenset
      have hne : (Value.type "tuple" == Value.type "dict") = false := by decide
      have hl1 : (s.heap.push (newSet w)).IsTuple l items := ⟨_, hol', rfl, nl, rfl⟩
      unfold Builtin.«set.__init__» noKeywords Builtin.Frozenset.updateFrom
      generalize hPI : pyIter = PI
      wp_walk
      subst hPI

      refine wpAny_pyIter_tuple hl1 (wpAny_bind (wpAny_runValue ?_))
      have hlS : l < s.heap.objs.size := Heap.lt_size hol
      have hh3 : A.in1.in1.in1.handled = none := by simp [hh]
      have apart : l ≠ (s.heap.push (newSet w)).objs.size := by
        rw [Heap.size_push]; exact Nat.ne_of_lt (Nat.lt_succ_of_lt hlS)
      have free : ∀ b, s.heap.objs.size ≤ b → s.heap.get? b = none := fun b hb => by
        cases q : s.heap.get? b with
        | none => rfl
        | some o => exact absurd (Nat.lt_of_lt_of_le (Heap.lt_size q) hb) (Nat.lt_irrefl _)
      refine fill_loop ((Walks.tuple hh3 _ l apart items).toS) s.heap.objs.size (fun z => ?_) s.heap (free _ (Nat.le_refl _)) (fun b hb => ?_) J Z.stay (fun i v s' Q E _ pv => Z.turn i v s' Q E pv) items.size 0 _ rfl (Nat.zero_le _)
        ⟨⟨_, Heap.get?_push_size _ rfl, rfl, rfl⟩, hl1.push _⟩ (fun b o e => Heap.get?_push_of_some _ (keep2 e)) (Z.zero _ (Heap.get?_push_of_some _ here) fun b o e => Heap.get?_push_of_some _ (keep2 e)) fun s' mv j k => ?_
      · rw [Heap.size_push] at z
        simp only [List.mem_cons, List.not_mem_nil, or_false] at z
        rcases z with z | z
        · exact Nat.ne_of_lt (Nat.lt_succ_self _) z
        · exact Nat.ne_of_gt hlS z
      · rw [List.mem_singleton.mp hb, Heap.size_push]
        exact free _ (Nat.le_succ _)
      · obtain ⟨h', g2, d', tk', os'⟩ := s'
        obtain rfl : g2 = s.gens := mv.gens
        obtain rfl : d' = s.drawn := mv.drawn
        obtain rfl : os' = s.os := mv.os
        refine wpAny_pure ?_
        show wpAny _ _ (ret Value.none) _ _ _
        exact wpAny_pure ⟨rfl, h', tk', rfl, j, k⟩
    · match r₂, hr₂ with
      | .error e, hr₂ => exact hr₂
      | .ok (.ret r), hr₂ =>
        obtain ⟨rfl, h', tk, rfl, j, k⟩ := hr₂
        repeat (any_goals (first | assumption | wp_step))
        exact Z.fin _ _ j k
      | .ok .next, hr₂ => exact hr₂.elim
      | .ok .brk, hr₂ => exact hr₂.elim
      | .ok .cont, hr₂ => exact hr₂.elim
  | .ok .next, hr => exact hr.elim
  | .ok .brk, hr => exact hr.elim
  | .ok .cont, hr => exact hr.elim
end
end Wk


/-! Wk7x: set(xs) as a step; len(set(xs)); sorted(set(xs)). -/
namespace Wk
open PySem PySem.Spec PyProof.Rows L2
/-! ### each once -/
section
variable {α : Type} [DecidableEq α]
def addK (acc : List α) (k : α) : List α := if k ∈ acc then acc else acc ++ [k]
def ded (ks : List α) : List α := ks.foldl addK []
theorem addK_nd {acc : List α} {k : α} (h : acc.Nodup) : (addK acc k).Nodup := by
  unfold addK
  split
  · exact h
  · rename_i n
    exact List.nodup_append.mpr ⟨h, by simp, fun a ha b hb => by rw [List.mem_singleton.mp hb]; exact fun z => n (z ▸ ha)⟩
theorem addK_mem {acc : List α} {k x : α} : x ∈ addK acc k ↔ x = k ∨ x ∈ acc := by
  unfold addK
  split
  · rename_i n
    exact ⟨.inr, fun h => h.elim (fun e => e ▸ n) id⟩
  · simp [or_comm]
theorem fold_nd : ∀ (ks acc : List α), acc.Nodup → (ks.foldl addK acc).Nodup
  | [], _, h => h
  | k :: ks, acc, h => fold_nd ks _ (addK_nd h)
theorem fold_mem : ∀ (ks acc : List α) (x : α), x ∈ ks.foldl addK acc ↔ x ∈ acc ∨ x ∈ ks
  | [], _, x => by simp
  | k :: ks, acc, x => by
    rw [List.foldl_cons, fold_mem ks, addK_mem, List.mem_cons]
    constructor
    · rintro ((h | h) | h)
      · exact .inr (.inl h)
      · exact .inl h
      · exact .inr (.inr h)
    · rintro (h | h | h)
      · exact .inl (.inr h)
      · exact .inl (.inl h)
      · exact .inr h
theorem ded_nd (ks : List α) : (ded ks).Nodup := fold_nd ks [] List.nodup_nil
theorem ded_mem (ks : List α) (x : α) : x ∈ ded ks ↔ x ∈ ks := by
  unfold ded; rw [fold_mem]; simp
theorem ded_perm {ks l : List α} (h : l.Nodup) (m : ∀ x, x ∈ l ↔ x ∈ ks) : l.Perm (ded ks) :=
  (List.perm_ext_iff_of_nodup h (ded_nd ks)).mpr fun x => (m x).trans (ded_mem ks x).symm
theorem addK_len (acc : List α) (k : α) : (addK acc k).length ≤ acc.length + 1 := by
  unfold addK; split <;> simp
theorem fold_len : ∀ (ks acc : List α), (ks.foldl addK acc).length ≤ acc.length + ks.length
  | [], _ => by simp
  | k :: ks, acc => by
    have h := fold_len ks (addK acc k)
    have h2 := addK_len acc k
    rw [List.foldl_cons, List.length_cons]; omega
theorem ded_len (ks : List α) : (ded ks).length ≤ ks.length := by
  have := fold_len ks []
  simpa [ded] using this
end
def addD (acc : List D) (d : D) : List D := if inD d acc then acc else acc ++ [d]
/-- the items, each once -/
def setL (ds : List D) : List D := ds.foldl addD []
theorem setL_map {α : Type} [DecidableEq α] (f : α → D) (h : ∀ a b, PyData.eqv (f a) (f b) = decide (a = b)) (ks : List α) : setL (ks.map f) = (ded ks).map f := by
  have key : ∀ (ks acc : List α), (ks.map f).foldl addD (acc.map f) = (ks.foldl addK acc).map f := by
    intro ks
    induction ks with
    | nil => intro _; rfl
    | cons k ks ih =>
      intro acc
      rw [List.map_cons, List.foldl_cons, List.foldl_cons, ← ih]
      congr 1
      unfold addD addK
      have : inD (f k) (acc.map f) = decide (k ∈ acc) := by
        unfold inD
        rw [List.any_map]
        induction acc with
        | nil => simp
        | cons a acc ih2 =>
          rw [List.any_cons, ih2]
          simp only [Function.comp, h, List.mem_cons]
          by_cases e : a = k
          · simp [e]
          · have e2 : ¬ k = a := fun z => e z.symm
            simp [e, e2]
      rw [this]
      by_cases e : k ∈ acc <;> simp [e]
  exact key ks []
def tupD (k : List Key) : D := .tuple (k.map kD)
theorem eqv_kD (a b : Key) : PyData.eqv (kD a) (kD b) = decide (a = b) := by
  cases a with
  | inl i => cases b with
    | inl j =>
      rw [key_ll]
      show PyData.eqv (.int i) (.int j) = _
      simp only [PyData.eqv]
    | inr y => rw [key_lr]; simp [kD, PyData.eqv]
  | inr x => cases b with
    | inl j => rw [key_rl]; simp [kD, PyData.eqv]
    | inr y =>
      rw [key_rr]
      show PyData.eqv (.str x) (.str y) = _
      simp only [PyData.eqv]
      by_cases e : x = y <;> simp [e]
theorem eqv_kDs : ∀ a b : List Key, PyData.eqvAll (a.map kD) (b.map kD) = decide (a = b)
  | [], [] => by simp [PyData.eqvAll]
  | [], _ :: _ => by simp [PyData.eqvAll]
  | _ :: _, [] => by simp [PyData.eqvAll]
  | x :: a, y :: b => by
    rw [List.map_cons, List.map_cons, PySem.W.eqv_all_cons, eqv_kD, eqv_kDs a b]
    by_cases e : x = y <;> by_cases e2 : a = b <;> simp [e, e2]
theorem eqv_tupD (a b : List Key) : PyData.eqv (tupD a) (tupD b) = decide (a = b) := by
  rw [← eqv_kDs]
  unfold tupD
  simp only [PyData.eqv]
/-! ### what can be put into a set -/
def keysT : List D → Option (List (List Key))
  | [] => some []
  | .tuple es :: r => match keysOf es, keysT r with
    | some k, some ks => some (k :: ks)
    | _, _ => none
  | _ :: _ => none
theorem keysT_eq [Ctx] : ∀ {ds : List D} {ks : List (List Key)}, keysT ds = some ks → ds = ks.map tupD
  | [], _, h => by cases h; rfl
  | d :: r, ks, h => by
    cases d with
    | tuple es =>
      simp only [keysT] at h
      split at h
      · rename_i k ks' h1 h2
        cases h
        rw [List.map_cons, ← keysT_eq h2, keysOf_eq h1]; rfl
      · cases h
    | _ => cases h
def setOkT (ds : List D) : Bool := (keysT ds).isSome && decide (ds.length < 64)
def setOk (ds : List D) : Bool := setOkT ds || ((keysOf ds).isSome && decide (ds.length ≤ 4000))
def lenSetL (ds : List D) : OV := if setOk ds then .v (.int (setL ds).length) else .no
def bLenSet : D → OV
  | .list ds => lenSetL ds
  | .tuple ds => lenSetL ds
  | _ => .no
def sortSetL (ds : List D) : OV := if setOkT ds && sOk (setL ds) then .f (.list ((setL ds).mergeSort leD)) else .no
def bSortSet : D → OV
  | .list ds => sortSetL ds
  | .tuple ds => sortSetL ds
  | _ => .no
/-! ### the order -/
theorem leD_trans (a b c : D) (h1 : leD a b = true) (h2 : leD b c = true) : leD a c = true := by
  unfold leD PySem.W.dataLt at *
  simp only [Bool.not_eq_true'] at *
  cases e : PyProof.Rows.lexLt PyProof.Rows.itemOrd (PySem.W.keyToks c) (PySem.W.keyToks a) with
  | false => rfl
  | true =>
    rcases lex_negTrans _ (PySem.W.keyToks b) _ e with z | z
    · rw [z] at h2; cases h2
    · rw [z] at h1; cases h1
theorem leD_total (a b : D) : (leD a b || leD b a) = true := by
  unfold leD PySem.W.dataLt
  cases e : PyProof.Rows.lexLt PyProof.Rows.itemOrd (PySem.W.keyToks b) (PySem.W.keyToks a) with
  | false => rfl
  | true =>
    cases e2 : PyProof.Rows.lexLt PyProof.Rows.itemOrd (PySem.W.keyToks a) (PySem.W.keyToks b) with
    | false => rfl
    | true =>
      have := lex_trans _ _ _ e e2
      rw [lex_irrefl] at this
      cases this
theorem toks_kD : ∀ a b : List Key, PySem.W.keyToksAll (a.map kD) = PySem.W.keyToksAll (b.map kD) → a = b
  | [], [], _ => rfl
  | [], y :: b, h => by
    rw [List.map_cons, PySem.W.toks_all_cons, List.map_nil, PySem.W.keyToksAll] at h
    cases h
  | x :: a, [], h => by
    rw [List.map_cons, PySem.W.toks_all_cons, List.map_nil, PySem.W.keyToksAll] at h
    cases h
  | x :: a, y :: b, h => by
    rw [List.map_cons, PySem.W.toks_all_cons, List.map_cons, PySem.W.toks_all_cons] at h
    have h := (List.cons.inj h).2
    cases x with
    | inl i => cases y with
      | inl j =>
        simp only [kD, PySem.W.keyToks, List.cons_append, List.nil_append, List.cons.injEq, Sum.inl.injEq] at h
        rw [h.1, toks_kD a b h.2]
      | inr s =>
        simp only [kD, PySem.W.keyToks, List.cons_append, List.nil_append, List.cons.injEq] at h
        cases h.1
    | inr s => cases y with
      | inl j =>
        simp only [kD, PySem.W.keyToks, List.cons_append, List.nil_append, List.cons.injEq] at h
        cases h.1
      | inr u =>
        simp only [kD, PySem.W.keyToks, List.cons_append, List.nil_append, List.cons.injEq, Sum.inr.injEq] at h
        rw [PySem.W.str_of_cps h.1, toks_kD a b h.2]
theorem leD_anti {a b : List Key} (h1 : leD (tupD a) (tupD b) = true) (h2 : leD (tupD b) (tupD a) = true) : a = b := by
  unfold leD PySem.W.dataLt at *
  simp only [Bool.not_eq_true'] at *
  have e := lex_total _ _ h2 h1
  unfold tupD at e
  rw [PySem.W.keyToks, PySem.W.keyToks] at e
  exact toks_kD a b e
/-- a sorted list hangs on its items alone -/
theorem sort_same {l m : List (List Key)} (p : l.Perm m) : (l.map tupD).mergeSort leD = (m.map tupD).mergeSort leD := by
  have pw : ∀ l : List D, (l.mergeSort leD).Pairwise (fun a b => leD a b = true) := fun l => List.pairwise_mergeSort leD_trans leD_total l
  refine List.Perm.eq_of_pairwise (le := fun a b => leD a b = true) (fun a b ha hb h1 h2 => ?_) (pw _) (pw _) (((List.mergeSort_perm _ _).trans (p.map tupD)).trans (List.mergeSort_perm _ _).symm)
  obtain ⟨x, _, rfl⟩ := List.mem_map.mp ((List.mergeSort_perm _ _).mem_iff.mp ha)
  obtain ⟨y, _, rfl⟩ := List.mem_map.mp ((List.mergeSort_perm _ _).mem_iff.mp hb)
  rw [leD_anti h1 h2]
end Wk

/-! Wk7y: len(set(xs)), sorted(set(xs)) in the engine. -/
namespace Wk
open PySem PySem.Spec PyProof.Rows L2
variable [Ctx]
section
variable {P : Program} {w : World} {A : Around} {E : Value → Shared → Prop} {s : Shared} {h h' : Heap} {a : Addr} {M : MS2} {es : Array (Int × Value)} {ep : Nat} {t : SetTable}
/-! ### what the set has got of the first items -/
structure GotT (ks : MS2) (i : Nat) (M : MS2) : Prop where
  sub : ∀ p ∈ M, p ∈ ks.take i
  all : ∀ p ∈ ks.take i, p.1 ∈ M.map (fun p => p.1)
  len : M.length ≤ i
theorem take1 {α : Type} {l : List α} {i : Nat} {x : α} (g : l[i]? = some x) : l.take (i + 1) = l.take i ++ [x] := by
  rw [List.take_add_one, g]; rfl
theorem GotT.step {ks M M' : MS2} {i : Nat} {k : List Key} {b : Addr} (g : GotT ks i M) (at_ : ks[i]? = some (k, b)) (old : k ∈ M.map (fun p => p.1) → M' = M) (new : k ∉ M.map (fun p => p.1) → M'.Perm ((k, b) :: M)) : GotT ks (i + 1) M' := by
  by_cases c : k ∈ M.map (fun p => p.1)
  · rw [old c]
    refine ⟨fun p hp => ?_, fun p hp => ?_, Nat.le_succ_of_le g.len⟩
    · rw [take1 at_]; exact List.mem_append_left _ (g.sub p hp)
    · rw [take1 at_] at hp
      rcases List.mem_append.mp hp with z | z
      · exact g.all p z
      · cases List.mem_singleton.mp z; exact c
  · have pm := new c
    refine ⟨fun p hp => ?_, fun p hp => ?_, by rw [pm.length_eq]; exact Nat.succ_le_succ g.len⟩
    · rw [take1 at_]
      rcases List.mem_cons.mp (pm.mem_iff.mp hp) with z | z
      · cases z; exact List.mem_append_right _ (.head _)
      · exact List.mem_append_left _ (g.sub p z)
    · rw [(pm.map _).mem_iff, List.map_cons]
      rw [take1 at_] at hp
      rcases List.mem_append.mp hp with z | z
      · exact .tail _ (g.all p z)
      · cases List.mem_singleton.mp z; exact .head _
theorem tset_stay (R : TSet0 P w h a M es ep t) (k : ∀ o, h.get? a = some o → h'.get? a = some o) : TSet0 P w h' a M es ep t := by
  obtain ⟨⟨o, ho, r⟩, r1, r2, r3, r4, r5, r6⟩ := R
  exact ⟨⟨o, k o ho, r⟩, r1, r2, r3, r4, r5, r6⟩
theorem tset_new (ho : h.get? a = some (newSet w)) : TSet0 P w h a [] #[] 0 (.fresh 0 0 (!w.params.followText "set-order")) where
  obj := ⟨_, ho, ⟨rfl, rfl, rfl⟩, rfl⟩
  ent := rfl
  tab := ⟨.nil, rfl, rfl, .inl rfl, nofun, fun i h j hi => by simp at hi⟩
  keys := List.nodup_nil
  led := by
    cases e : w.params.followText "set-order"
    · exact .inr rfl
    · exact .inl rfl
  room := by show 0 * 5 < 7 * 3; decide
  few := by show 0 < 64; decide
def JT (P : Program) (w : World) (ks : MS2) (S : Addr) (i : Nat) (h : Heap) : Prop := ∃ M es ep t, TSet0 P w h S M es ep t ∧ GotT ks i M
theorem filling_tups {items : Array Value} {ks : MS2} {Q : Value → Shared → Prop} (hit : items.toList = ks.map fun p => Value.ref p.2) (hk : TupsAt P w s.heap ks) (few : ks.length < 64) (hu : A.units + 3 < cLine)
    (fin : ∀ (h' : Heap) (tk : Nat), JT P w ks s.heap.objs.size ks.length h' → (∀ b o, s.heap.get? b = some o → h'.get? b = some o) → Q (.ref s.heap.objs.size) { s with heap := h', toks := tk }) :
    Filling P w A s items (JT P w ks s.heap.objs.size) Q := by
  have hs : items.size = ks.length := by rw [← Array.length_toList, hit, List.length_map]
  refine ⟨fun i h h' j k _ => ?_, fun h' ho _ => ⟨[], _, _, _, tset_new ho, nofun, fun p hp => by simp at hp, Nat.le_refl _⟩, fun i v s' Q' E' pv j kp q => ?_, fun h' tk j k => fin h' tk (hs ▸ j) k⟩
  · obtain ⟨M, es, ep, t, R, g⟩ := j
    exact ⟨M, es, ep, t, tset_stay R k, g⟩
  · have e : items.toList[i]? = some v := by rw [Array.getElem?_toList]; exact pv
    rw [hit, List.getElem?_map] at e
    obtain ⟨⟨k, b⟩, hp, rfl⟩ := Option.map_eq_some_iff.mp e
    obtain ⟨M, es, ep, t, R, g⟩ := j
    have tx : ∀ p ∈ ks, tkAt P w s'.heap p.1 p.2 := fun p hp => tk_kept (hk p hp) kp
    have hb := tx _ (List.mem_of_getElem? hp)
    have hu3 : A.in1.in1.in1.units < cLine := by show A.units + 1 + 1 + 1 < cLine; omega
    unfold setAdd
    refine wpAny_holding (wpAny_bind (wpAny_pyHash_tuple hu3 hb ?_))
    have gl := g.len
    have il : i < ks.length := (List.getElem?_eq_some_iff.mp hp).1
    refine tset_add (s := { s' with toks := s'.toks + (k.length + 1) }) R (fun p hp => tx p (List.mem_of_mem_take (g.sub p hp))) hb hu3 (by omega) fun c h' M' es' ep' t' sb R' _ old new => ?_
    exact q c h' _ (Nat.le_add_right _ _) sb ⟨M', es', ep', t', R', g.step hp old new⟩
/-! ### ints and texts -/
theorem setOf_as {h : Heap} {a : Addr} {S S' : Key → Bool} {n n' : Nat} (x : h.SetOf (mixKind P w) a S n) (e : ∀ k, S k = S' k) (en : n = n') : h.SetOf (mixKind P w) a S' n' := by
  obtain rfl : S = S' := funext e
  exact en ▸ x
def hasK {α : Type} [DecidableEq α] (l : List α) (k : α) : Bool := decide (k ∈ l)
theorem hasK_addK {α : Type} [DecidableEq α] (l : List α) (k q : α) : hasK (addK l k) q = (hasK l q || decide (q = k)) := by
  unfold hasK
  by_cases e : q = k <;> simp [addK_mem, e]
theorem len_addK {α : Type} [DecidableEq α] (l : List α) (k : α) : (addK l k).length = if hasK l k then l.length else l.length + 1 := by
  unfold hasK addK
  by_cases e : k ∈ l <;> simp [e]
def JK (P : Program) (w : World) (ks : List Key) (S : Addr) (i : Nat) (h : Heap) : Prop := h.SetOf (mixKind P w) S (hasK (ded (ks.take i))) (ded (ks.take i)).length
theorem ded_take {α : Type} [DecidableEq α] {ks : List α} {i : Nat} {k : α} (h : ks[i]? = some k) : ded (ks.take (i + 1)) = addK (ded (ks.take i)) k := by
  rw [take1 h]
  unfold ded
  rw [List.foldl_append]; rfl
theorem filling_keys {items : Array Value} {ks : List Key} {Q : Value → Shared → Prop} (hs : items.size = ks.length) (hk : ∀ (i : Nat) (v : Value), items[i]? = some v → ∃ k, ks[i]? = some k ∧ keyIs k v = true) (few : ks.length ≤ 4000)
    (fin : ∀ (h' : Heap) (tk : Nat), JK P w ks s.heap.objs.size ks.length h' → (∀ b o, s.heap.get? b = some o → h'.get? b = some o) → Q (.ref s.heap.objs.size) { s with heap := h', toks := tk }) :
    Filling P w A s items (JK P w ks s.heap.objs.size) Q := by
  refine ⟨fun i h h' j k _ => setOf_at j k, fun h' ho _ => ⟨_, #[], 0, _, ho, ⟨rfl, rfl, rfl⟩, rfl, (fun e he => by simp at he), (fun k => by simp [ded, hasK]), (by decide), (by rfl), rfl⟩, fun i v s' Q' E' pv j kp q => ?_, fun h' tk j k => fin h' tk (hs ▸ j) k⟩
  obtain ⟨k, hp, hv⟩ := hk i v pv
  have sc : v.scannable = true := by
    rcases keyIs_shape hv with ⟨_, _, _, rfl⟩ | ⟨_, _, _, rfl⟩ <;> rfl
  have l1 := ded_len (ks.take i)
  have l2 : (ks.take i).length ≤ ks.length := by rw [List.length_take]; omega
  unfold setAdd
  refine wpAny_holding (wpAny_bind ((mixKind P w).pyHash (k := k) hv ?_))
  refine wpAny_setAddHashed_of (knd := mixKind P w) (s := { s' with toks := s'.toks + 1 }) hv sc j (by unfold scanBound; omega) fun h' sb S2 => ?_
  refine q _ h' _ (Nat.le_succ _) sb (setOf_as S2 (fun k' => ?_) ?_)
  · rw [ded_take hp, hasK_addK]
  · rw [ded_take hp, len_addK]
end
def tsO (P : Program) (w : World) (a : Addr) (M : MS2) : HO := .ext fun h => ∃ es ep t, TSet0 P w h a M es ep t
theorem tsO_ok {P : Program} {w : World} {H : Hp} {h : Heap} {a : Addr} {M : MS2} (R : ∃ es ep t, TSet0 P w h a M es ep t) : ObjOk P w H h a (tsO P w a M) := by
  obtain ⟨es, ep, t, R⟩ := R
  obtain ⟨o, ho, _⟩ := R.obj
  exact ⟨⟨es, ep, t, R⟩, ⟨o, ho⟩, fun h1 h2 ⟨es, ep, t, R⟩ k => ⟨es, ep, t, tset_stay R k⟩⟩
section
variable {X : Cx}
theorem vals_refs : ∀ {ks : MS2} {us : List Value}, Vals (ks.map fun p => V.ref p.2) us → us = ks.map fun p => Value.ref p.2
  | [], _, .nil => rfl
  | p :: ks, _, .cons r t => by cases r; rw [vals_refs t]; rfl
theorem refs_vals : ∀ (ks : MS2), Vals (ks.map fun p => V.ref p.2) (ks.map fun p => Value.ref p.2)
  | [] => .nil
  | p :: ks => .cons rfl (refs_vals ks)
theorem vals_keys : ∀ {ks : List Key} {us : List Value}, Vals (ks.map kV) us → ∀ (i : Nat) (v : Value), us[i]? = some v → ∃ k, ks[i]? = some k ∧ keyIs k v = true
  | [], _, .nil, i, v, h => by simp at h
  | k :: ks, _, .cons r t, 0, v, h => by
    cases h
    refine ⟨k, rfl, ?_⟩
    cases k with
    | inl i => obtain ⟨u, rfl⟩ := r; exact keyIs_int i u
    | inr x => obtain ⟨u, rfl⟩ := r; exact keyIs_str x u
  | k :: ks, _, .cons r t, i + 1, v, h => vals_keys t i v h
/-- set(xs), of tuples -/
def rSetT (X : Cx) : List V → Hp → VK → Prop := fun xs H Q => ∃ (l : Addr) (ks : MS2), xs = [.ref l] ∧ (SqL X.K H l (ks.map fun p => V.ref p.2) ∨ SqT X.K H l (ks.map fun p => V.ref p.2)) ∧ (∀ p ∈ ks, SqT X.K H p.2 (p.1.map kV)) ∧ ks.length < 64 ∧
  ∀ a M, H a = none → (∀ p ∈ M, p ∈ ks) → (∀ p ∈ ks, p.1 ∈ M.map fun p => p.1) → (M.map fun p => p.1).Nodup → Q (.ref a) (upd H a (tsO X.prog X.w a M))
theorem cr_setT (hc : X.calm = true) (hu : X.A.units + 64 < cLine) : CallR X (.type "set") (rSetT X) := by
  intro pins s σ H xs us Q I r ⟨l, ks, e, hl, hk, few, q⟩
  subst e
  rw [Vals.ref1 r]
  have hn : H s.heap.objs.size = none := I.hok.fresh (Nat.le_refl _)
  have fin : ∀ (h' : Heap) (tk : Nat), JT X.prog X.w ks s.heap.objs.size ks.length h' → (∀ b o, s.heap.get? b = some o → h'.get? b = some o) → EP X pins σ Q (.ref s.heap.objs.size) { s with heap := h', toks := tk } := fun h' tk ⟨M, es, ep, t, R, g⟩ k =>
    ⟨.ref _, upd H s.heap.objs.size (tsO X.prog X.w s.heap.objs.size M), I.laid (t' := tk) k (Nat.le_refl _) (tsO_ok ⟨es, ep, t, R⟩), rfl, q _ M hn (fun p hp => List.mem_of_mem_take (g.sub p hp)) (fun p hp => g.all p (by rw [List.take_length]; exact hp)) R.keys⟩
  have tx : TupsAt X.prog X.w s.heap ks := fun p hp => tk_of I (hk p hp)
  rcases hl with hl | hl
  · obtain ⟨its, rv, pl, hz⟩ := I.list hl
    exact call_set_list (I.ok.hd hc) pl.isList _ (filling_tups (by simpa using vals_refs rv) tx few (by omega) fin)
  · obtain ⟨its, rv, pl, hz⟩ := I.tuple hl
    exact call_set_tuple (I.ok.hd hc) pl _ (filling_tups (by simpa using vals_refs rv) tx few (by omega) fin)
/-- set(xs), of ints and texts -/
def rSetK (X : Cx) : List V → Hp → VK → Prop := fun xs H Q => ∃ (l : Addr) (ks : List Key), xs = [.ref l] ∧ (SqL X.K H l (ks.map kV) ∨ SqT X.K H l (ks.map kV)) ∧ ks.length ≤ 4000 ∧
  ∀ a, H a = none → Q (.ref a) (upd H a (SetK X.prog X.w a (hasK (ded ks)) (ded ks).length))
theorem cr_setKs (hc : X.calm = true) : CallR X (.type "set") (rSetK X) := by
  intro pins s σ H xs us Q I r ⟨l, ks, e, hl, few, q⟩
  subst e
  rw [Vals.ref1 r]
  have hn : H s.heap.objs.size = none := I.hok.fresh (Nat.le_refl _)
  have fin : ∀ (h' : Heap) (tk : Nat), JK X.prog X.w ks s.heap.objs.size ks.length h' → (∀ b o, s.heap.get? b = some o → h'.get? b = some o) → EP X pins σ Q (.ref s.heap.objs.size) { s with heap := h', toks := tk } := fun h' tk j k => by
    unfold JK at j
    rw [List.take_length] at j
    exact ⟨.ref _, upd H s.heap.objs.size (SetK X.prog X.w s.heap.objs.size _ _), I.laid (t' := tk) k (Nat.le_refl _) (setK_new j), rfl, q _ hn⟩
  rcases hl with hl | hl
  · obtain ⟨its, rv, pl, hz⟩ := I.list hl
    exact call_set_list (I.ok.hd hc) pl.isList _ (filling_keys (by rw [List.size_toArray, ← rv.length, List.length_map]) (fun i v h => vals_keys rv i v (by simpa using h)) few fin)
  · obtain ⟨its, rv, pl, hz⟩ := I.tuple hl
    exact call_set_tuple (I.ok.hd hc) pl _ (filling_keys (by rw [List.size_toArray, ← rv.length, List.length_map]) (fun i v h => vals_keys rv i v (by simpa using h)) few fin)
/-- len(s) -/
def rLenS (X : Cx) : List V → Hp → VK → Prop := fun xs H Q => ∃ (a : Addr) (n : Nat), xs = [.ref a] ∧ n ≤ 4096 ∧ ((∃ M, H a = some (tsO X.prog X.w a M) ∧ n = M.length) ∨ ∃ S, H a = some (SetK X.prog X.w a S n)) ∧ Q (.int n) H
theorem cr_lenS : CallR X (.builtin "len") (rLenS X) := by
  intro pins s σ H xs us Q I r ⟨a, n, e, hn, h, q⟩
  subst e
  rw [Vals.ref1 r]
  rcases h with ⟨M, ha, rfl⟩ | ⟨S, ha⟩
  · obtain ⟨es, ep, t, R⟩ := (show ObjOk X.prog X.w H s.heap a (tsO X.prog X.w a M) from I.hok a _ ha).1
    obtain ⟨o, ho, ex, hd⟩ := R.obj
    have el := ent_len R.ent
    exact call_len_set ho ex hd R.fits (by omega) ⟨.int M.length, H, I.tok _, ⟨_, by rw [el]⟩, q⟩
  · obtain ⟨o, es, ep, t, ho, ex, hd, _, _, _, fit, rfl⟩ := setK_get I ha
    exact call_len_set ho ex hd fit (by omega) ⟨.int es.size, H, I.tok _, ⟨_, rfl⟩, q⟩
end
end Wk

/-! Wk7z: sorted(set(xs)); the two in the engine. -/
namespace Wk
open PySem PySem.Spec PyProof.Rows L2
variable [Ctx]
theorem sOk_sub {l m : List D} (h : ∀ d ∈ m, d ∈ l) (ok : sOk l = true) : sOk m = true := by
  unfold sOk at *
  simp only [Bool.and_eq_true, Bool.or_eq_true, List.all_eq_true] at *
  obtain ⟨⟨h1, h2⟩, h3⟩ := ok
  exact ⟨⟨fun a ha b hb => h1 a (h a ha) b (h b hb), h2.imp (fun z a ha => z a (h a ha)) fun z a ha => z a (h a ha)⟩, fun a ha => h3 a (h a ha)⟩
theorem perm_map_ex {α β : Type} {f : α → β} {l m : List β} (p : l.Perm m) : ∀ M : List α, m = M.map f → ∃ M' : List α, M'.Perm M ∧ l = M'.map f := by
  induction p with
  | nil => intro M e; exact ⟨M, .refl _, e⟩
  | cons x p ih =>
    intro M e
    cases M with
    | nil => cases e
    | cons a M =>
      rw [List.map_cons] at e
      obtain ⟨M', pm, rfl⟩ := ih M (List.cons.inj e).2
      exact ⟨a :: M', pm.cons a, by rw [List.map_cons, (List.cons.inj e).1]⟩
  | swap x y l =>
    intro M e
    match M, e with
    | a :: b :: M, e =>
      rw [List.map_cons, List.map_cons] at e
      have e1 := List.cons.inj e
      have e2 := List.cons.inj e1.2
      exact ⟨b :: a :: M, .swap _ _ _, by rw [List.map_cons, List.map_cons, e1.1, e2.1, e2.2]⟩
    | [_], e => cases e
    | [], e => cases e
  | trans p q ihp ihq =>
    intro M e
    obtain ⟨M2, p2, e2⟩ := ihq M e
    obtain ⟨M1, p1, e1⟩ := ihp M2 e2
    exact ⟨M1, p1.trans p2, e1⟩
section
variable {X : Cx}
/-- sorted, of what is gathered in some order -/
theorem sorted_any {pins : List (Addr × Obj)} {σ : L2.St} {Hi H : Hp} {s : Shared} {a : Addr} {res : List D} {Q : VK} (sub : Same Hi H) (hu : X.A.units + 65 < cLine)
    (hcol : ∀ (E : Value → Shared → Prop) (R : List Value → Shared → Prop), (∀ vs s1 xs ds, Inv X pins σ H s1 → Vals xs vs → Rps X.K Hi xs ds → sOk ds = true → ds.mergeSort leD = res → vs.length ≤ sizeLine → R vs s1) → wpAny (model X.prog X.w) X.A.in1 (collect (.ref a)) R E s)
    (q : ∀ zs p, H p = none → Rps X.K Hi zs res → Q (.ref p) (upd H p (.lst zs))) :
    wpAny (model X.prog X.w) X.A (call (.builtin "sorted") [.ref a]) (EP X pins σ Q) X.xe s := by
  refine Calls.call_function_entry PyProof.Rows.kind_sorted PyProof.Rows.plain_sorted PyProof.Rows.entry_sorted (PyProof.Rows.args_sorted1 _) ?_
  unfold Builtin.«sorted»
  refine wpAny_bind (m := checkCount "sorted" 1 1 _) (wpAny_pure ?_)
  refine wpAny_bind (hcol _ _ fun vs s1 xs ds I1 rv rs ok er0 hz => ?_)
  obtain ⟨hal, hso, hdp⟩ := sOk_facts ok
  have hlen : xs.length = ds.length := rs.length
  have hbs : (xs.zip ds).map Prod.snd = ds := zip_snd hlen
  refine wpAny_bind (wpAny_newList ?_ hz)
  have hoL : (s1.heap.push (seqObj "list" vs.toArray 0)).get? s1.heap.objs.size = some (seqObj "list" vs.toArray 0) := Heap.get?_push_size _ rfl
  show wpAny _ _ _ _ _ { s1 with heap := s1.heap.push (seqObj "list" vs.toArray 0) }
  have old : ∀ b o, s1.heap.get? b = some o → (PySem.W.sortingHeap (s1.heap.push (seqObj "list" vs.toArray 0)) s1.heap.objs.size vs).get? b = some o := fun b o e =>
    PySem.W.sortingHeap_old (Nat.ne_of_lt (Heap.lt_size e)) (Heap.get?_push_of_some _ e)
  have e0 := rz_of rv rs
  have er : PySem.W.EachIs (fun v (b : V × D) => ∃ as, Reads (PySem.W.sortingHeap (s1.heap.push (seqObj "list" vs.toArray 0)) s1.heap.objs.size vs) v b.2 as) vs (xs.zip ds) := e0.mono fun v b ⟨r1, r2⟩ => by
    obtain ⟨as, rd⟩ := ((r2.mono sub).rdn I1 r1).reads
    exact ⟨as, PyProof.Rows.Reads.keeps old rd⟩
  have hal' : PySem.W.AllAlike ((xs.zip ds).map Prod.snd) := by rw [hbs]; exact hal
  have hso' : PySem.W.Sortable ((xs.zip ds).map Prod.snd) := by rw [hbs]; exact hso
  have S := PySem.W.SortsAt.data (prog := X.prog) (w := X.w) (A := X.A.in1.in1) (s := { s1 with heap := PySem.W.sortingHeap (s1.heap.push (seqObj "list" vs.toArray 0)) s1.heap.objs.size vs })
    (PySem.W.each_map (R := fun v d => ∃ as, Reads (PySem.W.sortingHeap (s1.heap.push (seqObj "list" vs.toArray 0)) s1.heap.objs.size vs) v d as) Prod.snd er) hal' hso' (fun d hd => by
      have h1 := hdp d (by rw [← hbs]; exact hd)
      have h2 : X.A.in1.in1.units ≤ X.A.units + 2 := by show X.A.units + 1 + 1 ≤ _; omega
      omega)
  have out := PySem.W.sortVals_data false e0 er hal'
  refine wpAny_bind (wpAny_holding (wpAny_call_entry PyProof.Rows.slot_list_sort ⟨_, hoL, rfl⟩ PyProof.Rows.entry_list_sort
    (PySem.W.list_sort_vals (s := { s1 with heap := s1.heap.push (seqObj "list" vs.toArray 0) }) hoL S hz ⟨_, rfl, ?_⟩)
    (PyProof.Rows.args_list_sort _)))
  generalize hout : PySem.W.sortVals (PySem.W.dataKind (PySem.W.sortingHeap (s1.heap.push (seqObj "list" vs.toArray 0)) s1.heap.objs.size vs) ((xs.zip ds).map Prod.snd)) false vs vs = ov at out
  obtain ⟨e', he'⟩ := PyProof.Rows.sortedHeap_at (vs := vs) (out := ov.toArray) hoL
  obtain ⟨z1, z2⟩ := rz_back out
  have em : ((xs.zip ds).mergeSort (PySem.W.dataLe false Prod.snd)).map Prod.snd = res := by
    have := List.map_mergeSort (r := PySem.W.dataLe false (Prod.snd : V × D → D)) (s := leD) (f := Prod.snd) (l := xs.zip ds) (fun _ _ _ _ => rfl)
    rw [this, hbs, er0]
  rw [em] at z2
  have hl2 : (((xs.zip ds).mergeSort (PySem.W.dataLe false Prod.snd)).map Prod.fst).length ≤ sizeLine := by
    rw [List.length_map, List.length_mergeSort, List.length_zip, hlen, Nat.min_self, ← hlen, rv.length]; exact hz
  refine wpAny_pure ⟨_, rfl, .ref s1.heap.objs.size, upd H s1.heap.objs.size (.lst _), I1.laid (t' := s1.toks) (fun b u e => ?_) (Nat.le_refl _)
    (show ObjOk X.prog X.w _ _ _ (.lst (((xs.zip ds).mergeSort (PySem.W.dataLe false Prod.snd)).map Prod.fst)) from ⟨hl2, ov, e', z1, he'⟩), rfl, q _ _ (I1.hok.fresh (Nat.le_refl _)) z2⟩
  have hb : b < s1.heap.objs.size := Heap.lt_size e
  rw [PyProof.Rows.sortedHeap_old (Nat.ne_of_lt hb) (by rw [size_push']; exact Nat.lt_succ_of_lt hb)]
  exact Heap.get?_push_of_some _ e
def rSortS (X : Cx) (Hi : Hp) (res : List D) : List V → Hp → VK → Prop := fun xs H Q => ∃ (a : Addr) (M : MS2), xs = [.ref a] ∧ Same Hi H ∧ H a = some (tsO X.prog X.w a M) ∧ (∀ p ∈ M, SqT X.K Hi p.2 (p.1.map kV)) ∧ sOk (M.map fun p => tupD p.1) = true ∧ (M.map fun p => tupD p.1).mergeSort leD = res ∧
  ∀ zs p, H p = none → Rps X.K Hi zs res → Q (.ref p) (upd H p (.lst zs))
theorem rps_tups {K : PySem.W.Frag} {Hi : Hp} : ∀ {M : MS2}, (∀ p ∈ M, SqT K Hi p.2 (p.1.map kV)) → Rps K Hi (M.map fun p => V.ref p.2) (M.map fun p => tupD p.1)
  | [], _ => .nil
  | p :: M, h => .cons (.tup (h p (.head _)) (by
      generalize p.1 = k
      induction k with
      | nil => exact .nil
      | cons x k ih =>
        refine .cons ?_ ih
        cases x with
        | inl i => exact .int i
        | inr s => exact .str s)) (rps_tups fun q hq => h q (.tail _ hq))
theorem cr_sortS (hc : X.calm = true) (hu : X.A.units + 65 < cLine) {Hi : Hp} {res : List D} : CallR X (.builtin "sorted") (rSortS X Hi res) := by
  intro pins s σ H xs us Q I r ⟨a, M, e, sub, ha, hk, ok, er, q⟩
  subst e
  rw [Vals.ref1 r]
  obtain ⟨es, ep, t, R⟩ := (show ObjOk X.prog X.w H s.heap a (tsO X.prog X.w a M) from I.hok a _ ha).1
  obtain ⟨o, ho, ex, hd⟩ := R.obj
  have el := ent_len R.ent
  have few := R.few
  refine sorted_any sub hu (fun E R' k => ?_) q
  refine collect_set (A := X.A.in1) (I.ok.hd hc) ⟨o, ho, ex.1, hd⟩ R.fits (by unfold scanBound; omega) R.tab.ris R.led fun s1 vs kp _ g1 o1 pm => ?_
  have e2 : es.toList.map (·.2) = M.map fun p => Value.ref p.2 := by
    rw [R.ent, List.map_map]; rfl
  rw [e2] at pm
  obtain ⟨M', pm', rfl⟩ := perm_map_ex pm M rfl
  have I1 : Inv X pins σ H s1 := I.call' (ch := []) o1 (Un.kept kp) (I.hok.kept kp) (by rw [g1]; exact I.bare) (fun _ z => nomatch z)
  have mem : ∀ p ∈ M', p ∈ M := fun p hp => pm'.mem_iff.mp hp
  refine k _ s1 _ _ I1 (refs_vals M') (rps_tups fun p hp => hk p (mem p hp)) (sOk_sub (fun d hd => ?_) ok) ?_ (by rw [List.length_map, pm'.length_eq, sizeLine_eq]; omega)
  · obtain ⟨p, hp, rfl⟩ := List.mem_map.mp hd
    exact List.mem_map.mpr ⟨p, mem p hp, rfl⟩
  · rw [← er]
    have := sort_same (pm'.map fun p => p.1)
    rwa [List.map_map, List.map_map] at this
/-! ### operands -/
theorem rps_keysT {K : PySem.W.Frag} {Hi : Hp} : ∀ {xs : List V} {ks : List (List Key)}, Rps K Hi xs (ks.map tupD) → ∃ M : MS2, xs = M.map (fun p => V.ref p.2) ∧ M.map (fun p => p.1) = ks ∧ ∀ p ∈ M, SqT K Hi p.2 (p.1.map kV)
  | [], [], _ => ⟨[], rfl, rfl, nofun⟩
  | _ :: _, [], h => nomatch h
  | [], _ :: _, h => nomatch h
  | x :: xs, k :: ks, .cons h r => by
    obtain ⟨M, e1, e2, e3⟩ := rps_keysT r
    have h : Rp K Hi x (.tuple (k.map kD)) := h
    cases h with
    | tup q r2 =>
      have e := rps_keys r2
      subst e
      refine ⟨(k, _) :: M, by rw [List.map_cons, e1], by rw [List.map_cons, e2], fun p hp => ?_⟩
      rcases List.mem_cons.mp hp with rfl | hp
      · exact q
      · exact e3 p hp
theorem opd_seq {K : PySem.W.Frag} {Hi H : Hp} {x : V} {d : D} {ds : List D} (sub : Same Hi H) (o : Opd K Hi H x d) (e : d = .list ds ∨ d = .tuple ds) : ∃ a xs, x = .ref a ∧ (SqL K H a xs ∨ SqT K H a xs) ∧ Rps K Hi xs ds := by
  rcases e with rfl | rfl
  · obtain ⟨a, xs, rfl, h, r⟩ := o.list_ sub
    exact ⟨a, xs, rfl, .inl (SqL.of h), r⟩
  · obtain ⟨a, xs, rfl, h, r, _⟩ := o.tuple_ sub
    exact ⟨a, xs, rfl, .inr h, r⟩
theorem gr_same {Hi H : Hp} {a : Addr} {o : HO} (sub : Same Hi H) (h : H a = none) : Gr Hi H Hi (upd H a o) where
  h := fun b u e => by rw [upd_ne (ne_of_none e h)]; exact e
  i := Same.refl _
  s := fun b u e => by rw [upd_ne (ne_of_none (sub b u e) h)]; exact sub b u e
  n := fun b u e => .inl e
theorem rps_keysK {K : PySem.W.Frag} {Hi : Hp} {xs : List V} {ks : List Key} (r : Rps K Hi xs (ks.map kD)) : xs = ks.map kV := rps_keys r
variable {ex : Expr} {m : ME} {p p2 pos q : Pos}
/-- len(set(e)) -/
theorem snd_lenSet (hc : X.calm = true) (hu : X.A.units + 65 < cLine) (hg : Gl X "len") (hm : X.mg "len" = none) (hg2 : Gl X "set") (hm2 : X.mg "set" = none) (ha : Snd X ex m)
    (he : starEach [ex] X.env = (false, eval ex X.env) :: starEach [] X.env) :
    Snd X (.Call (.Name "len" p) [.Call (.Name "set" p2) [ex] [] q] [] pos) (mUn bLenSet m) := fun e b as Hi ρ σ H R S h => by
  have hset : CallR X (.type "set") (fun xs H Q => rSetT X xs H Q ∨ rSetK X xs H Q) := fun pins s σ H xs us Q I r h => h.elim (cr_setT hc (by omega) pins s σ H xs us Q I r) (cr_setKs hc pins s σ H xs us Q I r)
  refine .of (pe_callB cr_lenS hg hm PySem.boot_len (pa_cons (pe_callTy hset hg2 hm2 PyProof.Rows.boot_set (pa_cons (pe_tE X ex) pa_nil he) (by decide) (by decide) he rfl) pa_nil) (by decide) (by decide) rfl rfl) ?_
  refine ha e b as Hi ρ σ H _ S ((T.all_bind.mp h).mono fun b1 pr _ h1 v H1 Hi1 as1 x1 S1 r1 => ?_)
  obtain ⟨d, od, po⟩ := d1_post S1 r1 (h1.mono fun _ _ _ z => z.ext x1)
  have go : ∀ ds, d = .list ds ∨ d = .tuple ds → OPost X.K Hi1 H1 R (lenSetL ds) → (rSetT X [v] H1 (fun x H2 => rLenS X [x] H2 R) ∨ rSetK X [v] H1 (fun x H2 => rLenS X [x] H2 R)) := fun ds ed po => by
    obtain ⟨a, xs, rfl, hs, rs⟩ := opd_seq S1.sub od ed
    unfold lenSetL at po
    split at po
    case isFalse => exact OPost.no po
    rename_i ok
    unfold setOk at ok
    rw [Bool.or_eq_true] at ok
    rcases ok with ok | ok
    · left
      unfold setOkT at ok
      rw [Bool.and_eq_true, decide_eq_true_eq] at ok
      obtain ⟨ks, hks⟩ := Option.isSome_iff_exists.mp ok.1
      have e1 := keysT_eq hks
      subst e1
      obtain ⟨M0, rfl, e2, e3⟩ := rps_keysT rs
      have ml : M0.length = ks.length := by rw [← e2, List.length_map]
      rw [List.length_map] at ok
      refine ⟨a, M0, rfl, hs, fun p hp => sqT_mono S1.sub (e3 p hp), by omega, fun b M hb sb all nd => ⟨b, M.length, rfl, ?_, .inl ⟨M, upd_same, rfl⟩, ?_⟩⟩
      · have pm := ded_perm (ks := ks) nd fun x => ⟨fun hx => ?_, fun hx => ?_⟩
        · have l1 := pm.length_eq
          have l2 := ded_len ks
          rw [List.length_map] at l1
          omega
        · obtain ⟨p, hp, rfl⟩ := List.mem_map.mp hx
          rw [← e2]; exact List.mem_map.mpr ⟨p, sb p hp, rfl⟩
        · rw [← e2] at hx
          obtain ⟨p, hp, rfl⟩ := List.mem_map.mp hx
          exact all p hp
      · have pm := ded_perm (ks := ks) nd fun x => ⟨fun hx => by
          obtain ⟨p, hp, rfl⟩ := List.mem_map.mp hx
          rw [← e2]; exact List.mem_map.mpr ⟨p, sb p hp, rfl⟩, fun hx => by
          rw [← e2] at hx
          obtain ⟨p, hp, rfl⟩ := List.mem_map.mp hx
          exact all p hp⟩
        have l1 := pm.length_eq
        rw [List.length_map] at l1
        rw [setL_map tupD eqv_tupD, List.length_map, ← l1] at po
        exact po _ _ _ (gr_same S1.sub hb) (.int _)
    · right
      rw [Bool.and_eq_true, decide_eq_true_eq] at ok
      obtain ⟨ks, hks⟩ := Option.isSome_iff_exists.mp ok.1
      have e1 := keysOf_eq hks
      subst e1
      have e2 := rps_keysK rs
      subst e2
      rw [List.length_map] at ok
      have l2 := ded_len ks
      refine ⟨a, ks, rfl, hs, ok.2, fun b hb => ⟨b, (ded ks).length, rfl, by omega, .inr ⟨_, upd_same⟩, ?_⟩⟩
      rw [setL_map kD eqv_kD, List.length_map] at po
      exact po _ _ _ (gr_same S1.sub hb) (.int _)
  cases d with
  | list ds => exact go ds (.inl rfl) po
  | tuple ds => exact go ds (.inr rfl) po
  | _ => exact OPost.no po
/-- sorted(set(e)) -/
theorem snd_sortSet (hc : X.calm = true) (hu : X.A.units + 65 < cLine) (hg : Gl X "sorted") (hm : X.mg "sorted" = none) (hg2 : Gl X "set") (hm2 : X.mg "set" = none) (ha : Snd X ex m)
    (he : starEach [ex] X.env = (false, eval ex X.env) :: starEach [] X.env) :
    Snd X (.Call (.Name "sorted" p) [.Call (.Name "set" p2) [ex] [] q] [] pos) (mUn bSortSet m) := fun e b as Hi ρ σ H R S h => by
  have hso : CallR X (.builtin "sorted") (fun xs H Q => ∃ Hi res, rSortS X Hi res xs H Q) := fun pins s σ H xs us Q I r ⟨_, _, h⟩ => cr_sortS hc hu pins s σ H xs us Q I r h
  refine .of (pe_callB hso hg hm PyProof.Rows.boot_sorted (pa_cons (pe_callTy (cr_setT hc (by omega)) hg2 hm2 PyProof.Rows.boot_set (pa_cons (pe_tE X ex) pa_nil he) (by decide) (by decide) he rfl) pa_nil) (by decide) (by decide) rfl rfl) ?_
  refine ha e b as Hi ρ σ H _ S ((T.all_bind.mp h).mono fun b1 pr _ h1 v H1 Hi1 as1 x1 S1 r1 => ?_)
  obtain ⟨d, od, po⟩ := d1_post S1 r1 (h1.mono fun _ _ _ z => z.ext x1)
  have go : ∀ ds, d = .list ds ∨ d = .tuple ds → OPost X.K Hi1 H1 R (sortSetL ds) → rSetT X [v] H1 (fun x H2 => ∃ Hi res, rSortS X Hi res [x] H2 R) := fun ds ed po => by
    obtain ⟨a, xs, rfl, hs, rs⟩ := opd_seq S1.sub od ed
    unfold sortSetL at po
    split at po
    case isFalse => exact OPost.no po
    rename_i ok
    rw [Bool.and_eq_true] at ok
    obtain ⟨ok, so⟩ := ok
    unfold setOkT at ok
    rw [Bool.and_eq_true, decide_eq_true_eq] at ok
    obtain ⟨ks, hks⟩ := Option.isSome_iff_exists.mp ok.1
    have e1 := keysT_eq hks
    subst e1
    obtain ⟨M0, rfl, e2, e3⟩ := rps_keysT rs
    have ml : M0.length = ks.length := by rw [← e2, List.length_map]
    rw [List.length_map] at ok
    rw [setL_map tupD eqv_tupD] at po so
    refine ⟨a, M0, rfl, hs, fun p hp => sqT_mono S1.sub (e3 p hp), by omega, fun b M hb sb all nd => ?_⟩
    have pm := ded_perm (ks := ks) nd fun x => ⟨fun hx => by
      obtain ⟨p, hp, rfl⟩ := List.mem_map.mp hx
      rw [← e2]; exact List.mem_map.mpr ⟨p, sb p hp, rfl⟩, fun hx => by
      rw [← e2] at hx
      obtain ⟨p, hp, rfl⟩ := List.mem_map.mp hx
      exact all p hp⟩
    have so2 := sort_same pm
    have mm : (M.map fun p => p.1).map tupD = M.map fun p => tupD p.1 := List.map_map
    rw [mm] at so2
    have gr := gr_same (a := b) (o := tsO X.prog X.w b M) S1.sub hb
    refine ⟨Hi1, _, b, M, rfl, gr.s, upd_same, fun p hp => e3 p (sb p hp), sOk_sub (fun d hd => ?_) so, so2, fun zs c hcn rz => ?_⟩
    · rw [← mm] at hd
      obtain ⟨k, hk, rfl⟩ := List.mem_map.mp hd
      exact List.mem_map.mpr ⟨k, pm.mem_iff.mp hk, rfl⟩
    · exact po _ _ _ _ gr hcn (.lst upd_same rz)
  cases d with
  | list ds => exact go ds (.inl rfl) po
  | tuple ds => exact go ds (.inr rfl) po
  | _ => exact OPost.no po
end
end Wk

/-! Wk7q: sum(lists, []), min and max of texts. -/
namespace Wk
open PySem PySem.Spec PyProof.Rows L2
def asLists : List D → Option (List (List D))
  | [] => some []
  | .list ds :: r => (asLists r).map (ds :: ·)
  | _ :: _ => none
theorem asLists_of : ∀ {ds : List D} {bs : List (List D)}, asLists ds = some bs → ds = bs.map .list
  | [], bs, h => by cases h; rfl
  | d :: r, bs, h => by
    cases d with
    | list b =>
      simp only [asLists, Option.map_eq_some_iff] at h
      obtain ⟨cs, h1, rfl⟩ := h
      rw [asLists_of h1]; rfl
    | _ => cases h
theorem asLists_map : ∀ bs : List (List D), asLists (bs.map .list) = some bs
  | [] => rfl
  | b :: bs => by simp [asLists, asLists_map bs]
def leT (a b : Str) : Bool := !PySem.W.dataLt (.str b) (.str a)
def minT (x : Str) (xs : List Str) : Str := xs.foldl (fun a y => if leT a y then a else y) x
theorem minT_D (x : Str) (xs : List Str) : PySem.W.minD (.str x) (xs.map .str) = .str (minT x xs) := by
  unfold PySem.W.minD minT
  induction xs generalizing x with
  | nil => rfl
  | cons y r ih =>
    rw [List.map_cons, List.foldl_cons, List.foldl_cons]
    have e : (if PySem.W.dataLt (PyData.str y) (PyData.str x) = true then PyData.str y else PyData.str x) = .str (if leT x y = true then x else y) := by
      unfold leT
      cases PySem.W.dataLt (.str y) (.str x) <;> rfl
    rw [e]; exact ih _
variable [Ctx]
abbrev lob (its : List Value) (n : Nat) : Obj := { cls := .type "list", data := .seq its.toArray n }
abbrev LL := List (Addr × List Value × Nat)
section
variable {P : Program} {w : World} {A : Around} {E : Value → Shared → Prop} {s : Shared}
theorem args_sum2 (a b : Value) : argsOk "sum" ⟨[a, b], []⟩ := by unfold argsOk; kernel_rfl
/-- lists laid together, one behind the other -/
theorem cat_loop {I : Addr} {fp wr : List Addr} {G : Array GenState → Array GenState → Prop} {n : Nat} {Pv : Nat → Value → Prop} {St : Nat → Shared → Prop} {R : Result → Shared → Prop} (W : WalksS P w A.in1 I fp wr G n Pv St) (S : Addr) (ahead : ∀ b ∈ fp, b < S)
    (h0 : Heap) (s0 : ∀ b o, h0.get? b = some o → b < S) (w0 : ∀ b ∈ wr, h0.get? b = none) (ls : LL) (hn : n = ls.length) (hv : ∀ i v, Pv i v → ∃ p, ls[i]? = some p ∧ v = .ref p.1) (hl : ∀ p ∈ ls, h0.get? p.1 = some (lob p.2.1 p.2.2))
    (big : (ls.map fun p => p.2.1.length).sum ≤ sizeLine) (m : Nat) :
    ∀ (i : Nat) (s : Shared) (t : Addr) (acc : List Value) (k c : Nat), n - i = m → i ≤ n → St i s → (∀ b o, h0.get? b = some o → s.heap.get? b = some o) → s.heap.get? t = some (lob acc k) → t ∉ wr → t ≠ S → acc = ((ls.take i).map fun p => p.2.1).flatten →
      s.heap.get? S = some { cls := .type "list", data := .seq #[.ref t] c } →
      (∀ s' t' k', Moved (S :: wr) G s s' → (∀ b o, h0.get? b = some o → s'.heap.get? b = some o) → s'.heap.get? t' = some (lob (ls.map fun p => p.2.1).flatten k') → (i = n → t' = t) → (i < n → S < t') → R (.ok (.ret (.ref t'))) s') →
      codeAny (model P w) A (.builtin "sum.loop" ⟨[.ref I, .ref S, rawInt 2, rawInt 0], []⟩) R s := by
  have out : S ∉ fp := fun z => Nat.lt_irrefl _ (ahead S z)
  have nw : S ∉ wr := fun z => out (W.sub _ z)
  have more : ∀ b ∈ wr, b ∈ S :: wr := fun b z => .tail _ z
  have kp : ∀ {s s' : Shared}, Moved wr G s s' → (∀ b o, h0.get? b = some o → s.heap.get? b = some o) → ∀ b o, h0.get? b = some o → s'.heap.get? b = some o := fun mv k b o e =>
    mv.heap b o (fun z => nomatch (w0 b z).symm.trans e) (k b o e)
  induction m with
  | zero =>
    intro i s t acc k c hm hi st kep ht tw tS ea hS fin
    obtain rfl : i = n := by omega
    refine codeAny_builtin F.entry_sum_loop ?_
    rw [Around.under_plainId F.plain_sum_loop _]
    show wpAny _ A.in1 (seqItems? (.ref S) >>= _) _ _ s
    refine wpAny_bind (wpAny_seqItems hS rfl ?_)
    show wpAny _ A.in1 (tryCatch (pyNext (.ref I)) _ >>= _) _ _ s
    refine wpAny_bind (wpAny_tryCatch (W.done s _ _ st fun s' mv => ?_))
    have e : acc = (ls.map fun p => p.2.1).flatten := by rw [ea, hn, List.take_length]
    exact wpAny_pure (fin s' t k (mv.mono more) (kp mv kep) (by rw [← e]; exact mv.heap t _ tw ht) (fun _ => rfl) fun z => absurd z (Nat.lt_irrefl _))
  | succ m ih =>
    intro i s t acc k c hm hi st kep ht tw tS ea hS fin
    have lt : i < n := by omega
    refine codeAny_builtin F.entry_sum_loop ?_
    rw [Around.under_plainId F.plain_sum_loop _]
    show wpAny _ A.in1 (seqItems? (.ref S) >>= _) _ _ s
    refine wpAny_bind (wpAny_seqItems hS rfl ?_)
    show wpAny _ A.in1 (tryCatch (pyNext (.ref I)) _ >>= _) _ _ s
    refine wpAny_bind (wpAny_tryCatch (W.item i s _ _ lt st fun v s' pv st' mv => ?_))
    obtain ⟨p, hp, rfl⟩ := hv i v pv
    have pm := List.mem_of_getElem? hp
    have kep' := kp mv kep
    have ht' := mv.heap t _ tw ht
    have hS' := mv.heap S _ nw hS
    have e2 := kep' _ _ (hl p pm)
    have etk : ls.take (i + 1) = ls.take i ++ [p] := by rw [List.take_add_one, hp]; rfl
    have ea2 : acc ++ p.2.1 = ((ls.take (i + 1)).map fun p => p.2.1).flatten := by rw [etk, List.map_append, List.flatten_append, ea]; simp
    have fits : acc.length + p.2.1.length ≤ sizeLine := by
      have h1 : (acc ++ p.2.1).length ≤ (ls.map fun p => p.2.1.length).sum := by
        rw [ea2, List.length_flatten, List.map_map]
        conv => rhs; rw [← List.take_append_drop (i + 1) ls, List.map_append, List.sum_append]
        exact Nat.le_add_right _ _
      rw [List.length_append] at h1
      omega
    have Sl : S < s'.heap.objs.size := Heap.lt_size hS'
    show wpAny _ A.in1 ((holding [Value.ref p.1] (binaryOp .Add (.ref t) (.ref p.1))).attempt >>= _) _ _ _
    refine wpAny_bind (wpAny_attempt (wpAny_holding (PySem.P.add_list ht' e2 ?_ (by rw [List.size_toArray, List.size_toArray]; exact fits))))
    have hSn : (s'.heap.push (lob (acc ++ p.2.1) 0)).get? S = _ := Heap.get?_push_of_some _ hS'
    have eo : ({ cls := .type "list", data := .seq (acc.toArray ++ p.2.1.toArray) } : Obj) = lob (acc ++ p.2.1) 0 := by simp
    rw [eo]
    show wpAny _ A.in1 (updateSeq S (fun _ => #[.ref s'.heap.objs.size]) >>= _) _ _ _
    refine wpAny_bind (wpAny_updateSeq hSn rfl ?_)
    have hS2 := Heap.get?_update_self (Obj.mapSeq fun _ => #[Value.ref s'.heap.objs.size]) hSn rfl
    refine wpAny_bind (wpAny_letGo ?_)
    have same : ∀ b o, b ≠ S → s'.heap.get? b = some o → (((s'.heap.push (lob (acc ++ p.2.1) 0)).update S (Obj.mapSeq fun _ => #[Value.ref s'.heap.objs.size])).update S (Obj.mapSeq fun _ => #[Value.ref s'.heap.objs.size])).get? b = some o := fun b o hb e =>
      (Heap.get?_update_other _ _ (Ne.symm hb)).trans ((Heap.get?_update_other _ _ (Ne.symm hb)).trans (Heap.get?_push_of_some _ e))
    refine wpAny_bind (wpAny_updateSeq hS2 rfl (wpAny_pure ⟨plainId_quiet F.plain_sum_loop _, ih (i + 1) _ s'.heap.objs.size (acc ++ p.2.1) 0 _ (by omega) lt (W.frame _ s' _ _ st' (Nat.le_refl _) fun b hb o e => same b o (fun z => out (z ▸ hb)) e) (fun b o e => same b o (fun z => Nat.lt_irrefl _ (z ▸ s0 b o e)) (kep' b o e)) ?_ (fun z => ?_) (fun z => ?_) ea2 (Heap.get?_update_self _ hS2 rfl) fun s'' t'' k'' mv2 kep2 g2 same2 new2 => ?_⟩))
    · exact (Heap.get?_update_other _ _ (Nat.ne_of_lt Sl)).trans ((Heap.get?_update_other _ _ (Nat.ne_of_lt Sl)).trans (Heap.get?_push_size _ rfl))
    · exact Nat.lt_irrefl _ (Nat.lt_trans (ahead _ (W.sub _ z)) Sl)
    · rw [z] at Sl; exact Nat.lt_irrefl _ Sl
    · refine fin s'' t'' k'' (Moved.trans W.gtrans ((mv.mono more).then_heap (Nat.le_refl _) fun b o hb e => same b o (fun z => hb (z ▸ .head _)) e) mv2) kep2 g2 (fun z => absurd z (Nat.ne_of_lt lt)) fun _ => ?_
      rcases Nat.lt_or_ge (i + 1) n with z | z
      · exact new2 z
      · rw [same2 (Nat.le_antisymm lt z)]; exact Sl
/-- sum(xs, []), xs a list of lists, one at least -/
theorem call_sum_lists {l l0 : Addr} {k0 k1 : Nat} {ls : LL} {Q : Value → Shared → Prop} (hh : A.handled = none) (h1 : s.heap.get? l = some (lob (ls.map fun p => Value.ref p.1) k1)) (hl : ∀ p ∈ ls, s.heap.get? p.1 = some (lob p.2.1 p.2.2)) (h2 : s.heap.get? l0 = some (lob [] k0)) (ne : 0 < ls.length)
    (big : (ls.map fun p => p.2.1.length).sum ≤ sizeLine)
    (q : ∀ h' tk t k, (∀ b o, s.heap.get? b = some o → h'.get? b = some o) → s.heap.objs.size ≤ t → h'.get? t = some (lob (ls.map fun p => p.2.1).flatten k) → Q (.ref t) { s with heap := h', toks := tk }) :
    wpAny (model P w) A (call (.builtin "sum") [.ref l, .ref l0]) Q E s := by
  refine call_function_tree F.kind_sum F.plain_sum F.entry_sum (args_sum2 _ _) ?_
  unfold Builtin.«sum»
  simp only [List.length_cons, List.length_nil]
  rw [if_neg (by decide)]
  refine wpAny_bind (wpAny_of_eq (show Builtin.Builtins.bindParams "sum" ["start"] 0 ⟨[.ref l0], []⟩ = pure [some (.ref l0)] from rfl) ?_)
  have hl1 : s.heap.IsList l (ls.map fun p => Value.ref p.1).toArray := ⟨_, h1, rfl, k1, rfl⟩
  refine wpAny_bind (PySem.W.iter_listW (A := A.in1) hh hl1 fun s₂ e W st hfp hw hk => ?_)
  refine wpAny_bind (wpAny_pure ?_)
  have ty : s₂.TypeIs (.ref l0) "list" := ⟨_, hk _ _ h2, rfl⟩
  simp only [List.forIn_cons, List.forIn_nil]
  refine wpAny_bind (wpAny_bind (wpAny_bind (wpAny_isInstance (T := "list") (b := false) ty F.sub_list_str ?_)))
  simp only [Bool.false_eq_true, if_false]
  refine wpAny_pure (wpAny_bind (wpAny_bind (wpAny_isInstance (T := "list") (b := false) ty F.sub_list_bytes ?_)))
  simp only [Bool.false_eq_true, if_false]
  refine wpAny_pure (wpAny_bind (wpAny_bind (wpAny_isInstance (T := "list") (b := false) ty F.sub_list_bytearray ?_)))
  simp only [Bool.false_eq_true, if_false]
  refine wpAny_pure (wpAny_pure ?_)
  refine wpAny_bind (wpAny_newObj_type ?_)
  have sl : l0 < s₂.heap.objs.size := Heap.lt_size (hk _ _ h2)
  refine wpAny_pure ⟨plainId_quiet F.plain_sum_loop _, cat_loop W s₂.heap.objs.size (fun b hb => hfp b hb) s.heap (fun b o e => Heap.lt_size (hk b o e)) (fun b hb => ?_) ls (by simp) (fun i v pv => ?_) hl big _ 0 _ l0 [] k0 _ rfl (Nat.zero_le _) (W.frame 0 s₂ _ _ st (Nat.le_refl _) fun b _ o e => Heap.get?_push_of_some _ e)
    (fun b o e => Heap.get?_push_of_some _ (hk b o e)) (Heap.get?_push_of_some _ (hk _ _ h2)) (hw _ _ h2) (Nat.ne_of_lt sl) rfl (Heap.get?_push_size _ rfl) fun s' t' k' mv kp g _ new => ?_⟩
  · cases e2 : s.heap.get? b with
    | none => rfl
    | some o => exact absurd hb (hw b o e2)
  · have e2 : (ls.map fun p => Value.ref p.1)[i]? = some v := by simpa using pv
    rw [List.getElem?_map] at e2
    obtain ⟨p, hp, rfl⟩ := Option.map_eq_some_iff.mp e2
    exact ⟨p, hp, rfl⟩
  · have hn := new (by simpa using ne)
    have le : s.heap.objs.size ≤ s₂.heap.objs.size := by subst e; show _ ≤ (s.heap.push _).objs.size; rw [Heap.size_push]; exact Nat.le_succ _
    obtain ⟨hp, g', d', tk, os⟩ := s'
    obtain rfl : g' = s.gens := (show g' = s₂.gens from mv.gens).trans (by subst e; rfl)
    obtain rfl : d' = s.drawn := (show d' = s₂.drawn from mv.drawn).trans (by subst e; rfl)
    obtain rfl : os = s.os := (show os = s₂.os from mv.os).trans (by subst e; rfl)
    exact q hp tk t' k' kp (Nat.le_of_lt (Nat.lt_of_le_of_lt le hn)) g
end
section
variable {X : Cx}
/-- sum(ints), sum(lists, []) -/
def bSums : List D → OV
  | [d] => bSum d
  | [.list ds, .list []] => (match asLists ds with
    | some bs => if 0 < bs.length ∧ (bs.map List.length).sum ≤ 1000000 then .f (.list bs.flatten) else .no
    | none => .no)
  | _ => .no
theorem lists_at {pins : List (Addr × Obj)} {σ : L2.St} {Hi H : Hp} {s : Shared} (I : Inv X pins σ H s) (sub : Same Hi H) : ∀ {xs : List V} {vs : List Value} {bs : List (List D)}, Vals xs vs → Rps X.K Hi xs (bs.map .list) →
    ∃ ls : LL, vs = ls.map (fun p => Value.ref p.1) ∧ (∀ p ∈ ls, s.heap.get? p.1 = some (lob p.2.1 p.2.2)) ∧ ls.map (fun p => p.2.1.length) = bs.map List.length ∧ ∃ ys, Vals ys (ls.map fun p => p.2.1).flatten ∧ Rps X.K Hi ys bs.flatten
  | _, _, [], .nil, .nil => ⟨[], rfl, nofun, rfl, [], .nil, .nil⟩
  | _, _, b :: bs, .cons rv tv, .cons h t => by
    obtain ⟨ls, e1, e2, e3, ys, e4, e5⟩ := lists_at I sub tv t
    cases h with
    | lst hx rs =>
      cases rv
      obtain ⟨z, its, n, r, el, g⟩ := I.lstM (sub _ _ hx)
      refine ⟨(_, its, n) :: ls, by rw [List.map_cons, e1], fun p hp => ?_, by rw [List.map_cons, List.map_cons, e3, ← el, rs.length], _, by rw [List.map_cons, List.flatten_cons]; exact r.append e4, by rw [List.flatten_cons]; exact rs.append e5⟩
      rcases List.mem_cons.mp hp with rfl | hp
      · exact g
      · exact e2 p hp
theorem call_sums (hc : X.calm = true) : CallD X (.builtin "sum") bSums := by
  intro Hi pins s σ H xs us Q I r ⟨sub, ds, os, q⟩
  unfold bSums at q
  split at q
  · exact call_sumD hc Hi pins s σ H xs us Q I r ⟨sub, _, os, q⟩
  · rename_i es
    obtain ⟨x, y, rfl, hx, hy⟩ := os.two
    obtain ⟨a, zs, rfl, ha, rs⟩ := hx.list_ sub
    obtain ⟨c, ws, rfl, hc2, rt⟩ := hy.list_ sub
    split at q
    case h_2 => exact OPost.no q
    rename_i bs hbs
    split at q
    case isFalse => exact OPost.no q
    rename_i ok
    have e := asLists_of hbs
    subst e
    cases rt
    obtain ⟨_, its, n, rv, _, g⟩ := I.lstM ha
    obtain ⟨_, its0, n0, rv0, _, g0⟩ := I.lstM hc2
    cases rv0
    obtain ⟨ls, e1, e2, e3, ys, e4, e5⟩ := lists_at I sub rv rs
    subst e1
    have el : ls.length = bs.length := by have := congrArg List.length e3; simpa using this
    cases r with
    | cons r1 r2 => cases r2 with
      | cons r2 r3 =>
        cases r3; cases r1; cases r2
        refine call_sum_lists (I.ok.hd hc) g e2 g0 (by omega) (by rw [e3, sizeLine_eq]; omega) fun h' tk t k kp le gt => ?_
        have hn : H t = none := I.hok.fresh le
        have zl : ys.length ≤ sizeLine := by
          rw [e5.length, List.length_flatten, sizeLine_eq]; omega
        exact ⟨.ref t, upd H t (.lst ys), I.laid (t' := tk) kp le ⟨zl, _, k, e4, gt⟩, rfl, q.newL sub hn e5⟩
  · exact OPost.no q
/-! ### the least, the greatest of texts -/
def bMinA : List D → OV
  | [.list ds] => (match asStrs ds with
    | some (x :: xs) => .v (.str (minT x xs))
    | _ => bMin [.list ds])
  | as => bMin as
theorem strs_reads {pins : List (Addr × Obj)} {σ : L2.St} {Hi H : Hp} {s : Shared} (I : Inv X pins σ H s) (sub : Same Hi H) {xs : List V} {vs : List Value} {bs : List Str} (rv : Vals xs vs) (rs : Rps X.K Hi xs (bs.map .str)) : ∃ as, ReadsAll s.heap vs (bs.map .str) as := by
  refine PySem.W.each_readsAll .str ?_
  induction bs generalizing xs vs with
  | nil => cases rs; cases rv; exact .nil
  | cons b bs ih =>
    cases rs with
    | cons h t => cases rv with
      | cons r1 r2 => exact .cons ((h.mono sub).rdn I r1).reads (ih r2 t)
theorem call_minA (hc : X.calm = true) (hu : X.A.units + 65 < cLine) : CallD X (.builtin "min") bMinA := by
  intro Hi pins s σ H xs us Q I r ⟨sub, ds, os, q⟩
  unfold bMinA at q
  split at q
  · rename_i es
    split at q
    · rename_i x0 xs0 hx
      obtain ⟨x, rfl, hx1⟩ := os.one
      obtain ⟨a, zs, rfl, ha, rs⟩ := hx1.list_ sub
      have e := asStrs_of hx
      subst e
      obtain ⟨its, rv, pl, hz⟩ := I.list (SqL.of ha)
      obtain ⟨as, ra⟩ := strs_reads I sub rv rs
      rw [Vals.ref1 r]
      have al : PySem.W.AlikeAll (PyData.str x0 :: xs0.map .str) := by
        have st : ∀ d ∈ (PyData.str x0 :: xs0.map .str), ∃ y, d = .str y := fun d hd => by
          rcases List.mem_cons.mp hd with rfl | hd
          · exact ⟨_, rfl⟩
          · obtain ⟨y, _, rfl⟩ := List.mem_map.mp hd; exact ⟨y, rfl⟩
        refine ⟨fun d hd e he => ?_, fun d hd => ?_⟩
        · obtain ⟨y, rfl⟩ := st d hd
          obtain ⟨z, rfl⟩ := st e he
          rw [PySem.W.alike]
        · obtain ⟨y, rfl⟩ := st d hd
          exact nofun
      have dp : PyData.depthAll (PyData.str x0 :: xs0.map .str) = 0 := by
        rw [PyData.depthAll, PyData.depth]
        have : ∀ l : List Str, PyData.depthAll (l.map .str) = 0 := by
          intro l
          induction l with
          | nil => rw [List.map_nil, PyData.depthAll]
          | cons y l ih => rw [List.map_cons, PyData.depthAll, PyData.depth, ih]; rfl
        rw [this]; rfl
      refine PySem.W.min_list_data (I.ok.hd hc) pl.isList (by simpa using ra) al (by rw [dp]; omega) fun i v h' tk bs _ rd kp => ?_
      rw [minT_D] at rd
      have I1 : Inv X pins σ H { s with heap := h', toks := tk } := I.kept kp
      cases rd with
      | str => exact ⟨.str _, H, I1, ⟨_, rfl⟩, q.leaf sub (.str _)⟩
    · exact call_minD hc Hi pins s σ H xs us Q I r ⟨sub, _, os, q⟩
  · exact call_minD hc Hi pins s σ H xs us Q I r ⟨sub, _, os, q⟩
end
end Wk

/-! Wk7e: walks by enumerate(list), zip(a, b) of two lists or two tuples. -/
namespace Wk
open PySem PySem.Spec PyProof.Rows L2
variable [Ctx]
def enumD : Nat → List D → List D
  | _, [] => []
  | k, d :: r => .tuple [.int (k : Nat), d] :: enumD (k + 1) r
def zipD : List D → List D → List D
  | a :: r, b :: s => .tuple [a, b] :: zipD r s
  | _, _ => []
theorem enumD_len : ∀ (k : Nat) (ds : List D), (enumD k ds).length = ds.length
  | _, [] => rfl
  | k, d :: r => congrArg (· + 1) (enumD_len (k + 1) r)
theorem enumD_get : ∀ (k : Nat) (ds : List D) (i : Nat), (enumD k ds)[i]? = (ds[i]?).map fun d => .tuple [.int ((k + i : Nat) : Int), d]
  | _, [], i => by simp [enumD]
  | k, d :: r, 0 => by simp [enumD]
  | k, d :: r, i + 1 => by
    rw [enumD, List.getElem?_cons_succ, enumD_get (k + 1) r i, List.getElem?_cons_succ]
    congr 1
    funext x
    rw [show k + 1 + i = k + (i + 1) by omega]
theorem zipD_len : ∀ (a b : List D), (zipD a b).length = min a.length b.length
  | a :: r, b :: s => by rw [zipD, List.length_cons, zipD_len r s, List.length_cons, List.length_cons]; omega
  | [], _ => by simp [zipD]
  | _ :: _, [] => by simp [zipD]
theorem zipD_get : ∀ (a b : List D) (i : Nat) (d : D), (zipD a b)[i]? = some d → ∃ x y, a[i]? = some x ∧ b[i]? = some y ∧ d = .tuple [x, y]
  | a :: r, b :: s, 0, d, h => by cases h; exact ⟨a, b, rfl, rfl, rfl⟩
  | a :: r, b :: s, i + 1, d, h => by
    rw [zipD, List.getElem?_cons_succ] at h
    exact zipD_get r s i d h
  | [], _, i, d, h => by simp [zipD] at h
  | _ :: _, [], i, d, h => by simp [zipD] at h
section
variable {X : Cx}
theorem walks_enum {K : PySem.W.Frag} {Hi : Hp} {a : Addr} {xs : List V} {ds : List D} (hq : SqL K Hi a xs) (rs : Rps K Hi xs ds) (hz : ds.length ≤ sizeLine) : Walks K Hi (Ite K a) (enumD 0 ds) := by
  refine ⟨by rw [enumD_len]; exact hz, fun Hi' H' i s1 s2 hi => ?_, fun Hi' H' i s1 s2 hi => ?_, fun Hi' H' i d x H3 s1 s2 hd hy => ?_⟩
  · rw [enumD_len, ← rs.length] at hi
    exact ⟨xs, xs[i], sqL_mono (s1.trans s2) hq, List.getElem?_eq_getElem hi⟩
  · rw [enumD_len, ← rs.length] at hi
    exact ⟨xs, sqL_mono (s1.trans s2) hq, hi⟩
  · obtain ⟨T, x0, rfl, hT, rfl, hx⟩ := hy
    have hx := hx xs (sqL_mono (s1.trans s2) hq)
    rw [enumD_get, Nat.zero_add] at hd
    obtain ⟨d0, hd0, rfl⟩ := Option.map_eq_some_iff.mp hd
    obtain ⟨w, h1, h2⟩ := rs.get hd0
    rw [hx] at h1
    cases h1
    have g := Gr.new (o := .tup [.int (i : Nat), x0]) s2 hT
    exact ⟨_, g, .tup (.inl (.inl upd_same)) (.cons (.int _) (.cons ((h2.mono s1).mono g.i) .nil))⟩
def mEnum (ma : ME) : MI := fun ρ => (ma ρ).bind fun p => match p.2.freeze p.1 with
  | some (.list ds, ρ1) => if ds.length ≤ sizeLine then .ret (enumD 0 ds, ρ1) else .fail
  | _ => .fail
theorem sndI_enum {a : Expr} {ma : ME} {p pos tpos : Pos} {elts : List Expr} {kk : Nat} (hg : Gl X "enumerate") (hm : X.mg "enumerate" = none) (ha : Snd X a ma) (hs : starEach [a] X.env = (false, eval a X.env) :: starEach [] X.env) : SndI X (.Tuple elts kk tpos) (.Call (.Name "enumerate" p) [a] [] pos) (mEnum ma) := .of fun e b as Hi ρ σ H R S h => by
  refine fun pins s I => (pi_enum hg hm (pa_cons (pe_tE X a) pa_nil hs) hs).run pins s σ H R I ?_
  refine ha e b as Hi ρ σ H _ S ((T.all_bind.mp h).mono fun b1 p _ h1 v H1 Hi1 as1 x1 S1 r1 => ?_)
  split at h1
  · rename_i ds ρ1 hd
    split at h1
    case isFalse => exact h1.elim
    rename_i hz
    obtain ⟨Hi2, x2, S2, rp⟩ := S1.frz r1 hd
    cases rp with
    | lst hx rs =>
      have hq : SqL X.K Hi2 _ _ := SqL.of hx
      exact ⟨_, _, rfl, sqL_mono S2.sub hq, h1 _ H1 Hi2 as1 (x1.trans x2) S2 (walks_enum hq rs hz)⟩
  · exact h1.elim
theorem walks_zipL {K : PySem.W.Frag} {Hi : Hp} {a b : Addr} {xs ys : List V} {ds es : List D} (hx : SqL K Hi a xs) (hy : SqL K Hi b ys) (rs : Rps K Hi xs ds) (rt : Rps K Hi ys es) (hz : ds.length ≤ sizeLine) : Walks K Hi (Itz K a b) (zipD ds es) := by
  refine ⟨by rw [zipD_len]; omega, fun Hi' H' i s1 s2 hi => ?_, fun Hi' H' i s1 s2 hi => ?_, fun Hi' H' i d x H3 s1 s2 hd hy' => ?_⟩
  · rw [zipD_len, ← rs.length, ← rt.length] at hi
    exact ⟨xs, ys, _, _, sqL_mono (s1.trans s2) hx, sqL_mono (s1.trans s2) hy, List.getElem?_eq_getElem (by omega), List.getElem?_eq_getElem (by omega)⟩
  · rw [zipD_len, ← rs.length, ← rt.length] at hi
    exact ⟨xs, ys, sqL_mono (s1.trans s2) hx, sqL_mono (s1.trans s2) hy, by omega⟩
  · obtain ⟨T, x0, y0, rfl, hT, rfl, qx, qy⟩ := hy'
    have qx := qx xs (sqL_mono (s1.trans s2) hx)
    have qy := qy ys (sqL_mono (s1.trans s2) hy)
    obtain ⟨dx, dy, h1, h2, rfl⟩ := zipD_get _ _ _ _ hd
    obtain ⟨w1, e1, r1⟩ := rs.get h1
    obtain ⟨w2, e2, r2⟩ := rt.get h2
    rw [qx] at e1
    rw [qy] at e2
    cases e1; cases e2
    have g := Gr.new (o := .tup [x0, y0]) s2 hT
    exact ⟨_, g, .tup (.inl (.inl upd_same)) (.cons ((r1.mono s1).mono g.i) (.cons ((r2.mono s1).mono g.i) .nil))⟩
theorem walks_zipT {K : PySem.W.Frag} {Hi : Hp} {a b : Addr} {xs ys : List V} {ds es : List D} (hx : SqT K Hi a xs) (hy : SqT K Hi b ys) (rs : Rps K Hi xs ds) (rt : Rps K Hi ys es) (hz : ds.length ≤ sizeLine) : Walks K Hi (RZ.ItzT K a b) (zipD ds es) := by
  refine ⟨by rw [zipD_len]; omega, fun Hi' H' i s1 s2 hi => ?_, fun Hi' H' i s1 s2 hi => ?_, fun Hi' H' i d x H3 s1 s2 hd hy' => ?_⟩
  · rw [zipD_len, ← rs.length, ← rt.length] at hi
    exact ⟨xs, ys, _, _, sqT_mono (s1.trans s2) hx, sqT_mono (s1.trans s2) hy, List.getElem?_eq_getElem (by omega), List.getElem?_eq_getElem (by omega)⟩
  · rw [zipD_len, ← rs.length, ← rt.length] at hi
    exact ⟨xs, ys, sqT_mono (s1.trans s2) hx, sqT_mono (s1.trans s2) hy, by omega⟩
  · obtain ⟨T, x0, y0, rfl, hT, rfl, qx, qy⟩ := hy'
    have qx := qx xs (sqT_mono (s1.trans s2) hx)
    have qy := qy ys (sqT_mono (s1.trans s2) hy)
    obtain ⟨dx, dy, h1, h2, rfl⟩ := zipD_get _ _ _ _ hd
    obtain ⟨w1, e1, r1⟩ := rs.get h1
    obtain ⟨w2, e2, r2⟩ := rt.get h2
    rw [qx] at e1
    rw [qy] at e2
    cases e1; cases e2
    have g := Gr.new (o := .tup [x0, y0]) s2 hT
    exact ⟨_, g, .tup (.inl (.inl upd_same)) (.cons ((r1.mono s1).mono g.i) (.cons ((r2.mono s1).mono g.i) .nil))⟩
def zipOf : D → D → Option (List D)
  | .list ds, .list es => if ds.length ≤ sizeLine then some (zipD ds es) else none
  | .tuple ds, .tuple es => if ds.length ≤ sizeLine then some (zipD ds es) else none
  | _, _ => none
def mZip (ma mc : ME) : MI := fun ρ => (ma ρ).bind fun p => (mc p.2).bind fun q => match q.2.freeze p.1 with
  | some (d1, ρ1) => (match ρ1.freeze q.1 with
    | some (d2, ρ2) => (match zipOf d1 d2 with
      | some ds => .ret (ds, ρ2)
      | none => .fail)
    | none => .fail)
  | none => .fail
theorem sndI_zip {a c : Expr} {ma mc : ME} {p pos tpos : Pos} {elts : List Expr} {kk : Nat} (hg : Gl X "zip") (hm : X.mg "zip" = none) (ha : Snd X a ma) (hc : Snd X c mc) (hs : starEach [a, c] X.env = (false, eval a X.env) :: starEach [c] X.env) (hs2 : starEach [c] X.env = (false, eval c X.env) :: starEach [] X.env) :
    SndI X (.Tuple elts kk tpos) (.Call (.Name "zip" p) [a, c] [] pos) (mZip ma mc) := .of fun e b as Hi ρ σ H R S h => by
  refine fun pins s I => (RZ.pi_zipA hg hm (pa_cons (pe_tE X a) (pa_cons (pe_tE X c) pa_nil hs2) hs) hs (by rw [hs2]; rfl)).run pins s σ H R I ?_
  refine ha e b as Hi ρ σ H _ S ((T.all_bind.mp h).mono fun b1 p _ h1 v H1 Hi1 as1 x1 S1 r1 => ?_)
  refine hc e b1 as1 Hi1 p.2 σ H1 _ S1 ((T.all_bind.mp h1).mono fun b2 q _ h2 u H2 Hi2 as2 x2 S2 r2 => ?_)
  split at h2
  case h_2 => exact h2.elim
  rename_i d1 ρ1 f1
  split at h2
  case h_2 => exact h2.elim
  rename_i d2 ρ2 f2
  split at h2
  case h_2 => exact h2.elim
  rename_i ds hzd
  obtain ⟨Hi3, x3, S3, p1⟩ := S2.frz (r1.mono x2) f1
  obtain ⟨Hi4, x4, S4, p2⟩ := S3.frz (r2.mono x3) f2
  have p1 := p1.mono x4.hi
  have x := ((x1.trans x2).trans x3).trans x4
  unfold zipOf at hzd
  split at hzd
  · split at hzd
    case isFalse => cases hzd
    rename_i hz
    cases hzd
    cases p1 with
    | lst hx rs =>
      cases p2 with
      | lst hy rt =>
        refine ⟨_, _, _, _, rfl, .inl ⟨sqL_mono S4.sub (SqL.of hx), sqL_mono S4.sub (SqL.of hy), h2 _ H2 Hi4 as2 x S4 (walks_zipL (SqL.of hx) (SqL.of hy) rs rt hz)⟩⟩
  · split at hzd
    case isFalse => cases hzd
    rename_i hz
    cases hzd
    cases p1 with
    | tup hx rs =>
      cases p2 with
      | tup hy rt =>
        refine ⟨_, _, _, _, rfl, .inr ⟨sqT_mono S4.sub hx, sqT_mono S4.sub hy, h2 _ H2 Hi4 as2 x S4 (walks_zipT hx hy rs rt hz)⟩⟩
  · cases hzd
end
end Wk

/-! Wk5o: a list of one's own is walked and stays one's own: each turn looks into the store. -/
namespace Wk
open PySem PySem.Spec PyProof.Rows L2
variable [Ctx]
def cLoopO (sl0 : List (Option Rv)) (g : Tg) (tt : MT) (el : ME) (k : Nat) : Nat → Nat → List D → En → T (List D × En)
  | 0, i, acc, ρ => (match ρ.st[k]? with
    | some (.list ds, _) => (match ds[i]? with
      | none => .ret (acc, ρ)
      | some _ => .fail)
    | _ => .fail)
  | n + 1, i, acc, ρ => (match ρ.st[k]? with
    | some (.list ds, _) => (match ds[i]? with
      | none => .ret (acc, ρ)
      | some d => (match g.set d { ρ with sl := sl0 } with
        | none => .fail
        | some ρ1 => (tt ρ1).bind fun p => if p.1 then (el p.2).bind fun q => (match q.2.freeze q.1 with
          | some (d', ρ2) => cLoopO sl0 g tt el k n (i + 1) (acc ++ [d']) ρ2
          | none => .fail) else cLoopO sl0 g tt el k n (i + 1) acc p.2))
    | _ => .fail)
def mCompO (own : List Nat) (g : Tg) (ma : ME) (tt : MT) (el : ME) : ME := fun ρ => (ma ρ).bind fun p => match p.1 with
  | .res k => (match p.2.st[k]? with
    | some (.list ds, _) => if ds.length ≤ 1000000 then (cLoopO (wipeS p.2.sl own) g tt el k ds.length 0 [] p.2).bind (cDone p.2.sl) else .fail
    | _ => .fail)
  | _ => .fail
section
variable {X : Cx} {tg ex : Expr}
theorem it_own {σ : L2.St} {H : Hp} {R : It → Hp → Prop} (h : EvOk X ex σ H fun x H1 => ∃ a xs, x = .ref a ∧ SqL X.K H1 a xs ∧ R (Itl X.K a) H1) : ItOk X tg ex σ H R := by
  intro pins s I
  refine thn (h pins s I) fun v s1 ⟨x, H1, I1, r1, a, xs, e, hq, q⟩ => ?_
  subst e
  cases r1
  obtain ⟨its, rv, p, hz⟩ := I1.list hq
  refine wpAny_pyIter_list p.isList ?_
  refine ⟨s1.heap.objs.size, [s1.heap.objs.size], _, _, H1, rfl, I1.kept (t' := s1.toks) fun b o e => Heap.get?_push_of_some _ e, turn_list a _, ⟨_, Heap.get?_push_size _ rfl, rfl, rfl⟩, fun b hb => ?_, q⟩
  have e : b = s1.heap.objs.size := by simpa using hb
  subst e
  exact I1.fpOk (Nat.le_refl _) (I1.hok.fresh (Nat.le_refl _))
theorem lc_postO {tg iter elt : Expr} {ifs : List Expr} {scope : Scope} {own : List Nat} {g : Tg} {ma : ME} {tt : MT} {el : ME} (hi : Snd X iter ma)
    (hg : ∀ s H C cl fp, SndG (blkAt X scope s H C cl fp) tg g) (ht : ∀ s H C cl fp, SndTs (blkAt X scope s H C cl fp) ifs tt) (he : ∀ s H C cl fp, Snd (blkAt X scope s H C cl fp) elt el) (hown : ∀ i ∈ g.slots, i ∈ own)
    {e : Ent} {b : Nat} {as : List Addr} {Hi : Hp} {ρ : En} {σ : L2.St} {H : Hp} {R : VK} (S : SO X.K e b as Hi ρ σ H) (h : (mCompO own g ma tt el ρ).All b (Post X.K e as Hi σ R)) :
    tLc (tI X tg iter) (tGb X scope tg) (tTb X scope ifs) (tEb X scope elt) own σ H R := by
  refine it_own (hi e b as Hi ρ σ H _ S ((T.all_bind.mp h).mono fun b1 p _ h1 v H1 Hi1 as1 x1 S1 r1 => ?_))
  obtain ⟨r, ρ1⟩ := p
  cases r with
  | res k =>
    simp only at h1
    split at h1
    · rename_i ds0 fl0 hk0
      have od := S1.opd r1 (d := .list ds0) (by show (ρ1.st[k]?).map (fun x => x.1) = _; rw [hk0]; rfl)
      obtain ⟨c, ys, rfl, hy, rs⟩ := od.list_ S1.sub
      refine ⟨c, ys, rfl, SqL.of hy, ?_⟩
      split at h1
      rotate_left
      · exact h1.elim
      rename_i hsz
      have h1 : (cLoopO (wipeS ρ1.sl own) g tt el k ds0.length 0 [] ρ1).All b1 (fun b' q => (cDone ρ1.sl q).All b' (Post X.K e as Hi σ R)) := T.all_bind.mp h1
      intro D hD
      obtain ⟨nD1, nD2, nD3, nD4⟩ := S1.new hD
      let INV : Nat → Nat → Hp → Prop := fun n i H => i + n = ds0.length ∧ ∃ b' as' Hi' ρ' acc accV, Ext Hi1 as1 Hi' as' ∧ SO X.K e b' as' Hi' { ρ' with sl := ρ1.sl } σ H ∧ Hi' D = none ∧ D ∉ as' ∧ H D = some (.lst accV) ∧ Rps X.K Hi' accV acc ∧ acc.length ≤ i ∧
        (cLoopO (wipeS ρ1.sl own) g tt el k n i acc ρ').All b' (fun b' q => (cDone ρ1.sl q).All b' (Post X.K e as Hi σ R))
      refine ⟨fun i m H => INV m i H, ⟨ds0.length, Nat.zero_add _, b1, as1, Hi1, ρ1, [], [], Ext.refl _ _, S1.beside nD4 nD2 nD3 nD1, nD4, nD2, upd_same, .nil, Nat.zero_le _, h1⟩, ?_⟩
      rintro i m H2 ⟨hm, b', as', Hi', ρ', acc, accV, x2, S2, d1, d2, d3, rac, hac, h2⟩
      have look : ∀ {ds1 : List PyData} {fl1 : Bool}, ρ'.st[k]? = some (.list ds1, fl1) → ∃ xs, SqL X.K H2 c xs ∧ Rps X.K Hi' xs ds1 := fun {ds1 fl1} hk => by
        have od := S2.opd (r1.mono x2) (d := .list ds1) (by show (ρ'.st[k]?).map (fun x => x.1) = _; rw [hk]; rfl)
        obtain ⟨c', xs, e, hx, rx⟩ := od.list_ S2.sub
        cases e
        exact ⟨xs, SqL.of hx, rx⟩
      have fin : ∀ {ds1 : List PyData} {fl1 : Bool}, ρ'.st[k]? = some (.list ds1, fl1) → ds1[i]? = none → (T.ret (acc, ρ') : T (List PyData × En)).All b' (fun b' q => (cDone ρ1.sl q).All b' (Post X.K e as Hi σ R)) → (Itl X.K c).stop i H2 ∧ R (.ref D) H2 := fun {ds1 fl1} hk hn h2 => by
        obtain ⟨xs, hx, rx⟩ := look hk
        refine ⟨⟨xs, hx, by rw [rx.length]; exact List.getElem?_eq_none_iff.mp hn⟩, ?_⟩
        have h3 : Post X.K e as Hi σ R b' (.res ρ'.st.length, En.alloc { ρ' with sl := ρ1.sl } (.list acc)) := h2
        refine h3 (.ref D) H2 Hi' (as' ++ [D]) ((x1.trans x2).trans ⟨Same.refl _, List.prefix_append _ _⟩) (S2.adopt d1 d2 nD3 nD1 (.lst d3 rac)) ⟨D, ?_, rfl⟩
        have e3 : ρ'.st.length = as'.length := S2.alen.symm
        show (as' ++ [D])[ρ'.st.length]? = some D
        rw [e3, List.getElem?_append_right (Nat.le_refl _), Nat.sub_self]
        rfl
      cases m with
      | zero =>
        simp only [cLoopO] at h2
        split at h2
        · rename_i ds1 fl1 hk
          split at h2
          · rename_i hn
            exact .inl (fin hk hn h2)
          · exact h2.elim
        · exact h2.elim
      | succ n =>
        simp only [cLoopO] at h2
        split at h2
        · rename_i ds1 fl1 hk
          split at h2
          · rename_i hn
            exact .inl (fin hk hn h2)
          · rename_i d hd
            obtain ⟨xs, hx, rx⟩ := look hk
            obtain ⟨w, hw, rw'⟩ := rx.get hd
            refine .inr ⟨⟨xs, w, hx, hw⟩, INV n (i + 1), fun H' q => ⟨n, Nat.lt_succ_self n, q⟩, fun x H3 hy => ?_⟩
            obtain ⟨rfl, hv⟩ := hy
            have e1 := (hv xs hx).symm.trans hw
            cases e1
            have S4 : SO X.K (entIn e as' Hi' H3) b' as' Hi' { ρ' with sl := wipeS ρ1.sl own } (wipe σ own) H3 := (S2.wiped own).into
            split at h2
            · exact h2.elim
            · rename_i ρ4 hset
              have again : ∀ {b5 as5 Hi5 ρ5 σ5 H5 accV' acc'}, SO X.K (entIn e as' Hi' H3) b5 as5 Hi5 ρ5 σ5 H5 → Ext Hi' as' Hi5 as5 → Rps X.K Hi5 accV' acc' → acc'.length ≤ i + 1 →
                  (cLoopO (wipeS ρ1.sl own) g tt el k n (i + 1) acc' ρ5).All b5 (fun b' q => (cDone ρ1.sl q).All b' (Post X.K e as Hi σ R)) → INV n (i + 1) (upd H5 D (.lst accV')) ∧ (accV' = accV → INV n (i + 1) H5) := by
                intro b5 as5 Hi5 ρ5 σ5 H5 accV' acc' S5 x5 rac' hl' h5
                have SB : SO X.K e b5 as5 Hi5 ρ5 σ5 H5 := S2.back S5
                have xx : Ext Hi1 as1 Hi5 as5 := x2.trans x5
                have SB2 : SO X.K e b5 as5 Hi5 { ρ5 with sl := ρ1.sl } σ H5 := SB.slots S1.len fun j r hj => by
                  obtain ⟨v, q1, q2⟩ := S1.slt j r hj
                  exact ⟨v, q1, q2.mono xx⟩
                have e1 : Hi5 D = none := by
                  cases q : Hi5 D with
                  | none => rfl
                  | some o =>
                    rcases S5.newi D o q with z | z | z
                    · have z : Hi' D = some o := z
                      rw [d1] at z; cases z
                    · have z : H3 D = none := z
                      rw [d3] at z; cases z
                    · exact absurd z d2
                have e2 : D ∉ as5 := fun z => by
                  rcases S5.wr D z with w | w
                  · have w : H3 D = none := w
                    rw [d3] at w; cases w
                  · exact d2 w
                refine ⟨⟨by omega, b5, as5, Hi5, ρ5, acc', accV', xx, SB2.beside e1 e2 nD3 nD1, e1, e2, upd_same, rac', hl', h5⟩, fun ee => ?_⟩
                subst ee
                exact ⟨by omega, b5, as5, Hi5, ρ5, acc', accV', xx, SB2, e1, e2, S5.same D _ d3 nD3 d2, rac', hl', h5⟩
              intro s0 H0 C0 cl0 fp0
              refine hg s0 H0 C0 cl0 fp0 _ b' as' Hi' _ ρ4 (wipe σ own) H3 w d _ S4 rw' hset fun σ5 S5 o5 => ?_
              refine ⟨by rw [o5 own hown, wipe_wipe σ own own fun _ z => z], fun s6 H6 C6 cl6 fp6 => ?_⟩
              refine ht s6 H6 C6 cl6 fp6 _ b' as' Hi' ρ4 σ5 H3 _ S5 ((T.all_bind.mp h2).mono fun b7 p7 _ h7 H7 Hi7 as7 x7 S7 => ?_)
              obtain ⟨kk, ρ7⟩ := p7
              cases kk with
              | false =>
                exact (again S7 x7 (rac.mono x7.hi) (by omega) h7).2 rfl
              | true =>
                intro s8 H8 C8 cl8 fp8
                have h7 : ((el ρ7).bind fun q => (match q.2.freeze q.1 with
                  | some (d', ρ2) => cLoopO (wipeS ρ1.sl own) g tt el k n (i + 1) (acc ++ [d']) ρ2
                  | none => .fail)).All b7 (fun b' q => (cDone ρ1.sl q).All b' (Post X.K e as Hi σ R)) := h7
                refine he s8 H8 C8 cl8 fp8 _ b7 as7 Hi7 ρ7 σ5 H7 _ S7 ((T.all_bind.mp h7).mono fun b9 p9 _ h9 y H9 Hi9 as9 x9 S9 r9 => ?_)
                split at h9
                · rename_i d' ρ10 hfr
                  obtain ⟨Hi10, x10, S10, r10⟩ := S9.frz r9 hfr
                  have xx := (x7.trans x9).trans x10
                  have rr : Rps X.K Hi10 (accV ++ [y]) (acc ++ [d']) := (rac.mono xx.hi).append (.cons r10 .nil)
                  have q := again S10 xx rr (by rw [List.length_append, List.length_singleton]; omega) h9
                  have hD9 : H9 D = some (.lst accV) := S10.same D _ d3 nD3 d2
                  refine ⟨accV, hD9, ?_, q.1⟩
                  rw [rac.length, sizeLine_eq]
                  omega
                · exact h9.elim
        · exact h2.elim
    · exact h1.elim
  | _ => exact h1.elim
theorem snd_compO {tg iter elt : Expr} {ifs : List Expr} {scope : Scope} {own : List (Str × Nat)} {g : Tg} {ma : ME} {tt : MT} {el : ME} {pos : Pos} (hc : X.calm = true) (hN : X.N.Nodup) (hi : Snd X iter ma) (ok : BlkOk X.N X.env.scope scope own)
    (hg : ∀ s H C cl fp, SndG (blkAt X scope s H C cl fp) tg g) (ht : ∀ s H C cl fp, SndTs (blkAt X scope s H C cl fp) ifs tt) (he : ∀ s H C cl fp, Snd (blkAt X scope s H C cl fp) elt el) (hown : ∀ i ∈ g.slots, i ∈ own.map (·.2))
    (hs : ∀ x, foldedSetIterable iter X.env x = pure x) : Snd X (.ListComp elt [⟨tg, iter, ifs, 0⟩] scope pos) (mCompO (own.map (·.2)) g ma tt el) := fun e b as Hi ρ σ H R S h =>
  .of (pe_lc hc hN (pi_tI tg iter) ok (fun s H C cl fp => ⟨fun pins s σ H v u Q I r q => q _ _ _ _ _ pins s u I r⟩) (fun s H C cl fp => ⟨fun pins s σ H Q I q => q _ _ _ _ _ pins s I⟩) (fun s H C cl fp => ⟨fun pins s σ H Q I q => q _ _ _ _ _ pins s I⟩) hs) (lc_postO hi hg ht he hown S h)
end
end Wk

/-! Wk6o: for over a list of one's own that stays one's own. -/
namespace Wk
open PySem PySem.Spec PyProof.Rows L2
variable [Ctx]
def fLoopO (g : Tg) (body : MS) (k : Nat) : Nat → Nat → En → T (Fl × En)
  | 0, i, ρ => (match ρ.st[k]? with
    | some (.list ds, _) => (match ds[i]? with
      | none => .ret (.nx, ρ)
      | some _ => .fail)
    | _ => .fail)
  | n + 1, i, ρ => (match ρ.st[k]? with
    | some (.list ds, _) => (match ds[i]? with
      | none => .ret (.nx, ρ)
      | some d => (match g.set d ρ with
        | none => .fail
        | some ρ1 => (body ρ1).bind fun p => match p.1 with
          | .nx => fLoopO g body k n (i + 1) p.2
          | .ct => fLoopO g body k n (i + 1) p.2
          | .bk => .ret (.nx, p.2)
          | .rt r => .ret (.rt r, p.2)))
    | _ => .fail)
/-- turns enough for lists that grow while they are walked -/
def sForO (x : Nat) (g : Tg) (ma : ME) (body : MS) : MS := fun ρ => (ma ρ).bind fun p => match p.1 with
  | .res k => (match p.2.st[k]? with
    | some (.list ds, _) => fLoopO g body k (ds.length + x) 0 p.2
    | _ => .fail)
  | _ => .fail
section
variable {X : Cx} {pos : Pos}
theorem snds_forO {tg iter : Expr} {bd : List Stmt} {g : Tg} {ma : ME} {m : MS} {n : Nat} (hp : PassesOwn (model X.prog X.w) X.A X.env X.xe) (hc : X.calm = true) (hi : Snd X iter ma) (hg : SndG X tg g) (hb : SndSs X bd m) (hs : ∀ x, foldedSetIterable iter X.env x = pure x) :
    SndS X (.For tg iter bd [] pos) (sForO n g ma m) := fun e b as Hi ρ σ H D S h => by
  refine .of (ps_for hp hc (pi_tI tg iter) (pg_tG tg) (pss_tSs X bd) hs) ?_
  refine it_own (hi e b as Hi ρ σ H _ S ((T.all_bind.mp h).mono fun b1 p _ h1 v H1 Hi1 as1 x1 S1 r1 => ?_))
  obtain ⟨r, ρ1⟩ := p
  cases r with
  | res k =>
    simp only at h1
    split at h1
    · rename_i ds0 fl0 hk0
      have od := S1.opd r1 (d := .list ds0) (by show (ρ1.st[k]?).map (fun x => x.1) = _; rw [hk0]; rfl)
      obtain ⟨c, ys, rfl, hy, rs⟩ := od.list_ S1.sub
      refine ⟨c, ys, rfl, SqL.of hy, ?_⟩
      let INV : Nat → Nat → L2.St → Hp → Prop := fun n i σ H => ∃ b' as' Hi' ρ', Ext Hi1 as1 Hi' as' ∧ SO X.K e b' as' Hi' ρ' σ H ∧ (fLoopO g m k n i ρ').All b' (PostS X.K e as Hi D)
      refine ⟨fun i m σ H => INV m i σ H, ⟨ds0.length + n, b1, as1, Hi1, ρ1, Ext.refl _ _, S1, h1⟩, ?_⟩
      rintro i m σ2 H2 ⟨b', as', Hi', ρ', x2, S2, h2⟩
      have look : ∀ {ds1 : List PyData} {fl1 : Bool}, ρ'.st[k]? = some (.list ds1, fl1) → ∃ xs, SqL X.K H2 c xs ∧ Rps X.K Hi' xs ds1 := fun {ds1 fl1} hk => by
        have od := S2.opd (r1.mono x2) (d := .list ds1) (by show (ρ'.st[k]?).map (fun x => x.1) = _; rw [hk]; rfl)
        obtain ⟨c', xs, e, hx, rx⟩ := od.list_ S2.sub
        cases e
        exact ⟨xs, SqL.of hx, rx⟩
      cases m with
      | zero =>
        simp only [fLoopO] at h2
        split at h2
        · rename_i ds1 fl1 hk
          split at h2
          · rename_i hn
            obtain ⟨xs, hx, rx⟩ := look hk
            exact .inl ⟨⟨xs, hx, by rw [rx.length]; exact List.getElem?_eq_none_iff.mp hn⟩, h2 σ2 H2 Hi' as' (x1.trans x2) S2⟩
          · exact h2.elim
        · exact h2.elim
      | succ j =>
        simp only [fLoopO] at h2
        split at h2
        · rename_i ds1 fl1 hk
          obtain ⟨xs, hx, rx⟩ := look hk
          split at h2
          · rename_i hn
            exact .inl ⟨⟨xs, hx, by rw [rx.length]; exact List.getElem?_eq_none_iff.mp hn⟩, h2 σ2 H2 Hi' as' (x1.trans x2) S2⟩
          · rename_i d hd
            obtain ⟨w, hw, rw'⟩ := rx.get hd
            refine .inr ⟨⟨xs, w, hx, hw⟩, INV j (i + 1), fun σ' H' q => ⟨j, Nat.lt_succ_self j, q⟩, fun x H3 hy => ?_⟩
            obtain ⟨rfl, hv⟩ := hy
            have e1 := (hv xs hx).symm.trans hw
            cases e1
            split at h2
            · exact h2.elim
            · rename_i ρ4 hset
              refine hg e b' as' Hi' ρ' ρ4 σ2 H3 w d _ S2 rw' hset fun σ5 S5 _ => ?_
              refine hb e b' as' Hi' ρ4 σ5 H3 _ S5 ((T.all_bind.mp h2).mono fun b6 p6 _ h6 σ6 H6 Hi6 as6 x6 S6 => ?_)
              have xx : Ext Hi1 as1 Hi6 as6 := x2.trans x6
              obtain ⟨f, ρ6⟩ := p6
              cases f with
              | nx => exact ⟨b6, as6, Hi6, ρ6, xx, S6, h6⟩
              | ct => exact ⟨b6, as6, Hi6, ρ6, xx, S6, h6⟩
              | bk => exact h6 σ6 H6 Hi6 as6 (x1.trans xx) S6
              | rt r => exact h6 σ6 H6 Hi6 as6 (x1.trans xx) S6
        · exact h2.elim
    · exact h1.elim
  | _ => exact h1.elim
theorem snds_setCompO {i : Nat} {y : Str} {py spos : Pos} {tg iter elt : Expr} {ifs : List Expr} {scope : Scope} {own : List (Str × Nat)} {g : Tg} {mi : ME} {tt : MT} {el : ME} (hc : X.calm = true) (hN : X.N.Nodup) (hy : X.N[i]? = some y) (hyl : X.env.scope.names.lookup y = some .local)
    (hsw : swapsWith (.ListComp elt [⟨tg, iter, ifs, 0⟩] scope pos) (some (.Name y py)) spos.line X.env = pure true) (hi : Snd X iter mi) (ok : BlkOk X.N X.env.scope scope own)
    (hg : ∀ s H C cl fp, SndG (blkAt X scope s H C cl fp) tg g) (ht : ∀ s H C cl fp, SndTs (blkAt X scope s H C cl fp) ifs tt) (he : ∀ s H C cl fp, Snd (blkAt X scope s H C cl fp) elt el) (hown : ∀ i ∈ g.slots, i ∈ own.map (·.2))
    (hs : ∀ x, foldedSetIterable iter X.env x = pure x) : SndS X (.Assign [.Name y py] (.ListComp elt [⟨tg, iter, ifs, 0⟩] scope pos) spos) (sSet i (mCompO (own.map (·.2)) g mi tt el)) := fun e b as Hi ρ σ H D S h =>
  .of (ps_setLc hc hN hy hyl hsw (pi_tI tg iter) ok (fun s H C cl fp => ⟨fun pins s σ H v u Q I r q => q _ _ _ _ _ pins s u I r⟩) (fun s H C cl fp => ⟨fun pins s σ H Q I q => q _ _ _ _ _ pins s I⟩) (fun s H C cl fp => ⟨fun pins s σ H Q I q => q _ _ _ _ _ pins s I⟩) hs)
    (lc_postO hi hg ht he hown S ((T.all_bind.mp h).mono fun b1 p _ q => set_post q))
end
end Wk

/-! Wk6p: a pen made in the midst of the law, of the script turned. -/
namespace Wk
open PySem PySem.Spec PyProof.Rows L2
variable [Ctx]
def spPen (K : PySem.W.Frag) : Sp := fun vs H Q _ => ∃ (a : Addr) (ns : List Int), vs = [.ref a] ∧ SqL K H a (ns.map V.int) ∧ ∀ H' p c ms, Same H H' → H p = none → H c = none → p ≠ c → H' c = some (.lst ((ms : List Int).map V.int)) → H' p = some (.dK [(kCells, .ref c), (kAt, .int 0), (kLeft, .int 0)]) → Q (.ref p) H'
def unpen : Option Rv → Option Rv
  | some .pen => none
  | r => r
/-- no slot has a pen any more -/
def En.wipeP (ρ : En) : En := { ρ with sl := ρ.sl.map unpen }
abbrev entP (as : List Addr) (Hi H : Hp) (p : Addr) : Ent := ⟨Hi, H, some p, as⟩
theorem unpen_get {sl : List (Option Rv)} {i : Nat} {r : Rv} (h : (sl.map unpen)[i]? = some (some r)) : sl[i]? = some (some r) ∧ r ≠ .pen := by
  rw [List.getElem?_map] at h
  obtain ⟨r0, h0, e0⟩ := Option.map_eq_some_iff.mp h
  cases r0 with
  | none => cases e0
  | some r1 =>
    cases r1 with
    | pen => cases e0
    | _ => cases e0; exact ⟨h0, nofun⟩
section
variable {K : PySem.W.Frag} {e e' : Ent} {b b' : Nat} {as as' : List Addr} {Hi Hi' H H' : Hp} {ρ ρ' : En} {σ σ' : L2.St}
theorem RvOk.np {v : V} {r : Rv} (h : RvOk K e Hi as v r) (n : r ≠ .pen) : RvOk K e' Hi as v r := by
  cases r with
  | pen => exact absurd rfl n
  | _ => exact h
/-- the heap has got more things -/
theorem SO.heap (S : SO K e b as Hi ρ σ H) (s : Same H H') : SO K e b as Hi ρ σ H' :=
  ⟨S.sub.trans s, S.len, S.slt, S.alen, fun k x a hx ha => (S.res k x a hx ha).mono (Same.refl _) (fun o q => s _ _ q) (fun z => z), S.nd, S.wr, S.pre, fun p hp => let ⟨x, y, z⟩ := S.penok p hp; ⟨x.mono (Same.refl _) (fun o q => s _ _ q) (Nat.le_refl _), y, z⟩, S.old, fun a o h1 h2 h3 => s _ _ (S.same a o h1 h2 h3), S.newi, S.bud⟩
theorem SO.penIn (S : SO K e b as Hi ρ σ H) {p c : Addr} {ms : List Int} (hp : Hi p = none) (hpa : p ∉ as) (h1 : H p = some (.dK [(kCells, .ref c), (kAt, .int 0), (kLeft, .int 0)])) (h2 : Hi c = some (.lst (ms.map V.int))) :
    SO K (entP as Hi H p) b as Hi ρ.wipeP σ H := by
  refine ⟨S.sub, by show (ρ.sl.map unpen).length = _; rw [List.length_map]; exact S.len, fun i r h => ?_, S.alen, S.res, S.nd, fun a ha => .inr ha, List.prefix_refl _, fun q hq => ?_, Same.refl _, fun a o h _ _ => h, fun a o h => .inl h, S.bud⟩
  · obtain ⟨h0, n⟩ := unpen_get h
    obtain ⟨v, q1, q2⟩ := S.slt i r h0
    exact ⟨v, q1, q2.np n⟩
  · cases hq
    exact ⟨⟨c, ms, 0, 0, h1, h2, Int.le_refl 0, by have := S.bud; omega, Int.le_refl 0⟩, hp, hpa⟩
theorem SO.penOut (S : SO K e b as Hi ρ σ H) {p : Addr} (he : e.H p = none) (hne : e.pp ≠ some p) (hb : b' ≤ b) (S' : SO K (entP as Hi H p) b' as' Hi' ρ' σ' H') : SO K e b' as' Hi' ρ'.wipeP σ' H' := by
  have old : ∀ a, e.pp = some a → (∃ o, H a = some o) ∧ a ∉ as ∧ a ≠ p := fun a q => by
    obtain ⟨⟨c, ns, k, l, h1, _⟩, y, z⟩ := S.penok a q
    exact ⟨⟨_, h1⟩, z, fun w => hne (w ▸ q)⟩
  refine ⟨S'.sub, by show (ρ'.sl.map unpen).length = _; rw [List.length_map]; exact S'.len, fun i r h => ?_, S'.alen, S'.res, S'.nd, fun a ha => ?_, S.pre.trans S'.pre, fun q hq => ?_, S.old.trans S'.old, fun a o h1 h2 h3 => ?_, fun a o h => ?_, S'.bud⟩
  · obtain ⟨h0, n⟩ := unpen_get h
    obtain ⟨v, q1, q2⟩ := S'.slt i r h0
    exact ⟨v, q1, q2.np n⟩
  · rcases S'.wr a ha with z | z
    · exact .inl (S.new z).1
    · exact S.wr a z
  · obtain ⟨⟨o, ho⟩, na, np⟩ := old q hq
    obtain ⟨x, y, z⟩ := S.penok q hq
    refine ⟨x.mono S'.old (fun o w => S'.same q o w (fun t => np (Option.some.inj t).symm) na) hb, ?_, fun w => ?_⟩
    · cases w : Hi' q with
      | none => rfl
      | some o' =>
        rcases S'.newi q o' w with t | t | t
        · have t : Hi q = some o' := t
          rw [y] at t; cases t
        · have t : H q = none := t
          rw [ho] at t; cases t
        · exact absurd t na
    · rcases S'.wr q w with t | t
      · have t : H q = none := t
        rw [ho] at t; cases t
      · exact na t
  · have hH := S.same a o h1 h2 h3
    refine S'.same a o hH (fun t => ?_) fun z => ?_
    · have t : some p = some a := t
      cases t
      rw [h1] at he; cases he
    · rcases S.wr a z with w | w
      · rw [h1] at w; cases w
      · exact h3 w
  · rcases S'.newi a o h with z | z | z
    · exact S.newi a o z
    · exact .inr (.inl (S.new z).1)
    · exact .inr (S.wr a z)
end
/-- p = _law_pen(script[k:] + script[:k]), then the rest -/
def sPenL (i k : Nat) (m : MS) : MS := fun ρ => match ρ.sl[0]?, ρ.sl[k]? with
  | some (some Rv.scr), some (some (Rv.val (.int _))) => (m (ρ.wipeP.set i .pen)).bind fun p => match p.1 with
    | .rt .pen => .fail
    | f => .ret (f, p.2.wipeP)
  | _, _ => .fail
section
variable {X : Cx}
theorem snds_penL {y px sx kx : Str} {i k : Nat} {fP : Addr} {fdP : FuncData} {rest : List Stmt} {m : MS} {p1 p2 p3 p4 p5 p6 p7 p8 p9 p10 p11 p12 p13 : Pos} (hN : X.N.Nodup) (hi : X.N[i]? = some y) (hy : Loc X.env.scope y) (hf : X.fn y = true ∨ X.env.scope.names.lookup y = some .local)
    (h0 : X.N[0]? = some sx) (hs : Vis X.env.scope sx) (hd : (sx == ("__debug__" : Str)) = false) (hcd : (sx == ("__classdict__" : Str)) = false)
    (hk : X.N[k]? = some kx) (hkv : Vis X.env.scope kx) (hkd : (kx == ("__debug__" : Str)) = false) (hkcd : (kx == ("__classdict__" : Str)) = false)
    (GP : FnG X.prog X.w X.K X.mg X.base 1 fP fdP ["_law_script"] (spPen X.K)) (gd : X.A.guards = some []) (hroom : Room 1 X.A) (hg : Gl X px) (gP : X.mg px = some (.ref fP)) (kP : PySem.W.keepIn X.K (.ref fP) = true) (bP : Binds X.K fdP ["_law_script"] []) (hdb : (px == ("__debug__" : Str)) = false)
    (hm : SndSs X rest m) :
    SndSs X (.Assign [.Name y p1] (.Call (.Name px p2) [.BinOp (.Subscript (.Name sx p3) (.Slice (some (.Name kx p4)) none none p5) p6) .Add (.Subscript (.Name sx p7) (.Slice none (some (.Name kx p8)) none p9) p10) p11] [] p12) p13 :: rest) (sPenL i k m) := fun e b as Hi ρ σ H D S h => by
  unfold sPenL at h
  split at h
  · rename_i kk z0 zk
    obtain ⟨v0, s0, r0⟩ := S.slt 0 _ z0
    obtain ⟨vk, sk, rk⟩ := S.slt k _ zk
    obtain ⟨a, ns, rfl, hS, hlen⟩ := r0
    have rk : Rp X.K Hi vk (.int kk) := rk
    cases rk
    refine .of (pss_cons (ps_set hN hi hy (pe_callG GP gd hroom hg gP kP bP (pa_cons (pe_op op_cat (pe_slice sl_list (pe_var h0 hs hd hcd) (po_some (pe_var hk hkv hkd hkcd)) po_none) (pe_slice sl_list (pe_var h0 hs hd hcd) po_none (po_some (pe_var hk hkv hkd hkcd)))) pa_nil) hdb rfl rfl) rfl hf) (pss_tSs X rest)) ?_
    have hSH : SqL X.K H a (ns.map V.int) := sqL_mono S.sub hS
    refine ⟨.ref a, s0, .int kk, sk, kk, rfl, a, ns.map V.int, rfl, hSH, fun q1 hq1 => ?_⟩
    have m1 := (Gr.new (Hi := H) (o := .lst (cutV (ns.map V.int) (some kk) none)) (Same.refl H) hq1).h
    refine ⟨.ref a, s0, .int kk, sk, kk, rfl, a, ns.map V.int, rfl, sqL_mono m1 hSH, fun q2 hq2 => ?_⟩
    have m2 := (Gr.new (Hi := upd H q1 (.lst (cutV (ns.map V.int) (some kk) none))) (o := .lst (cutV (ns.map V.int) none (some kk))) (Same.refl _) hq2).h
    have l1 : q1 ≠ q2 := ne_of_none upd_same hq2
    refine ⟨q1, q2, _, _, rfl, rfl, by rw [upd_ne l1]; exact upd_same, upd_same, ?_, fun q3 hq3 => ?_⟩
    · have c1 : ∀ (xs : List V) (lo hi : Option Int), (cutV xs lo hi).length ≤ xs.length := fun xs lo hi => by
        unfold cutV
        rw [List.length_take, List.length_drop]; omega
      have := c1 (ns.map V.int) (some kk) none
      have := c1 (ns.map V.int) none (some kk)
      rw [List.length_map] at *
      rw [sizeLine_eq]; omega
    have m3 := (Gr.new (Hi := upd (upd H q1 (.lst (cutV (ns.map V.int) (some kk) none))) q2 (.lst (cutV (ns.map V.int) none (some kk)))) (o := .lst (cutV (ns.map V.int) (some kk) none ++ cutV (ns.map V.int) none (some kk))) (Same.refl _) hq3).h
    have em : ∃ ms : List Int, cutV (ns.map V.int) (some kk) none ++ cutV (ns.map V.int) none (some kk) = ms.map V.int := by
      refine ⟨((ns.drop (HT.sIx ns.length 0 (some kk))).take (HT.sIx ns.length ns.length none - HT.sIx ns.length 0 (some kk))) ++ ((ns.drop (HT.sIx ns.length 0 none)).take (HT.sIx ns.length ns.length (some kk) - HT.sIx ns.length 0 none)), ?_⟩
      unfold cutV
      rw [List.length_map, List.map_append, List.map_take, List.map_drop, List.map_take, List.map_drop]
    obtain ⟨ms, em⟩ := em
    rw [em] at m3 ⊢
    refine ⟨q3, ms, rfl, SqL.of upd_same, fun H' p c ms' sH hp hc hpc hc' hp' => ?_⟩
    have mm : Same H H' := ((m1.trans m2).trans m3).trans sH
    have nH : ∀ {x : Addr}, (upd (upd (upd H q1 (.lst (cutV (ns.map V.int) (some kk) none))) q2 (.lst (cutV (ns.map V.int) none (some kk)))) q3 (.lst (ms.map V.int))) x = none → H x = none := fun z => ((m1.trans m2).trans m3).free z
    have hpH := nH hp
    have hcH := nH hc
    obtain ⟨n1, n2, n3, n4⟩ := S.new hpH
    obtain ⟨c1, c2, c3, c4⟩ := S.new hcH
    have sHi : Same Hi (upd Hi c (.lst (ms'.map V.int))) := fun x o z => by rw [upd_ne (ne_of_none z c4)]; exact z
    have gr : Gr Hi H (upd Hi c (.lst (ms'.map V.int))) H' := by
      refine ⟨mm, sHi, fun x o z => ?_, fun x o z => ?_⟩
      · by_cases hx : x = c
        · subst hx; rw [upd_same] at z; cases z; exact hc'
        · rw [upd_ne hx] at z; exact mm _ _ (S.sub _ _ z)
      · by_cases hx : x = c
        · subst hx; exact .inr hcH
        · rw [upd_ne hx] at z; exact .inl z
    have S1 := S.grow gr
    have S2 := S1.penIn (p := p) (c := c) (ms := ms') (by rw [upd_ne hpc]; exact n4) n2 hp' upd_same
    have S3 : SO X.K _ b as _ (ρ.wipeP.set i .pen) (σ.set i (some (.ref p))) H' := S2.set (i := i) (v := .ref p) (r := .pen) ⟨p, rfl, rfl⟩
    refine hm _ b as _ _ _ H' D S3 ((T.all_bind.mp h).mono fun b1 pr hb1 h1 σ2 H2 Hi2 as2 x2 S4 => ?_)
    have S5 := S1.penOut n1 n3 hb1 S4
    obtain ⟨f, ρ2⟩ := pr
    have xx : Ext Hi as Hi2 as2 := (⟨sHi, List.prefix_refl _⟩ : Ext Hi as _ as).trans x2
    cases f with
    | nx => exact h1 σ2 H2 Hi2 as2 xx S5
    | bk => exact h1 σ2 H2 Hi2 as2 xx S5
    | ct => exact h1 σ2 H2 Hi2 as2 xx S5
    | rt r =>
      intro v rv
      cases r with
      | pen => exact h1.elim
      | _ => exact h1 σ2 H2 Hi2 as2 xx S5 v (rv.np nofun)
  · exact h.elim
/-- how many numbers the script has: below 64 -/
def mLenScr (i : Nat) : ME := fun ρ => match ρ.sl[i]? with
  | some (some Rv.scr) => .draw 64 fun n => .ret (.val (.int (n : Nat)), ρ)
  | _ => .fail
theorem snd_lenScr {x sx : Str} {i : Nat} {p p2 pos : Pos} (hg : Gl X x) (hm : X.mg x = none) (ex : x = "len") (hi : X.N[i]? = some sx) (hs : Vis X.env.scope sx) (hd : (sx == ("__debug__" : Str)) = false) (hcd : (sx == ("__classdict__" : Str)) = false) :
    Snd X (.Call (.Name x p) [.Name sx p2] [] pos) (mLenScr i) := fun e b as Hi ρ σ H R S h => by
  subst ex
  unfold mLenScr at h
  split at h
  · rename_i z0
    obtain ⟨v0, s0, a, ns, rfl, hS, hlen⟩ := S.slt i _ z0
    obtain ⟨b', rfl, h⟩ := h
    refine .of (pe_callB call_len_seq hg hm PySem.boot_len (pa_cons (pe_var hi hs hd hcd) pa_nil) (by decide) (by decide) rfl rfl) ?_
    refine ⟨.ref a, s0, a, ns.map V.int, rfl, .inl (sqL_mono S.sub hS), ?_⟩
    rw [List.length_map]
    exact h ns.length (by omega) _ H Hi as (Ext.refl _ _) (S.less (Nat.le_succ _)) (.int _)
  · exact h.elim
end
end Wk

/-! Wk6f: defs as values: a name of one as an expression, a call of a local name that holds one. -/
namespace Wk
open PySem PySem.Spec PyProof.Rows L2
variable [Ctx]
def mFn (j : Nat) : ME := fun ρ => .ret (.fn j, ρ)
def mCallL (i : Nat) (lf : List (Nat × Fn)) (mr : MA) : ME := fun ρ => match ρ.sl[i]? with
  | some (some (.fn j)) => (match lf.lookup j with
    | some F => mOwn F mr ρ
    | none => .fail)
  | _ => .fail
section
variable {X : Cx} {pos : Pos}
theorem snd_fn {x : Str} {f : Addr} {j : Nat} (hg : Gl X x) (hm : X.mg x = some (.ref f)) (hp : Ctx.pf j f) (hd : (x == ("__debug__" : Str)) = false) : Snd X (.Name x pos) (mFn j) := fun e b as Hi ρ σ H R S h => by
  have q : PE X (.Name x pos) _ := pe_glob (v := .ref f) hg hm rfl hd
  exact .of q (h (.ref f) H Hi as (Ext.refl _ _) S ⟨f, hp, rfl⟩)
/-- what is known of a def that a number means -/
def LfOk (X : Cx) (j : Nat) (F : Fn) : Prop := ∀ f, Ctx.pf j f → ∃ k fd ps, FnG X.prog X.w X.K X.mg X.base k f fd ps (SpF X.K F.n F.sem) ∧ Room k X.A ∧ PySem.W.keepIn X.K (.ref f) = true ∧ Binds X.K fd ps []
theorem pe_callLG {k i : Nat} {f : Addr} {fd : FuncData} {ps : List Str} {sp : Sp} {x : Str} {p : Pos} {e : Expr} {es : List Expr} {t : TA} (F : FnG X.prog X.w X.K X.mg X.base k f fd ps sp) (gd : X.A.guards = some []) (room : Room k X.A) (hN : X.N[i]? = some x) (hv : Vis X.env.scope x) (kp : PySem.W.keepIn X.K (.ref f) = true) (bd : Binds X.K fd ps [])
    (ha : PA X (e :: es) t) (dbg : (x == ("__debug__" : Str)) = false) (hcd : (x == ("__classdict__" : Str)) = false) (st : starEach (e :: es) X.env = (false, eval e X.env) :: starEach es X.env) (pl : (backTo pos (starEach es X.env)).any (·.1) = false) :
    PE X (.Call (.Name x p) (e :: es) [] pos) (fun σ H Q => σ[i]? = some (some (.ref f)) ∧ t σ H fun vs H1 => sp vs H1 Q E0) := ⟨by
  intro pins s σ H Q I h
  obtain ⟨hs, ht⟩ := h
  refine wpAny_Call_Name_kw (thn ((pe_var (pos := p) hN hv dbg hcd).run pins s σ H (fun v H1 => v = .ref f ∧ H1 = H) I ⟨.ref f, hs, rfl, rfl⟩) fun u s1 ⟨v, H1, I1, r1, q1⟩ => ?_)
  obtain ⟨rfl, rfl⟩ := q1
  cases r1
  exact PySem.W.callWith_K (h₀ := X.base) I1.ok.mod.kin kp (thn (ha.run pos pins s1 σ _ _ I1 ht) fun us s2 ⟨vs, H2, I2, r, q⟩ => ⟨I2.kIn, run_fnG F gd room bd I2 r q⟩) st pl⟩
theorem snd_callL {i : Nat} {lf : List (Nat × Fn)} {x : Str} {a : Expr} {r : List Expr} {mr : MA} {p : Pos} (hlf : ∀ j F, lf.lookup j = some F → LfOk X j F) (gd : X.A.guards = some []) (hN : X.N[i]? = some x) (hv : Vis X.env.scope x)
    (hr : SndA X (a :: r) mr) (hdb : (x == ("__debug__" : Str)) = false) (hcd : (x == ("__classdict__" : Str)) = false) (he : starEach (a :: r) X.env = (false, eval a X.env) :: starEach r X.env) (hpl : (backTo pos (starEach r X.env)).any (·.1) = false) : Snd X (.Call (.Name x p) (a :: r) [] pos) (mCallL i lf mr) := fun e b as Hi ρ σ H R S h => by
  unfold mCallL at h
  split at h
  · rename_i j hj
    split at h
    · rename_i F hF
      obtain ⟨v, hv1, f, hf, rfl⟩ := S.slt i _ hj
      obtain ⟨k, fd, ps, G, room, kp, bd⟩ := hlf j F hF f hf
      exact .of (pe_callLG G gd room hN hv kp bd (pa_tA X _) hdb hcd he hpl) ⟨hv1, own_post hr S h⟩
    · exact h.elim
  · exact h.elim
end
end Wk

/-! Wk8: from the text to its meaning. -/
namespace Wk
open PySem PySem.Spec PyProof.Rows L2
variable [Ctx]

/-! ### plain forms -/
def plainE : Expr → Bool
  | .Constant .. => true | .Name .. => true | .BinOp .. => true | .UnaryOp .. => true | .BoolOp .. => true | .Compare .. => true | .Call .. => true | .IfExp .. => true
  | .Tuple .. => true | .List .. => true | .Subscript .. => true | .ListComp .. => true | .Dict .. => true
  | _ => false
section
variable {e : Expr} {es : List Expr} {env : Env}
theorem plain_star (h : plainE e = true) (es : List Expr) : starEach (e :: es) env = (false, eval e env) :: starEach es env := by
  cases e <;> first | rfl | exact absurd (show false = true from h) Bool.false_ne_true
theorem plain_ix (h : plainE e = true) : PlainIx e := by
  intro o i
  cases e <;> first | rfl | exact absurd (show false = true from h) Bool.false_ne_true
theorem plain_mark (h : plainE e = true) (op : CmpOp) : behindInMarks op e = false := by
  cases e <;> first | rfl | exact absurd (show false = true from h) Bool.false_ne_true
theorem plain_fold (h : plainE e = true) (x : Value) : foldedSetIterable e env x = pure x := by
  cases e <;> first | rfl | exact absurd (show false = true from h) Bool.false_ne_true
def isComp : Expr → Bool
  | .ListComp .. => true
  | _ => false
theorem plain_swap (h : plainE e = true) (hc : isComp e = false) (t : Option Expr) (l : Nat) : swapsWith e t l env = pure false := by
  cases e <;> first | rfl | exact absurd (show false = true from h) Bool.false_ne_true | exact absurd (show true = false from hc) (fun z => Bool.noConfusion z)
theorem plain_any : ∀ {es : List Expr} (pos : Pos), es.all plainE = true → (backTo pos (starEach es env)).any (·.1) = false
  | [], _, _ => rfl
  | e :: es, pos, h => by
    rw [List.all_cons, Bool.and_eq_true] at h
    rw [plain_star h.1]
    show (false || (backTo pos (starEach es env)).any (·.1)) = false
    rw [plain_any pos h.2]; rfl
theorem plain_allN : ∀ {es : List Expr} (pos : Pos), es.all plainE = true → (backTo pos (starEach es env)).all (fun x => !x.1) = true
  | [], _, _ => rfl
  | e :: es, pos, h => by
    rw [List.all_cons, Bool.and_eq_true] at h
    rw [plain_star h.1]
    show (true && (backTo pos (starEach es env)).all (fun x => !x.1)) = true
    rw [plain_allN pos h.2]; rfl
theorem plain_few (pos : Pos) (h : es.all plainE = true) (hl : es.length < 30) : ((backTo pos (starEach es env)).all (fun x => !x.1) && (backToKw pos (keywordEach [] env)).all (fun x => x.1.isSome)
      && decide (es.length + ([] : List Keyword).length + (if ([] : List Keyword).isEmpty then 0 else 1) < 30)) = true := by
  rw [plain_allN pos h]
  show (true && true && decide (es.length + 0 + 0 < 30)) = true
  simp; omega
/-- a receiver -/
def plainO : Expr → Bool
  | .Constant .. => true | .Name .. => true | .Subscript .. => true | .BinOp .. => true
  | _ => false
theorem plain_base (h : plainO e = true) (name : Str) : attributeBase e name env (eval e env) = eval e env := by
  cases e <;> first | rfl | exact absurd (show false = true from h) Bool.false_ne_true
/-- a test by its value -/
def plainT : Expr → Bool
  | .Constant .. => true | .Name .. => true | .BinOp .. => true | .Call .. => true | .Subscript .. => true | .ListComp .. => true | .Tuple .. => true | .List .. => true
  | _ => false
theorem plain_test (h : plainT e = true) (whole : Sem Value) : isTrue e env whole = (do let v ← whole; standAt e.pos; holding [v] (truthy v)) := by
  cases e <;> first | rfl | exact absurd (show false = true from h) Bool.false_ne_true
end

/-! ### tables -/
def opB : Operator → Option (D → D → OV)
  | .Add => some oAdd | .Sub => some oSub | .Mult => some oMul | .FloorDiv => some oDiv | .Mod => some oMod | .Pow => some oPow
  | _ => none
def opC : CmpOp → Option (D → D → OV)
  | .Eq => some cEq | .NotEq => some cNe | .Lt => some cLt | .LtE => some cLe | .Gt => some cGt | .GtE => some cGe | .In => some cIn | .NotIn => some cNotIn | .Is => some cIs | .IsNot => some cIsNot
def oNeg : D → OV
  | .int i => .v (.int (-i))
  | _ => .no
def bltNames : List Str := ["len", "all", "any", "abs", "int", "str", "list", "tuple", "isinstance", "bool", "dict", "range", "repr", "max", "min", "sum", "sorted", "set", "enumerate", "zip"]
def bltTab : List (Str × (List D → OV)) := [("len", f1 bLen), ("all", f1 bAll), ("any", f1 bAny), ("abs", f1 bAbs), ("int", f1 bInt), ("str", f1 bStr), ("list", f1 bList), ("tuple", f1 bTuple), ("repr", f1 bRepr), ("max", bMax), ("min", bMinA), ("sum", bSums), ("sorted", f1 bSorted), ("dict", f1 bDict)]
def bltF (x : Str) : Option (List D → OV) := bltTab.lookup x
def tyOf (x : Str) : Option Ty :=
  if x = "str" then some .str else if x = "tuple" then some .tuple else if x = "int" then some .int else if x = "bool" then some .bool else if x = "list" then some .list else if x = "dict" then some .dict else none
theorem tyOf_name {x : Str} {t : Ty} (h : tyOf x = some t) : x = t.name := by
  unfold tyOf at h
  repeat' (split at h; · rename_i e; cases h; exact e)
  cases h
theorem op2_B {X : Cx} {op : Operator} {f : D → D → OV} (h : opB op = some f) : Op2 X (binaryOp op) f := by
  cases op <;> cases h
  · exact op2_add
  · exact op2_sub
  · exact op2_mul
  · exact op2_mod
  · exact op2_pow
  · exact op2_div
theorem room65 {k : Nat} {A : Around} (r : Room k A) : A.units + 65 < cLine := by have := r.un; omega
theorem op2_C {X : Cx} (hx : Hx X) (hu : X.A.units + 65 < cLine) {op : CmpOp} {f : D → D → OV} (h : opC op = some f) : Op2 X (compareOp op) f := by
  cases op <;> cases h
  · exact op2_eq (by omega)
  · exact op2_ne (by omega)
  · exact op2_lt
  · exact op2_le
  · exact op2_gt
  · exact op2_ge
  · exact op2_is
  · exact op2_isNot
  · exact op2_in hx hu
  · exact op2_notIn hx hu
theorem un_negD {X : Cx} : ∀ Hi, UnR X (unaryOp .USub) (fun x H Q => Same Hi H ∧ ∃ d, Opd X.K Hi H x d ∧ OPost X.K Hi H Q (oNeg d)) := by
  intro Hi pins s σ H x v Q I rx ⟨sub, d, o, q⟩
  cases d with
  | int i => cases o.int_; exact un_neg pins s σ H _ v Q I rx ⟨i, rfl, q.leaf sub (.int _)⟩
  | _ => exact OPost.no q

structure Tbl where
  N : List Str
  fns : List (Str × Fn)
  csts : List (Str × D)
  mu : List Str
  fv : List (Str × Nat)
  lf : List (Nat × Fn)
  pn : Bool
/-- a name whose list is walked and stays one's own -/
def isMu (tb : Tbl) : Expr → Bool
  | .Name x _ => tb.mu.contains x
  | _ => false
def ixOf (x : Str) : List Str → Option Nat
  | [] => none
  | y :: r => if y = x then some 0 else (ixOf x r).map (· + 1)
theorem ixOf_get {x : Str} : ∀ {l : List Str} {i : Nat}, ixOf x l = some i → l[i]? = some x
  | [], i, h => by cases h
  | y :: r, i, h => by
    unfold ixOf at h
    split at h
    · rename_i e; cases h; rw [e]; rfl
    · rw [Option.map_eq_some_iff] at h
      obtain ⟨j, hj, rfl⟩ := h
      rw [List.getElem?_cons_succ]; exact ixOf_get hj
/-- where one stands: the scope, the names whose cells are this block's -/
structure Sc where
  sc : Scope
  fn : Str → Bool
structure Good (X : Cx) (tb : Tbl) : Prop where
  cx : Hx X
  N : X.N = tb.N
  nd : X.N.Nodup
  calm : X.calm = true
  units : X.A.units + 65 < cLine
  gd : X.A.guards = some []
  kind : X.env.scope.kind = .function
  pass : PassesOwn (model X.prog X.w) X.A X.env X.xe
  blt : ∀ x ∈ bltNames, X.mg x = none
  fns : ∀ x F, tb.fns.lookup x = some F → ∃ k f fd ps, FnG X.prog X.w X.K X.mg X.base k f fd ps (SpF X.K F.n F.sem) ∧ Room k X.A ∧ X.mg x = some (.ref f) ∧ PySem.W.keepIn X.K (.ref f) = true ∧ Binds X.K fd ps []
  csts : ∀ x d, tb.csts.lookup x = some d → ∃ v u, X.mg x = some u ∧ RelV v u ∧ ∀ Hi, Rp X.K Hi v d
  fv : ∀ x j, tb.fv.lookup x = some j → ∃ f, X.mg x = some (.ref f) ∧ Ctx.pf j f
  lf : ∀ j F, tb.lf.lookup j = some F → LfOk X j F
  pn : tb.pn = true → ∃ fP fdP, FnG X.prog X.w X.K X.mg X.base 1 fP fdP ["_law_script"] (spPen X.K) ∧ Room 1 X.A ∧ X.mg "_law_pen" = some (.ref fP) ∧ PySem.W.keepIn X.K (.ref fP) = true ∧ Binds X.K fdP ["_law_script"] []
def InSc (X : Cx) (c : Sc) : Prop := X.env.scope = c.sc ∧ X.fn = c.fn

/-! ### the meanings -/
structure Den where
  E : Sc → Expr → Option ME
  T : Sc → Expr → Option MT
  W : Sc → Expr → Option MT
  A : Sc → List Expr → Option MA
  I : Sc → Expr → Option MI
  G : Sc → Expr → Option Tg
  Gs : Sc → List Expr → Option Tgs
def Den.none : Den := ⟨fun _ _ => .none, fun _ _ => .none, fun _ _ => .none, fun _ _ => .none, fun _ _ => .none, fun _ _ => .none, fun _ _ => .none⟩
def isGl (c : Sc) (x : Str) : Bool := decide (c.sc.names.lookup x = some .globalImplicit)
def isVis (c : Sc) (x : Str) : Bool := match c.sc.names.lookup x with
  | some .local => true | some .cell => true | some .free => true
  | _ => false
def isLoc (c : Sc) (x : Str) : Bool := match c.sc.names.lookup x with
  | some .local => true
  | some .cell => c.fn x
  | _ => false
def noDbg (x : Str) : Bool := (x == ("__debug__" : Str)) == false && (x == ("__classdict__" : Str)) == false && !decide (x = "__name__")
def ownOf (N : List Str) : List (Str × NameKind) → List (Str × Nat)
  | [] => []
  | (n, k) :: r => match k with
    | .local => (match ixOf n N with
      | some i => (n, i) :: ownOf N r
      | none => ownOf N r)
    | .cell => (match ixOf n N with
      | some i => (n, i) :: ownOf N r
      | none => ownOf N r)
    | _ => ownOf N r
def scBlk (scope : Scope) (c : Sc) : Sc := ⟨relS scope c.sc, fun x => scope.names.lookup x == some .cell⟩
def dConst : Const → Option D
  | .none => some .none
  | .bool b => some (.bool b)
  | .int i => some (.int i)
  | .str s => some (.str s)
  | _ => none
def dName (tb : Tbl) (c : Sc) (x : Str) : Option ME :=
  if noDbg x then (if isVis c x then (ixOf x tb.N).map mVar else if isGl c x then (match tb.fv.lookup x with
    | some j => some (mFn j)
    | none => (tb.csts.lookup x).map mC) else none) else none
/-- len(_law_script) -/
def dLenS (tb : Tbl) (c : Sc) (x : Str) : List Expr → Option ME
  | [.Name sx _] => if decide (x = "len") && decide (sx = "_law_script") && isGl c x && isVis c sx && noDbg sx then (ixOf sx tb.N).map mLenScr else none
  | _ => none
/-- len(set(e)), sorted(set(e)) -/
def dSet (d : Den) (c : Sc) (x : Str) : List Expr → Option ME
  | [.Call (.Name y _) [e] [] _] => if decide (y = "set") && isGl c x && isGl c y && plainE e then
      (if x = "len" then (d.E c e).map (mUn bLenSet) else if x = "sorted" then (d.E c e).map (mUn bSortSet) else none) else none
  | _ => none
def dCall (tb : Tbl) (d : Den) (c : Sc) (x : Str) (args : List Expr) : Option ME :=
  match dLenS tb c x args with
  | some m => some m
  | none => match dSet d c x args with
  | some m => some m
  | none =>
  if noDbg x && isVis c x && args.all plainE && (x == ("__classdict__" : Str)) == false then (match ixOf x tb.N, args with
    | some i, a :: r => (d.A c (a :: r)).map (mCallL i tb.lf)
    | _, _ => none)
  else if noDbg x && isGl c x && args.all plainE then
    (match tb.fns.lookup x with
    | some F => (match args with
      | [] => some (mOwn F maNil)
      | a :: r => (d.A c (a :: r)).map (mOwn F))
    | none =>
      if x = "isinstance" then (match args with
        | [a, .Name t _] => if isGl c t then (match tyOf t, d.E c a with
          | some ty, some m => some (mIsi ty m)
          | _, _ => none) else none
        | _ => none)
      else match bltF x, args with
        | some F, a :: r => (d.A c (a :: r)).map (mCall F)
        | _, _ => none) else none
def dMeth (d : Den) (c : Sc) (o : Expr) (name : Str) (line : Bool) (args : List Expr) : Option ME :=
  if line && plainO o && args.all plainE && decide (args.length < 30) then
    (match d.E c o, args with
    | some mo, [] => some (mMtd roT muT name mo maNil)
    | some mo, a :: r => (d.A c (a :: r)).map (mMtd roT muT name mo)
    | _, _ => none) else none
def dPart (d : Den) (c : Sc) : Option Expr → Option (Option ME)
  | none => some none
  | some e => (d.E c e).map some
/-- what is walked, where the target is a tuple: enumerate, zip, too -/
def dWalk (d : Den) (c : Sc) (tg iter : Expr) : Option MI :=
  match tg, iter with
  | .Tuple _ _ _, .Call (.Name x _) [a] [] _ => if decide (x = "enumerate") && isGl c x && plainE a then (d.E c a).map mEnum else d.I c iter
  | .Tuple _ _ _, .Call (.Name x _) [a, b] [] _ => if decide (x = "zip") && isGl c x && plainE a && plainE b then (match d.E c a, d.E c b with
    | some ma, some mb => some (mZip ma mb)
    | _, _ => none) else d.I c iter
  | _, _ => d.I c iter
def dCompI (tb : Tbl) (d : Den) (c : Sc) (elt : Expr) (tg iter : Expr) (ifs : List Expr) (scope : Scope) : Option ME :=
  if blkC tb.N c.sc scope (ownOf tb.N scope.names) && plainE iter then
    (match dWalk d c tg iter, d.G (scBlk scope c) tg, (match ifs with
      | [] => some mtYes
      | [t] => d.T (scBlk scope c) t
      | _ => none), d.E (scBlk scope c) elt with
    | some mi, some g, some mt, some me => if g.slots.all (fun i => ((ownOf tb.N scope.names).map (·.2)).contains i) then some (mComp ((ownOf tb.N scope.names).map (·.2)) g mi mt me) else none
    | _, _, _, _ => none) else none
def dCompO (tb : Tbl) (d : Den) (c : Sc) (elt : Expr) (tg iter : Expr) (ifs : List Expr) (scope : Scope) : Option ME :=
  if blkC tb.N c.sc scope (ownOf tb.N scope.names) && plainE iter then
    (match d.E c iter, d.G (scBlk scope c) tg, (match ifs with
      | [] => some mtYes
      | [t] => d.T (scBlk scope c) t
      | _ => none), d.E (scBlk scope c) elt with
    | some mi, some g, some mt, some me => if g.slots.all (fun i => ((ownOf tb.N scope.names).map (·.2)).contains i) then some (mCompO ((ownOf tb.N scope.names).map (·.2)) g mi mt me) else none
    | _, _, _, _ => none) else none
def dComp (tb : Tbl) (d : Den) (c : Sc) (elt : Expr) (tg iter : Expr) (ifs : List Expr) (scope : Scope) : Option ME :=
  if isMu tb iter then dCompO tb d c elt tg iter ifs scope else dCompI tb d c elt tg iter ifs scope
def dKey : Expr → Option Key
  | .Constant (.str s) _ _ => some (.inr s)
  | .Constant (.int i) _ _ => some (.inl i)
  | _ => none
def dKs (d : Den) (c : Sc) : List (Option Expr) → List Expr → Option MK
  | [], [] => some mkNil
  | some k :: ks, v :: vs => match dKey k, d.E c v, dKs d c ks vs with
    | some k, some mv, some mr => some (mkCons k mv mr)
    | _, _, _ => none
  | _, _ => none
def mRev (ma : ME) : ME := fun ρ => (ma ρ).bind fun p => d1 (fun d => match d with
  | .list ds => .f (.list ds.reverse)
  | .tuple ds => .v (.tuple ds.reverse)
  | _ => .no) p.1 p.2
def dE (tb : Tbl) (d : Den) (c : Sc) : Expr → Option ME
  | .Constant k _ _ => (dConst k).map mC
  | .Name x _ => dName tb c x
  | .BinOp a op b _ => match opB op, d.E c a, d.E c b with
    | some f, some ma, some mb => some (mBin f ma mb)
    | _, _, _ => none
  | .UnaryOp .USub a _ => (d.E c a).map (mUn oNeg)
  | .UnaryOp .Not a _ => (d.E c a).map mNotV
  | .BoolOp _ [a] _ => d.E c a
  | .BoolOp .And (a :: b :: r) p => match d.E c a, d.E c (.BoolOp .And (b :: r) p) with
    | some ma, some mb => some (mAnd ma mb)
    | _, _ => none
  | .BoolOp .Or (a :: b :: r) p => match d.E c a, d.E c (.BoolOp .Or (b :: r) p) with
    | some ma, some mb => some (mOr ma mb)
    | _, _ => none
  | .Compare a [op] [b] _ => if plainE b then (match opC op, d.E c a, d.E c b with
    | some f, some ma, some mb => some (mBin f ma mb)
    | _, _, _ => none) else none
  | .Compare a [op, op'] [b, b'] _ => if plainE b' then (match opC op, opC op', d.E c a, d.E c b, d.E c b' with
    | some f, some g, some ma, some mb, some mc => some (mChain f g ma mb mc)
    | _, _, _, _, _ => none) else none
  | .IfExp t a b _ => match d.T c t, d.E c a, d.E c b with
    | some mt, some ma, some mb => some (mIf mt ma mb)
    | _, _, _ => none
  | .Call (.Name x _) args [] _ => dCall tb d c x args
  | .Call (.Attribute o name apos) args [] pos => dMeth d c o name (apos.endLine == pos.line) args
  | .Tuple es _ _ => (d.A c es).map (mDisp szT)
  | .List es _ => (d.A c es).map (mDisp szL)
  | .Dict [] [] _ => some fun ρ => ov (.f (.dict [])) ρ
  | .Dict (k :: ks) vs _ => if ks.length < 15 then (dKs d c (k :: ks) vs).map mDict else none
  | .Subscript a (.Slice none none (some (.UnaryOp .USub (.Constant (.int 1) _ _) _)) _) _ => (d.E c a).map mRev
  | .Subscript a (.Slice lo hi none _) _ => match d.E c a, dPart d c lo, dPart d c hi with
    | some ma, some l, some h => some (mSlice oSl ma l h)
    | _, _, _ => none
  | .Subscript a b _ => if plainE b then (match d.E c a, d.E c b with
    | some ma, some mb => some (mBin oIdx ma mb)
    | _, _ => none) else none
  | .ListComp elt [⟨tg, iter, ifs, 0⟩] scope _ => dComp tb d c elt tg iter ifs scope
  | _ => none
def dW (d : Den) (c : Sc) : Expr → Option MT
  | .BoolOp _ [a] _ => d.T c a
  | .BoolOp .And (a :: b :: r) p => match d.T c a, d.W c (.BoolOp .And (b :: r) p) with
    | some ma, some mb => some (mtAnd ma mb)
    | _, _ => none
  | .BoolOp .Or (a :: b :: r) p => match d.T c a, d.W c (.BoolOp .Or (b :: r) p) with
    | some ma, some mb => some (mtOr ma mb)
    | _, _ => none
  | _ => none
def dT (d : Den) (c : Sc) : Expr → Option MT
  | .UnaryOp .Not a _ => (d.T c a).map mNot
  | .BoolOp op es p => dW d c (.BoolOp op es p)
  | .Compare a [op] [b] _ => if plainE b then (match opC op, d.E c a, d.E c b with
    | some f, some ma, some mb => some (tB' (mBin f ma mb))
    | _, _, _ => none) else none
  | .Compare a [op, op'] [b, b'] _ => if plainE b' then (match opC op, opC op', d.E c a, d.E c b, d.E c b' with
    | some f, some g, some ma, some mb, some mc => some (mtChain f g ma mb mc)
    | _, _, _, _, _ => none) else none
  | e => if plainT e then (d.E c e).map mTru else none
def dA (d : Den) (c : Sc) : List Expr → Option MA
  | [] => some maNil
  | e :: es => if plainE e then (match d.E c e, d.A c es with
    | some m, some r => some (maCons m r)
    | _, _ => none) else none
def dI (tb : Tbl) (d : Den) (c : Sc) : Expr → Option MI
  | .Call (.Name x p) [a] [] pos => if x = "range" && isGl c x && plainE a && (tb.fns.lookup x).isNone then (d.E c a).map mRange1 else (d.E c (.Call (.Name x p) [a] [] pos)).map mWalk
  | .Call (.Name x p) [a, b] [] pos => if x = "range" && isGl c x && plainE a && plainE b && (tb.fns.lookup x).isNone then (match d.E c a, d.E c b with
    | some ma, some mb => some (mRange2 ma mb)
    | _, _ => none) else (d.E c (.Call (.Name x p) [a, b] [] pos)).map mWalk
  | e => (d.E c e).map mWalk
def dG (tb : Tbl) (d : Den) (c : Sc) : Expr → Option Tg
  | .Name x _ => if isLoc c x then (ixOf x tb.N).map .nm else none
  | .Tuple es _ _ => (d.Gs c es).map .tp
  | _ => none
def dGs (d : Den) (c : Sc) : List Expr → Option Tgs
  | [] => some .nil
  | e :: es => if plainE e then (match d.G c e, d.Gs c es with
    | some g, some gs => some (.cons g gs)
    | _, _ => none) else none
def denStep (tb : Tbl) (d : Den) : Den := ⟨dE tb d, dT d, dW d, dA d, dI tb d, dG tb d, dGs d⟩
def den (tb : Tbl) : Nat → Den
  | 0 => Den.none
  | n + 1 => denStep tb (den tb n)
end Wk

/-! Wk9: the meanings of expressions hold. -/
namespace Wk
open PySem PySem.Spec PyProof.Rows L2
variable [Ctx]

section
variable {tb : Tbl} {X : Cx} {c : Sc}
theorem isGl_of (h : isGl c x = true) (hs : InSc X c) : Gl X x := by
  have e : X.env.scope.names.lookup x = some .globalImplicit := by rw [hs.1]; exact of_decide_eq_true h
  exact e
theorem isVis_of {x : Str} (h : isVis c x = true) (hs : InSc X c) : Vis X.env.scope x := by
  unfold isVis at h
  rw [← hs.1] at h
  split at h
  · rename_i e; exact .inl e
  · rename_i e; exact .inr (.inl e)
  · rename_i e; exact .inr (.inr e)
  · cases h
theorem isLoc_of {x : Str} (h : isLoc c x = true) (hs : InSc X c) : Loc X.env.scope x ∧ (X.fn x = true ∨ X.env.scope.names.lookup x = some .local) := by
  unfold isLoc at h
  rw [← hs.1, ← hs.2] at h
  split at h
  · rename_i e; exact ⟨.inl e, .inr e⟩
  · rename_i e; exact ⟨.inr e, .inl h⟩
  · cases h
theorem noDbg_of {x : Str} (h : noDbg x = true) : (x == ("__debug__" : Str)) = false ∧ (x == ("__classdict__" : Str)) = false ∧ x ≠ "__name__" := by
  unfold noDbg at h
  simp only [Bool.and_eq_true, beq_iff_eq, Bool.not_eq_true', decide_eq_false_iff_not] at h
  exact ⟨by simpa using h.1.1, by simpa using h.1.2, h.2⟩
/-- in a comprehension's block -/
theorem Good.blk (G : Good X tb) {scope : Scope} (hk : scope.kind = .function) (s : Shared) (H : Hp) (C : Addr) (cl : List (Str × Addr)) (fp : List Addr) : Good (blkAt X scope s H C cl fp) tb :=
  ⟨⟨G.cx.p, G.cx.w⟩, G.N, G.nd, G.calm, G.units, G.gd, hk, PassesOwn.never, G.blt, G.fns, G.csts, G.fv, G.lf, G.pn⟩
theorem InSc.blk (hs : InSc X c) (scope : Scope) (s : Shared) (H : Hp) (C : Addr) (cl : List (Str × Addr)) (fp : List Addr) : InSc (blkAt X scope s H C cl fp) (scBlk scope c) := by
  refine ⟨?_, rfl⟩
  show relS scope X.env.scope = relS scope c.sc
  rw [hs.1]
end
structure DenOk (tb : Tbl) (d : Den) : Prop where
  E : ∀ {X c}, Good X tb → InSc X c → ∀ {e m}, d.E c e = some m → Snd X e m
  T : ∀ {X c}, Good X tb → InSc X c → ∀ {e m}, d.T c e = some m → SndT X e m
  W : ∀ {X c}, Good X tb → InSc X c → ∀ {e m}, d.W c e = some m → SndW X e m
  A : ∀ {X c}, Good X tb → InSc X c → ∀ {e m}, d.A c e = some m → SndA X e m
  I : ∀ {X c}, Good X tb → InSc X c → ∀ {e m}, d.I c e = some m → ∀ tg, SndI X tg e m
  G : ∀ {X c}, Good X tb → InSc X c → ∀ {e m}, d.G c e = some m → SndG X e m
  Gs : ∀ {X c}, Good X tb → InSc X c → ∀ {e m}, d.Gs c e = some m → SndGs X e m
  GsL : ∀ {c e m}, d.Gs c e = some m → (∀ env : Env, (assignEach e env).length = e.length ∧ (assignEach e env).findIdx? (·.1) = none) ∧ ∀ ds ρ ρ', m.set ds ρ = some ρ' → ds.length = e.length
section
variable {tb : Tbl} {d : Den} {X : Cx} {c : Sc}
theorem dConst_ok {k : Const} {dd : D} {j : Nat} {pos : Pos} (h : dConst k = some dd) : Snd X (.Constant k j pos) (mC dd) := by
  cases k <;> cases h
  · exact snd_c (pe_non) fun _ => .non
  · exact snd_c (pe_bl) fun _ => .bl _
  · exact snd_c (pe_int) fun _ => .int _
  · exact snd_c (pe_str) fun _ => .str _
theorem dName_ok (G : Good X tb) (hs : InSc X c) {x : Str} {m : ME} {pos : Pos} (h : dName tb c x = some m) : Snd X (.Name x pos) m := by
  unfold dName at h
  split at h
  · rename_i hd
    obtain ⟨h1, h2, h3⟩ := noDbg_of hd
    split at h
    · rename_i hv
      rw [Option.map_eq_some_iff] at h
      obtain ⟨i, hi, rfl⟩ := h
      exact snd_var (by rw [G.N]; exact ixOf_get hi) (isVis_of hv hs) h1 h2
    · split at h
      · rename_i hg
        split at h
        · rename_i j hj
          cases h
          obtain ⟨f, q1, q2⟩ := G.fv x j hj
          exact snd_fn (isGl_of hg hs) q1 q2 h1
        · rw [Option.map_eq_some_iff] at h
          obtain ⟨dd, hc, rfl⟩ := h
          obtain ⟨v, u, q1, q2, q3⟩ := G.csts x dd hc
          exact snd_c (pe_glob (isGl_of hg hs) q1 q2 h1) q3
      · cases h
  · cases h
theorem blt_none (G : Good X tb) {x : Str} (h : x ∈ bltNames) : X.mg x = none := G.blt x h
theorem bltF_ok (G : Good X tb) {x : Str} {F : List D → OV} (h : bltF x = some F) : (∃ id, CallD X (.builtin id) F ∧ bootBuiltins x = some (.builtin id) ∧ X.mg x = none) ∨ ∃ T, CallD X (.type T) F ∧ bootBuiltins x = some (.type T) ∧ X.mg x = none := by
  have m : (x, F) ∈ bltTab := PySem.mem_of_lookup h
  simp only [bltTab, List.mem_cons, List.not_mem_nil, or_false, Prod.mk.injEq] at m
  rcases m with ⟨rfl, rfl⟩ | ⟨rfl, rfl⟩ | ⟨rfl, rfl⟩ | ⟨rfl, rfl⟩ | ⟨rfl, rfl⟩ | ⟨rfl, rfl⟩ | ⟨rfl, rfl⟩ | ⟨rfl, rfl⟩ | ⟨rfl, rfl⟩ | ⟨rfl, rfl⟩ | ⟨rfl, rfl⟩ | ⟨rfl, rfl⟩ | ⟨rfl, rfl⟩ | ⟨rfl, rfl⟩
  · exact .inl ⟨_, call_len G.cx, PySem.boot_len, G.blt _ (by decide +kernel)⟩
  · exact .inl ⟨_, call_all G.calm, PyProof.Rows.boot_all, G.blt _ (by decide +kernel)⟩
  · exact .inl ⟨_, call_any G.calm, PyProof.Rows.boot_any, G.blt _ (by decide +kernel)⟩
  · exact .inl ⟨_, call_absD, PyProof.Rows.boot_abs, G.blt _ (by decide +kernel)⟩
  · exact .inr ⟨_, call_intD, PyProof.Rows.boot_int, G.blt _ (by decide +kernel)⟩
  · exact .inr ⟨_, call_strD, PyProof.Rows.boot_str, G.blt _ (by decide +kernel)⟩
  · exact .inr ⟨_, call_listD G.cx G.calm, PyProof.Rows.boot_list, G.blt _ (by decide +kernel)⟩
  · exact .inr ⟨_, call_tupleD, PyProof.Rows.boot_tuple, G.blt _ (by decide +kernel)⟩
  · exact .inl ⟨_, call_reprD G.gd (by have := G.units; omega), PyProof.Rows.boot_repr, G.blt _ (by decide +kernel)⟩
  · exact .inl ⟨_, call_maxD G.calm, PyProof.Rows.boot_max, G.blt _ (by decide +kernel)⟩
  · exact .inl ⟨_, call_minA G.calm G.units, PyProof.Rows.boot_min, G.blt _ (by decide +kernel)⟩
  · exact .inl ⟨_, call_sums G.calm, PyProof.Rows.boot_sum, G.blt _ (by decide +kernel)⟩
  · exact .inl ⟨_, call_sortedAll G.cx G.calm G.units, PyProof.Rows.boot_sorted, G.blt _ (by decide +kernel)⟩
  · exact .inr ⟨_, call_dictAll, PyProof.Rows.boot_dict, G.blt _ (by decide +kernel)⟩
theorem ty_blt (G : Good X tb) (t : Ty) : X.mg t.name = none := by
  cases t <;> exact G.blt _ (by decide +kernel)
theorem dCall_ok (K : DenOk tb d) (G : Good X tb) (hs : InSc X c) {x : Str} {args : List Expr} {m : ME} {p pos : Pos} (h : dCall tb d c x args = some m) : Snd X (.Call (.Name x p) args [] pos) m := by
  unfold dCall at h
  split at h
  · rename_i m0 h0
    cases h
    unfold dLenS at h0
    split at h0
    · split at h0
      · rename_i hh
        simp only [Bool.and_eq_true, decide_eq_true_eq] at hh
        obtain ⟨⟨⟨⟨ex, es⟩, hg⟩, hv⟩, hd⟩ := hh
        rw [Option.map_eq_some_iff] at h0
        obtain ⟨i, hi, rfl⟩ := h0
        obtain ⟨h1, h2, h3⟩ := noDbg_of hd
        exact snd_lenScr (isGl_of hg hs) (G.blt _ (by rw [ex]; decide +kernel)) ex (by rw [G.N]; exact ixOf_get hi) (isVis_of hv hs) h1 h2
      · cases h0
    · cases h0
  rename_i hnone
  clear hnone
  split at h
  · rename_i m0 h0
    cases h
    unfold dSet at h0
    split at h0
    case h_2 => cases h0
    rename_i y py e pc
    split at h0
    case isFalse => cases h0
    rename_i hh
    simp only [Bool.and_eq_true, decide_eq_true_eq] at hh
    obtain ⟨⟨⟨ey, hg⟩, hg2⟩, hp⟩ := hh
    subst ey
    split at h0
    · rename_i ex
      subst ex
      rw [Option.map_eq_some_iff] at h0
      obtain ⟨ma, hma, rfl⟩ := h0
      exact snd_lenSet G.calm G.units (isGl_of hg hs) (G.blt _ (by decide +kernel)) (isGl_of hg2 hs) (G.blt _ (by decide +kernel)) (K.E G hs hma) (plain_star hp [])
    · split at h0
      case isFalse => cases h0
      rename_i ex
      subst ex
      rw [Option.map_eq_some_iff] at h0
      obtain ⟨ma, hma, rfl⟩ := h0
      exact snd_sortSet G.calm G.units (isGl_of hg hs) (G.blt _ (by decide +kernel)) (isGl_of hg2 hs) (G.blt _ (by decide +kernel)) (K.E G hs hma) (plain_star hp [])
  rename_i hnone
  clear hnone
  split at h
  · rename_i hh
    simp only [Bool.and_eq_true] at hh
    obtain ⟨⟨⟨hd, hv⟩, hp⟩, hcd⟩ := hh
    obtain ⟨h1, h2, h3⟩ := noDbg_of hd
    split at h
    · rename_i i a r hi
      rw [Option.map_eq_some_iff] at h
      obtain ⟨mr, hr, rfl⟩ := h
      rw [List.all_cons, Bool.and_eq_true] at hp
      exact snd_callL G.lf G.gd (by rw [G.N]; exact ixOf_get hi) (isVis_of hv hs) (K.A G hs hr) h1 (by simpa using hcd) (plain_star hp.1 r) (plain_any pos hp.2)
    · cases h
  rename_i hneg
  clear hneg
  split at h
  · rename_i hh
    simp only [Bool.and_eq_true] at hh
    obtain ⟨⟨hd, hg⟩, hp⟩ := hh
    obtain ⟨h1, h2, h3⟩ := noDbg_of hd
    have g := isGl_of hg hs
    split at h
    · rename_i F hF
      obtain ⟨k, f, fd, ps, q1, q2, q3, q4, q5⟩ := G.fns x F hF
      split at h
      · cases h
        exact snd_own0 q1 G.gd q2 g q3 q4 q5 h1
      · rename_i a r
        rw [Option.map_eq_some_iff] at h
        obtain ⟨mr, hr, rfl⟩ := h
        rw [List.all_cons, Bool.and_eq_true] at hp
        exact snd_own q1 G.gd q2 g q3 q4 q5 (K.A G hs hr) h1 (plain_star hp.1 r) (plain_any pos hp.2)
    · split at h
      · rename_i ex
        subst ex
        split at h
        · rename_i a t p2
          split at h
          · rename_i hgt
            split at h
            · rename_i ty m0 ht hm
              cases h
              have en := tyOf_name ht
              subst en
              rw [List.all_cons, Bool.and_eq_true] at hp
              exact snd_isi G.cx g (G.blt _ (by decide +kernel)) (isGl_of hgt hs) (ty_blt G ty) (K.E G hs hm) fun y => plain_star hp.1 _
            · cases h
          · cases h
        · cases h
      · split at h
        · rename_i F a r hF
          rw [Option.map_eq_some_iff] at h
          obtain ⟨mr, hr, rfl⟩ := h
          rw [List.all_cons, Bool.and_eq_true] at hp
          rcases bltF_ok G hF with ⟨id, q1, q2, q3⟩ | ⟨T, q1, q2, q3⟩
          · exact snd_callB q1 g q3 q2 (K.A G hs hr) h3 h1 (plain_star hp.1 r) (plain_any pos hp.2)
          · exact snd_callTy q1 g q3 q2 (K.A G hs hr) h3 h1 (plain_star hp.1 r) (plain_any pos hp.2)
        · cases h
  · cases h
theorem dMeth_ok (K : DenOk tb d) (G : Good X tb) (hs : InSc X c) {o : Expr} {name : Str} {args : List Expr} {m : ME} {apos pos : Pos} (h : dMeth d c o name (apos.endLine == pos.line) args = some m) : Snd X (.Call (.Attribute o name apos) args [] pos) m := by
  unfold dMeth at h
  split at h
  · rename_i hh
    simp only [Bool.and_eq_true, decide_eq_true_eq] at hh
    obtain ⟨⟨⟨hl, ho⟩, hp⟩, hn⟩ := hh
    split at h
    · rename_i mo hmo
      cases h
      exact snd_mtd0 G.cx (roT_ok (by have := G.units; omega)) muT_ok (K.E G hs hmo) (plain_base ho _) hl
    · rename_i mo a r hmo
      rw [Option.map_eq_some_iff] at h
      obtain ⟨ma, hma, rfl⟩ := h
      have hp1 : plainE a = true := (List.all_eq_true.mp hp) a List.mem_cons_self
      exact snd_mtd G.cx (roT_ok (by have := G.units; omega)) muT_ok (K.E G hs hmo) (K.A G hs hma) (plain_base ho _) (plain_few pos hp hn) hl (plain_star hp1 r) (plain_any pos (by simp only [List.all_cons, Bool.and_eq_true] at hp; exact hp.2))
    · cases h
  · cases h
theorem dPart_ok (K : DenOk tb d) (G : Good X tb) (hs : InSc X c) {e : Option Expr} {m : Option ME} (h : dPart d c e = some m) : SndP X e m := by
  cases e with
  | none => cases h; exact .none
  | some e =>
    simp only [dPart, Option.map_eq_some_iff] at h
    obtain ⟨ma, hma, rfl⟩ := h
    exact .some (K.E G hs hma)
theorem dWalk_ok (K : DenOk tb d) (G : Good X tb) (hs : InSc X c) {tg iter : Expr} {m : MI} (h : dWalk d c tg iter = some m) : SndI X tg iter m := by
  unfold dWalk at h
  split at h
  · split at h
    · rename_i hh
      simp only [Bool.and_eq_true, decide_eq_true_eq] at hh
      obtain ⟨⟨ex, hg⟩, hp⟩ := hh
      subst ex
      rw [Option.map_eq_some_iff] at h
      obtain ⟨ma, hma, rfl⟩ := h
      exact sndI_enum (isGl_of hg hs) (G.blt _ (by decide +kernel)) (K.E G hs hma) (plain_star hp [])
    · exact K.I G hs h _
  · split at h
    · rename_i hh
      simp only [Bool.and_eq_true, decide_eq_true_eq] at hh
      obtain ⟨⟨⟨ex, hg⟩, hp⟩, hp2⟩ := hh
      subst ex
      split at h
      · rename_i ma mb h1 h2
        cases h
        exact sndI_zip (isGl_of hg hs) (G.blt _ (by decide +kernel)) (K.E G hs h1) (K.E G hs h2) (plain_star hp _) (plain_star hp2 [])
      · cases h
    · exact K.I G hs h _
  · exact K.I G hs h _
theorem dCompI_parts (K : DenOk tb d) (G : Good X tb) (hs : InSc X c) {elt tg iter : Expr} {ifs : List Expr} {scope : Scope} {m : ME} (h : dCompI tb d c elt tg iter ifs scope = some m) :
    ∃ mi g mt me, m = mComp ((ownOf tb.N scope.names).map (·.2)) g mi mt me ∧ SndI X tg iter mi ∧ BlkOk X.N X.env.scope scope (ownOf tb.N scope.names) ∧ (∀ s H C cl fp, SndG (blkAt X scope s H C cl fp) tg g) ∧ (∀ s H C cl fp, SndTs (blkAt X scope s H C cl fp) ifs mt) ∧
      (∀ s H C cl fp, Snd (blkAt X scope s H C cl fp) elt me) ∧ (∀ i ∈ g.slots, i ∈ (ownOf tb.N scope.names).map (·.2)) ∧ (∀ x, foldedSetIterable iter X.env x = pure x) := by
  unfold dCompI at h
  split at h
  · rename_i hh
    rw [Bool.and_eq_true] at hh
    obtain ⟨hb, hp⟩ := hh
    have ok : BlkOk X.N X.env.scope scope (ownOf tb.N scope.names) := by rw [G.N, hs.1]; exact blkOk_by hb
    split at h
    · rename_i mi g mt me h1 h2 h3 h4
      split at h
      · rename_i hsl
        cases h
        refine ⟨mi, g, mt, me, rfl, dWalk_ok K G hs h1, ok, fun s H C cl fp => K.G (G.blk ok.kind s H C cl fp) (hs.blk scope s H C cl fp) h2, fun s H C cl fp => ?_, fun s H C cl fp => K.E (G.blk ok.kind s H C cl fp) (hs.blk scope s H C cl fp) h4, fun i hi => ?_, fun x => plain_fold hp x⟩
        · split at h3
          · cases h3; exact sndTs_nil
          · exact sndTs_one (K.T (G.blk ok.kind s H C cl fp) (hs.blk scope s H C cl fp) h3)
          · cases h3
        · have q := List.all_eq_true.mp hsl i hi
          simpa using q
      · cases h
    · cases h
  · cases h
theorem dCompO_parts (K : DenOk tb d) (G : Good X tb) (hs : InSc X c) {elt tg iter : Expr} {ifs : List Expr} {scope : Scope} {m : ME} (h : dCompO tb d c elt tg iter ifs scope = some m) :
    ∃ mi g mt me, m = mCompO ((ownOf tb.N scope.names).map (·.2)) g mi mt me ∧ Snd X iter mi ∧ BlkOk X.N X.env.scope scope (ownOf tb.N scope.names) ∧ (∀ s H C cl fp, SndG (blkAt X scope s H C cl fp) tg g) ∧ (∀ s H C cl fp, SndTs (blkAt X scope s H C cl fp) ifs mt) ∧
      (∀ s H C cl fp, Snd (blkAt X scope s H C cl fp) elt me) ∧ (∀ i ∈ g.slots, i ∈ (ownOf tb.N scope.names).map (·.2)) ∧ (∀ x, foldedSetIterable iter X.env x = pure x) := by
  unfold dCompO at h
  split at h
  · rename_i hh
    rw [Bool.and_eq_true] at hh
    obtain ⟨hb, hp⟩ := hh
    have ok : BlkOk X.N X.env.scope scope (ownOf tb.N scope.names) := by rw [G.N, hs.1]; exact blkOk_by hb
    split at h
    · rename_i mi g mt me h1 h2 h3 h4
      split at h
      · rename_i hsl
        cases h
        refine ⟨mi, g, mt, me, rfl, K.E G hs h1, ok, fun s H C cl fp => K.G (G.blk ok.kind s H C cl fp) (hs.blk scope s H C cl fp) h2, fun s H C cl fp => ?_, fun s H C cl fp => K.E (G.blk ok.kind s H C cl fp) (hs.blk scope s H C cl fp) h4, fun i hi => ?_, fun x => plain_fold hp x⟩
        · split at h3
          · cases h3; exact sndTs_nil
          · exact sndTs_one (K.T (G.blk ok.kind s H C cl fp) (hs.blk scope s H C cl fp) h3)
          · cases h3
        · have q := List.all_eq_true.mp hsl i hi
          simpa using q
      · cases h
    · cases h
  · cases h
theorem snd_rev {a : Expr} {ma : ME} {k : Nat} {p1 p2 p3 pos : Pos} (ha : Snd X a ma) : Snd X (.Subscript a (.Slice none none (some (.UnaryOp .USub (.Constant (.int 1) k p1) p2)) p3) pos) (mRev ma) := fun e b as Hi ρ σ H R S h => by
  refine ev_rev (ha e b as Hi ρ σ H _ S ((T.all_bind.mp h).mono fun b1 p _ h1 v H1 Hi1 as1 x1 S1 r1 => ?_))
  obtain ⟨dd, od, q⟩ := d1_post S1 r1 (h1.mono fun _ _ _ z => z.ext x1)
  cases dd with
  | list ds =>
    obtain ⟨a, xs, rfl, hx, rs⟩ := od.list_ S1.sub
    exact ⟨a, xs, rfl, .inl ⟨SqL.of hx, fun p hp => q.newL S1.sub hp rs.reverse⟩⟩
  | tuple ds =>
    obtain ⟨a, xs, rfl, hx, rs, _⟩ := od.tuple_ S1.sub
    exact ⟨a, xs, rfl, .inr ⟨hx, fun p hp => q.newT S1.sub hp rs.reverse⟩⟩
  | _ => exact OPost.no q
theorem dKs_ok (K : DenOk tb d) (G : Good X tb) (hs : InSc X c) {pos : Pos} : ∀ {ks : List (Option Expr)} {vs : List Expr} {m : MK}, dKs d c ks vs = some m → SndK X pos ks vs m
  | [], [], m, h => by cases h; exact sndK_nil
  | [], _ :: _, m, h => by cases h
  | some k :: ks, [], m, h => by cases h
  | none :: ks, _, m, h => by cases h
  | some k :: ks, v :: vs, m, h => by
    simp only [dKs] at h
    split at h
    · rename_i kk mv mr h1 h2 h3
      cases h
      refine sndK_cons ?_ (K.E G hs h2) (dKs_ok K G hs h3)
      cases k <;> first | cases h1 | skip
      rename_i kc j p
      cases kc <;> cases h1
      · exact pe_int
      · exact pe_str
    · cases h
theorem dE_ok (K : DenOk tb d) (G : Good X tb) (hs : InSc X c) {e : Expr} {m : ME} (h : dE tb d c e = some m) : Snd X e m := by
  unfold dE at h
  split at h
  · rw [Option.map_eq_some_iff] at h
    obtain ⟨dd, hd, rfl⟩ := h
    exact dConst_ok hd
  · exact dName_ok G hs h
  · split at h
    · rename_i f ma mb h1 h2 h3
      cases h
      exact snd_bin (op2_B h1) (K.E G hs h2) (K.E G hs h3)
    · cases h
  · rw [Option.map_eq_some_iff] at h
    obtain ⟨ma, h1, rfl⟩ := h
    exact snd_un un_negD (K.E G hs h1)
  · rw [Option.map_eq_some_iff] at h
    obtain ⟨ma, h1, rfl⟩ := h
    exact snd_not (K.E G hs h1)
  · exact snd_one (K.E G hs h)
  · split at h
    · rename_i ma mb h1 h2
      cases h
      exact snd_and (K.E G hs h1) (K.E G hs h2)
    · cases h
  · split at h
    · rename_i ma mb h1 h2
      cases h
      exact snd_or (K.E G hs h1) (K.E G hs h2)
    · cases h
  · split at h
    · rename_i hp
      split at h
      · rename_i f ma mb h1 h2 h3
        cases h
        exact snd_cmp (op2_C G.cx G.units h1) (K.E G hs h2) (K.E G hs h3) (plain_mark hp _)
      · cases h
    · cases h
  · split at h
    · rename_i hp
      split at h
      · rename_i f g ma mb mc h1 h2 h3 h4 h5
        cases h
        exact snd_chain (op2_C G.cx G.units h1) (op2_C G.cx G.units h2) (K.E G hs h3) (K.E G hs h4) (K.E G hs h5) (plain_mark hp _)
      · cases h
    · cases h
  · split at h
    · rename_i mt ma mb h1 h2 h3
      cases h
      exact snd_if (K.T G hs h1) (K.E G hs h2) (K.E G hs h3)
    · cases h
  · exact dCall_ok K G hs h
  · exact dMeth_ok K G hs h
  · rw [Option.map_eq_some_iff] at h
    obtain ⟨ma, h1, rfl⟩ := h
    exact snd_tup (K.A G hs h1)
  · rw [Option.map_eq_some_iff] at h
    obtain ⟨ma, h1, rfl⟩ := h
    exact snd_lst (K.A G hs h1)
  · cases h
    exact snd_dict0
  · split at h
    · rename_i hl
      rw [Option.map_eq_some_iff] at h
      obtain ⟨mk, h1, rfl⟩ := h
      exact snd_dict (dKs_ok K G hs h1) (by simp) (by simp; omega)
    · cases h
  · rw [Option.map_eq_some_iff] at h
    obtain ⟨ma, h1, rfl⟩ := h
    exact snd_rev (K.E G hs h1)
  · split at h
    · rename_i ma l hh h1 h2 h3
      cases h
      exact snd_slice sl2 (K.E G hs h1) (dPart_ok K G hs h2) (dPart_ok K G hs h3)
    · cases h
  · split at h
    · rename_i hp
      split at h
      · rename_i ma mb h1 h2
        cases h
        exact snd_idx (ix2 G.cx (by have := G.units; omega)) (K.E G hs h1) (K.E G hs h2) (plain_ix hp)
      · cases h
    · cases h
  · unfold dComp at h
    split at h
    · obtain ⟨mi, g, mt, me, rfl, q1, q2, q3, q4, q5, q6, q7⟩ := dCompO_parts K G hs h
      exact snd_compO G.calm G.nd q1 q2 q3 q4 q5 q6 q7
    · obtain ⟨mi, g, mt, me, rfl, q1, q2, q3, q4, q5, q6, q7⟩ := dCompI_parts K G hs h
      exact snd_comp G.calm G.nd q1 q2 q3 q4 q5 q6 q7
  · cases h
theorem dW_ok (K : DenOk tb d) (G : Good X tb) (hs : InSc X c) {e : Expr} {m : MT} (h : dW d c e = some m) : SndW X e m := by
  unfold dW at h
  split at h
  · rename_i op a p
    cases op
    · exact sndW_and1 (K.T G hs h)
    · exact sndW_or1 (K.T G hs h)
  · split at h
    · rename_i ma mb h1 h2
      cases h
      exact sndW_and (K.T G hs h1) (K.W G hs h2)
    · cases h
  · split at h
    · rename_i ma mb h1 h2
      cases h
      exact sndW_or (K.T G hs h1) (K.W G hs h2)
    · cases h
  · cases h
theorem dT_ok (K : DenOk tb d) (G : Good X tb) (hs : InSc X c) {e : Expr} {m : MT} (h : dT d c e = some m) : SndT X e m := by
  unfold dT at h
  split at h
  · rw [Option.map_eq_some_iff] at h
    obtain ⟨ma, h1, rfl⟩ := h
    exact sndT_not (K.T G hs h1)
  · exact (dW_ok K G hs h).t
  · split at h
    · rename_i hp
      split at h
      · rename_i f ma mb h1 h2 h3
        cases h
        exact sndT_cmp (op2_C G.cx G.units h1) (K.E G hs h2) (K.E G hs h3) (plain_mark hp _)
      · cases h
    · cases h
  · split at h
    · rename_i hp
      split at h
      · rename_i f g ma mb mc h1 h2 h3 h4 h5
        cases h
        exact sndT_chain (op2_C G.cx G.units h1) (op2_C G.cx G.units h2) (K.E G hs h3) (K.E G hs h4) (K.E G hs h5) (plain_mark hp _)
      · cases h
    · cases h
  · split at h
    · rename_i hp
      rw [Option.map_eq_some_iff] at h
      obtain ⟨ma, h1, rfl⟩ := h
      exact sndT_tru (K.E G hs h1) (plain_test hp)
    · cases h
theorem dA_ok (K : DenOk tb d) (G : Good X tb) (hs : InSc X c) {e : List Expr} {m : MA} (h : dA d c e = some m) : SndA X e m := by
  unfold dA at h
  split at h
  · cases h; exact sndA_nil
  · split at h
    · rename_i hp
      split at h
      · rename_i ma mr h1 h2
        cases h
        exact sndA_cons (K.E G hs h1) (K.A G hs h2) (plain_star hp _)
      · cases h
    · cases h
theorem dI_ok (K : DenOk tb d) (G : Good X tb) (hs : InSc X c) {e : Expr} {m : MI} (h : dI tb d c e = some m) (tg : Expr) : SndI X tg e m := by
  have rest : ∀ {e : Expr}, (d.E c e).map mWalk = some m → SndI X tg e m := fun {e} h => by
    rw [Option.map_eq_some_iff] at h
    obtain ⟨ma, h1, rfl⟩ := h
    exact sndI_walk (K.E G hs h1)
  unfold dI at h
  split at h
  · split at h
    · rename_i hh
      simp only [Bool.and_eq_true, decide_eq_true_eq] at hh
      obtain ⟨⟨⟨ex, hg⟩, hp⟩, _⟩ := hh
      subst ex
      rw [Option.map_eq_some_iff] at h
      obtain ⟨ma, h1, rfl⟩ := h
      exact sndI_range1 (isGl_of hg hs) (G.blt _ (by decide +kernel)) (K.E G hs h1) (plain_star hp [])
    · exact rest h
  · split at h
    · rename_i hh
      simp only [Bool.and_eq_true, decide_eq_true_eq] at hh
      obtain ⟨⟨⟨⟨ex, hg⟩, hp⟩, hp2⟩, _⟩ := hh
      subst ex
      split at h
      · rename_i ma mb h1 h2
        cases h
        exact sndI_range2 (isGl_of hg hs) (G.blt _ (by decide +kernel)) (K.E G hs h1) (K.E G hs h2) (plain_star hp _) (plain_star hp2 [])
      · cases h
    · exact rest h
  · exact rest h
theorem plain_assign {e : Expr} (h : plainE e = true) (es : List Expr) (env : Env) : assignEach (e :: es) env = (false, assign e env) :: assignEach es env := by
  cases e <;> first | rfl | exact absurd (show false = true from h) Bool.false_ne_true
theorem dG_ok (K : DenOk tb d) (G : Good X tb) (hs : InSc X c) {e : Expr} {m : Tg} (h : dG tb d c e = some m) : SndG X e m := by
  unfold dG at h
  split at h
  · split at h
    · rename_i hl
      rw [Option.map_eq_some_iff] at h
      obtain ⟨i, hi, rfl⟩ := h
      obtain ⟨q1, q2⟩ := isLoc_of hl hs
      exact sndG_name G.nd (by rw [G.N]; exact ixOf_get hi) q1 q2
    · cases h
  · rw [Option.map_eq_some_iff] at h
    obtain ⟨gs, h1, rfl⟩ := h
    obtain ⟨q1, q2⟩ := K.GsL h1
    exact sndG_tup G.calm (K.Gs G hs h1) (q1 _).1 (q1 _).2 q2
  · cases h
theorem dGs_ok (K : DenOk tb d) (G : Good X tb) (hs : InSc X c) {e : List Expr} {m : Tgs} (h : dGs d c e = some m) : SndGs X e m := by
  unfold dGs at h
  split at h
  · cases h; exact sndGs_nil
  · split at h
    · rename_i hp
      split at h
      · rename_i g gs h1 h2
        cases h
        exact sndGs_cons (K.G G hs h1) (K.Gs G hs h2) (by rw [plain_assign hp]; rfl)
      · cases h
    · cases h
theorem dGs_len (K : DenOk tb d) {e : List Expr} {m : Tgs} (h : dGs d c e = some m) : (∀ env : Env, (assignEach e env).length = e.length ∧ (assignEach e env).findIdx? (·.1) = none) ∧ ∀ ds ρ ρ', m.set ds ρ = some ρ' → ds.length = e.length := by
  unfold dGs at h
  split at h
  · cases h
    refine ⟨fun env => ⟨rfl, rfl⟩, fun ds ρ ρ' q => ?_⟩
    cases ds with
    | nil => rfl
    | cons _ _ => cases q
  · split at h
    · rename_i hp
      split at h
      · rename_i g gs h1 h2
        cases h
        obtain ⟨q1, q2⟩ := K.GsL h2
        refine ⟨fun env => ?_, fun ds ρ ρ' q => ?_⟩
        · rw [plain_assign hp]
          obtain ⟨q3, q4⟩ := q1 env
          refine ⟨by simp [q3], ?_⟩
          simp [List.findIdx?_cons, q4]
        · cases ds with
          | nil => cases q
          | cons dd ds =>
            simp only [Tgs.set] at q
            split at q
            · rw [List.length_cons, List.length_cons, q2 _ _ _ q]
            · cases q
      · cases h
    · cases h
theorem den_ok : ∀ n, DenOk tb (den tb n)
  | 0 => by
    refine ⟨?_, ?_, ?_, ?_, ?_, ?_, ?_, ?_⟩
    · intro X c _ _ e m h
      have h : (none : Option ME) = some m := h
      cases h
    · intro X c _ _ e m h
      have h : (none : Option MT) = some m := h
      cases h
    · intro X c _ _ e m h
      have h : (none : Option MT) = some m := h
      cases h
    · intro X c _ _ e m h
      have h : (none : Option MA) = some m := h
      cases h
    · intro X c _ _ e m h
      have h : (none : Option MI) = some m := h
      cases h
    · intro X c _ _ e m h
      have h : (none : Option Tg) = some m := h
      cases h
    · intro X c _ _ e m h
      have h : (none : Option Tgs) = some m := h
      cases h
    · intro c e m h
      have h : (none : Option Tgs) = some m := h
      cases h
  | n + 1 => by
    have K := den_ok n
    refine ⟨?_, ?_, ?_, ?_, ?_, ?_, ?_, ?_⟩
    · intro X c G hs e m h; exact dE_ok K G hs h
    · intro X c G hs e m h; exact dT_ok K G hs h
    · intro X c G hs e m h; exact dW_ok K G hs h
    · intro X c G hs e m h; exact dA_ok K G hs h
    · intro X c G hs e m h; exact dI_ok K G hs h
    · intro X c G hs e m h; exact dG_ok K G hs h
    · intro X c G hs e m h; exact dGs_ok K G hs h
    · intro c e m h; exact dGs_len K h
end
end Wk

/-! Wk10: the meanings of statements and of defs. -/
namespace Wk
open PySem PySem.Spec PyProof.Rows L2
variable [Ctx]

/-- whether a comprehension stored by its name exchanges its stores -/
def swB (c : Sc) (t : Str) (line : Bool) (scope : Scope) : Bool :=
  decide (c.sc.names.lookup t = some .local) && line && !(scope.names.any fun (n, k) => n == t && (k == .local || k == .cell))
theorem swB_ok {X : Cx} {c : Sc} (hs : InSc X c) (hk : X.env.scope.kind = .function) {elt : Expr} {gs : List Comprehension} {scope : Scope} {pos py : Pos} {y : Str} {l : Nat} :
    swapsWith (.ListComp elt gs scope pos) (some (.Name y py)) l X.env = pure (swB c y (py.line == pos.line) scope) := by
  have hb : X.env.blockKind = .function := by unfold Env.blockKind; rw [hk]; rfl
  have hl : (X.env.kindOf y == some .local) = decide (c.sc.names.lookup y = some .local) := by
    unfold Env.kindOf
    rw [hs.1]
    rw [Bool.eq_iff_iff]; simp
  unfold swapsWith swB
  simp only [hb, hl, Expr.pos]
  rfl
def swNames (c : Sc) (ts : List Expr) : List Str := ts.filterMap fun
      | .Name id pos => if c.sc.names.lookup id == some .local && pos.line == (ts.head?.map (·.pos.line)).getD 0 then some id else none
      | _ => none
/-- the names whose stores are exchanged: told where it is sure -/
def swN (c : Sc) (ts vs : List Expr) : Option (Option (List Str)) :=
  if (!(ts.length == 2 || ts.length == 3) || vs.length != ts.length) = true then some none
  else if (vs.any fun | .Starred .. => true | _ => false) = true then some none
  else if ((swNames c ts).length != ts.length || (swNames c ts).eraseDups.length != (swNames c ts).length) = true then some none
    else if (vs.all (foldedForSure 8)) = true then some none
    else if (vs.all (constantsAlone 8)) = true then none
    else some (some (swNames c ts))
theorem swN_ok {X : Cx} {c : Sc} (hs : InSc X c) (hk : X.env.scope.kind = .function) {ts vs : List Expr} {r : Option (List Str)} {k k2 : Nat} {p p2 : Pos} (h : swN c ts vs = some r) :
    swappedStores [.Tuple ts k p] (.Tuple vs k2 p2) X.env = pure r := by
  have hb : (X.env.blockKind != .function) = false := by unfold Env.blockKind; rw [hk]; rfl
  unfold swN at h
  unfold swappedStores
  simp only [hb, Bool.or_false, Env.kindOf, hs.1]
  split at h
  · rename_i h1
    cases h
    rw [if_pos h1]
  · rename_i h1
    rw [if_neg h1]
    split at h
    · rename_i h2
      cases h
      exact if_pos h2
    · rename_i h2
      refine (if_neg h2).trans ?_
      split at h
      · rename_i h3
        cases h
        exact if_pos h3
      · rename_i h3
        refine (if_neg h3).trans ?_
        split at h
        · rename_i h4
          cases h
          exact if_pos h4
        · rename_i h4
          refine (if_neg h4).trans ?_
          split at h
          · cases h
          · rename_i h5
            cases h
            exact if_neg h5
def isTup : Expr → Bool
  | .Tuple .. => true
  | .List .. => true
  | _ => false
theorem sw_plain {ts : List Expr} {k : Nat} {p : Pos} {v : Expr} {env : Env} (h : plainE v = true) (ht : isTup v = false) : swappedStores [.Tuple ts k p] v env = pure none := by
  cases v <;> first | exact absurd (show false = true from h) Bool.false_ne_true | exact absurd (show true = false from ht) (fun z => Bool.noConfusion z) | rfl
theorem sw_sub {o i : Expr} {p : Pos} {v : Expr} {env : Env} : swappedStores [.Subscript o i p] v env = pure none := by
  cases v <;> rfl

theorem plain_asub {o i : Expr} {p : Pos} {env : Env} (h : plainE i = true) (v : Value) : assign (.Subscript o i p) env v = (do
      let ov ← holding [v] (eval o env)
      let iv ← holding [v, ov] (eval i env)
      standAt p
      holding [v, ov, iv] (setItem ov iv v)
      release [v, ov, iv] []) := by
  cases i <;> first | rfl | exact absurd (show false = true from h) Bool.false_ne_true
/-! ### statements -/
/-- a while's turns, at most -/
def turns : Nat := 1000000
def dAsg (tb : Tbl) (d : Den) (c : Sc) (line : Nat) (t v : Expr) : Option MS :=
  match t with
  | .Name y py => if isLoc c y then (match ixOf y tb.N, v with
    | some i, .ListComp elt [⟨tg, iter, ifs, 0⟩] scope pos => (dComp tb d c elt tg iter ifs scope).map (sSet i)
    | some i, v => if plainE v && !isComp v then (d.E c v).map (sSet i) else none
    | none, _ => none) else none
  | .Tuple [.Name x px, .Name y py] k p => (match v with
    | .Tuple [a, b] _ _ => (match swN c [.Name x px, .Name y py] [a, b] with
      | some (some _) => if plainE a && plainE b && decide (c.sc.names.lookup x = some .local) && decide (c.sc.names.lookup y = some .local) then (match ixOf x tb.N, ixOf y tb.N, d.E c a, d.E c b with
        | some i, some j, some ma, some mb => if i ≠ j then some (sPar i j ma mb) else none
        | _, _, _, _ => none) else none
      | some none => (match d.Gs c [.Name x px, .Name y py], d.E c v with
        | some gs, some mv => some (sUnp gs mv)
        | _, _ => none)
      | none => none)
    | v => if plainE v && !isComp v && !isTup v then (match d.Gs c [.Name x px, .Name y py], d.E c v with
      | some gs, some mv => some (sUnp gs mv)
      | _, _ => none) else none)
  | .Tuple ts _ _ => if plainE v && !isComp v && !isTup v then (match d.Gs c ts, d.E c v with
    | some gs, some mv => some (sUnp gs mv)
    | _, _ => none) else none
  | .Subscript o i _ => if plainE v && !isComp v && !isTup v && plainE i then (match d.E c v, d.E c o, d.E c i with
    | some mv, some mo, some mi => some (sPut mv mo mi)
    | _, _, _ => none) else none
  | _ => none
/-- what isn't reached -/
def sBad : MS := fun _ => .fail
theorem snds_bad {X : Cx} {st : Stmt} : SndS X st sBad := fun _ _ _ _ _ _ _ _ _ h => False.elim h
def dS (tb : Tbl) (d : Den) (s : Sc → List Stmt → Option MS) (c : Sc) : Stmt → Option MS
  | .Pass _ => some sNil
  | .Break _ => some (sFl .bk)
  | .Continue _ => some (sFl .ct)
  | .Expr (.Constant (.str _) _ _) _ => some sNil
  | .Expr e _ => if plainE e && !isComp e then (d.E c e).map sDrop else none
  | .Return (some e) _ => (d.E c e).map sRet
  | .Return none _ => some (sFl (.rt (.val .none)))
  | .Assign [t] v pos => dAsg tb d c pos.line t v
  | .If t a b _ => match d.T c t, s c a, s c b with
    | some mt, some ma, some mb => some (sIf mt ma mb)
    | _, _, _ => none
  | .For tg iter body [] _ => if plainE iter then (if isMu tb iter then (match d.E c iter, d.G c tg, s c body with
    | some mi, some g, some m => some (sForO turns g mi m)
    | _, _, _ => none) else (match dWalk d c tg iter, d.G c tg, s c body with
    | some mi, some g, some m => some (sFor g mi m)
    | _, _, _ => none)) else none
  | .While t body [] _ => match d.T c t, s c body with
    | some mt, some m => some (sWhile turns mt m)
    | _, _ => none
  | .Raise .. => some sBad
  | _ => none
/-- p = _law_pen(_law_script[k:] + _law_script[:k]): the slots of p and k -/
def dPen (tb : Tbl) (c : Sc) : Stmt → Option (Nat × Nat)
  | .Assign [.Name y _] (.Call (.Name px _) [.BinOp (.Subscript (.Name sx _) (.Slice (some (.Name kx _)) none none _) _) .Add (.Subscript (.Name sx2 _) (.Slice none (some (.Name kx2 _)) none _) _) _] [] _) _ =>
    if tb.pn && decide (px = "_law_pen") && decide (sx2 = sx) && decide (kx2 = kx) && isLoc c y && isGl c px && isVis c sx && noDbg sx && isVis c kx && noDbg kx && decide (tb.N[0]? = some sx) then
      (match ixOf y tb.N, ixOf kx tb.N with
      | some i, some k => some (i, k)
      | _, _ => none) else none
  | _ => none
def dSs (tb : Tbl) (d : Den) : Nat → Sc → List Stmt → Option MS
  | 0, _, _ => none
  | _ + 1, _, [] => some sNil
  | n + 1, c, st :: r => match dPen tb c st with
    | some (i, k) => (dSs tb d n c r).map (sPenL i k)
    | none => match dS tb d (dSs tb d n) c st, dSs tb d n c r with
      | some m, some mr => some (sSeq m mr)
      | _, _ => none
section
variable {tb : Tbl} {d : Den} {X : Cx} {c : Sc}
theorem plain_sole {v t : Expr} {l : Nat} {env : Env} (h : plainE v = true) (hc : isComp v = false) : swapsWithSole [t] v l env = pure false := plain_swap h hc (some t) l
theorem unp_ok (K : DenOk tb d) (G : Good X tb) (hs : InSc X c) {ts : List Expr} {v : Expr} {m : MS} {k : Nat} {p pos : Pos} (hp : plainE v = true) (hc : isComp v = false) (hw : swappedStores [.Tuple ts k p] v X.env = pure none)
    (h : (match d.Gs c ts, d.E c v with | some gs, some mv => some (sUnp gs mv) | _, _ => none) = some m) : SndS X (.Assign [.Tuple ts k p] v pos) m := by
  split at h
  · rename_i gs mv h1 h2
    cases h
    obtain ⟨q1, q2⟩ := K.GsL h1
    exact snds_unp G.calm (K.E G hs h2) (K.Gs G hs h1) (q1 _).1 (q1 _).2 q2 (plain_sole hp hc) hw rfl
  · cases h
theorem dAsg_ok (K : DenOk tb d) (G : Good X tb) (hs : InSc X c) {t v : Expr} {m : MS} {pos : Pos} (h : dAsg tb d c pos.line t v = some m) : SndS X (.Assign [t] v pos) m := by
  unfold dAsg at h
  split at h
  · rename_i y py
    split at h
    · rename_i hl
      obtain ⟨q1, q2⟩ := isLoc_of hl hs
      split at h
      · rename_i i elt tg iter ifs scope p2 hi
        rw [Option.map_eq_some_iff] at h
        obtain ⟨mc, hc, rfl⟩ := h
        have hN : X.N[i]? = some y := by rw [G.N]; exact ixOf_get hi
        unfold dComp at hc
        split at hc
        · obtain ⟨mi, g, mt, me, rfl, r1, r2, r3, r4, r5, r6, r7⟩ := dCompO_parts K G hs hc
          have sw := swB_ok hs G.kind (elt := elt) (gs := [⟨tg, iter, ifs, 0⟩]) (scope := scope) (pos := p2) (py := py) (y := y) (l := pos.line)
          cases hb : swB c y (py.line == p2.line) scope with
          | true =>
            rw [hb] at sw
            have hyl : X.env.scope.names.lookup y = some .local := by
              unfold swB at hb
              simp only [Bool.and_eq_true, decide_eq_true_eq] at hb
              rw [hs.1]; exact hb.1.1
            exact snds_setCompO G.calm G.nd hN hyl sw r1 r2 r3 r4 r5 r6 r7
          | false =>
            rw [hb] at sw
            exact snds_set G.nd hN q1 (snd_compO G.calm G.nd r1 r2 r3 r4 r5 r6 r7) sw q2
        · obtain ⟨mi, g, mt, me, rfl, r1, r2, r3, r4, r5, r6, r7⟩ := dCompI_parts K G hs hc
          have sw := swB_ok hs G.kind (elt := elt) (gs := [⟨tg, iter, ifs, 0⟩]) (scope := scope) (pos := p2) (py := py) (y := y) (l := pos.line)
          cases hb : swB c y (py.line == p2.line) scope with
          | true =>
            rw [hb] at sw
            have hyl : X.env.scope.names.lookup y = some .local := by
              unfold swB at hb
              simp only [Bool.and_eq_true, decide_eq_true_eq] at hb
              rw [hs.1]; exact hb.1.1
            exact snds_setComp G.calm G.nd hN hyl sw r1 r2 r3 r4 r5 r6 r7
          | false =>
            rw [hb] at sw
            exact snds_set G.nd hN q1 (snd_comp G.calm G.nd r1 r2 r3 r4 r5 r6 r7) sw q2
      · rename_i i v hi _
        split at h
        · rename_i hh
          simp only [Bool.and_eq_true, Bool.not_eq_true'] at hh
          rw [Option.map_eq_some_iff] at h
          obtain ⟨mv, hv, rfl⟩ := h
          exact snds_set G.nd (by rw [G.N]; exact ixOf_get hi) q1 (K.E G hs hv) (plain_swap hh.1 hh.2 _ _) q2
        · cases h
      · cases h
    · cases h
  · rename_i x px y py k p
    split at h
    · rename_i a b k2 p2
      split at h
      · rename_i nm hsw
        split at h
        · rename_i hh
          simp only [Bool.and_eq_true, decide_eq_true_eq] at hh
          obtain ⟨⟨⟨ha, hb⟩, hx⟩, hy⟩ := hh
          split at h
          · rename_i i j ma mb h1 h2 h3 h4
            split at h
            · rename_i hij
              cases h
              have en : nm = [x, y] := by
                have sw := hsw
                unfold swN at sw
                repeat' (split at sw; · cases sw)
                cases sw
                have e3 : ∀ q : ¬ ((swNames c [.Name x px, .Name y py]).length != [Expr.Name x px, Expr.Name y py].length || (swNames c [.Name x px, .Name y py]).eraseDups.length != (swNames c [.Name x px, .Name y py]).length) = true, swNames c [.Name x px, .Name y py] = [x, y] := by
                  intro q
                  unfold swNames at q ⊢
                  simp only [List.filterMap_cons, List.filterMap_nil, List.head?_cons, Option.map_some, Option.getD_some, hx, hy, beq_self_eq_true, Bool.true_and, Expr.pos] at q ⊢
                  simp only [if_true] at q ⊢
                  by_cases e4 : (py.line == px.line) = true
                  · simp only [e4, if_true] at q ⊢
                  · simp only [e4, if_false] at q ⊢
                    exact absurd q (by simp)
                exact e3 (by assumption)
              subst en
              exact snds_par G.calm G.nd (by rw [G.N]; exact ixOf_get h1) (by rw [G.N]; exact ixOf_get h2) hij (by rw [hs.1]; exact hx) (by rw [hs.1]; exact hy) (K.E G hs h3) (K.E G hs h4) (plain_star ha _) (plain_star hb _) (swN_ok hs G.kind hsw) rfl
            · cases h
          · cases h
        · cases h
      · rename_i hsw
        exact unp_ok K G hs rfl rfl (swN_ok hs G.kind hsw) h
      · cases h
    · split at h
      · rename_i hh
        simp only [Bool.and_eq_true, Bool.not_eq_true'] at hh
        exact unp_ok K G hs hh.1.1 hh.1.2 (sw_plain hh.1.1 hh.2) h
      · cases h
  · split at h
    · rename_i hh
      simp only [Bool.and_eq_true, Bool.not_eq_true'] at hh
      exact unp_ok K G hs hh.1.1 hh.1.2 (sw_plain hh.1.1 hh.2) h
    · cases h
  · split at h
    · rename_i hh
      simp only [Bool.and_eq_true, Bool.not_eq_true'] at hh
      split at h
      · rename_i mv mo mi h1 h2 h3
        cases h
        exact snds_put G.cx (by have := G.units; omega) (K.E G hs h1) (K.E G hs h2) (K.E G hs h3) (plain_asub hh.2) (plain_sole hh.1.1.1 hh.1.1.2) sw_sub rfl
      · cases h
    · cases h
  · cases h
theorem dS_ok (K : DenOk tb d) (G : Good X tb) (hs : InSc X c) {s : Sc → List Stmt → Option MS} (hS : ∀ st m, s c st = some m → SndSs X st m) {st : Stmt} {m : MS} (h : dS tb d s c st = some m) : SndS X st m := by
  unfold dS at h
  split at h
  · cases h; exact snds_pass
  · cases h; exact snds_break
  · cases h; exact snds_continue
  · cases h; exact snds_doc
  · split at h
    · rename_i hh
      simp only [Bool.and_eq_true, Bool.not_eq_true'] at hh
      rw [Option.map_eq_some_iff] at h
      obtain ⟨mv, hv, rfl⟩ := h
      exact snds_drop (K.E G hs hv) (plain_swap hh.1 hh.2 _ _)
    · cases h
  · rw [Option.map_eq_some_iff] at h
    obtain ⟨mv, hv, rfl⟩ := h
    exact snds_ret (K.E G hs hv)
  · cases h; exact snds_retN
  · exact dAsg_ok K G hs h
  · split at h
    · rename_i mt ma mb h1 h2 h3
      cases h
      exact snds_if (K.T G hs h1) (hS _ _ h2) (hS _ _ h3)
    · cases h
  · split at h
    · rename_i hp
      split at h
      · split at h
        · rename_i mi g mb h1 h2 h3
          cases h
          exact snds_forO G.pass G.calm (K.E G hs h1) (K.G G hs h2) (hS _ _ h3) (plain_fold hp)
        · cases h
      · split at h
        · rename_i mi g mb h1 h2 h3
          cases h
          exact snds_for G.pass G.calm (dWalk_ok K G hs h1) (K.G G hs h2) (hS _ _ h3) (plain_fold hp)
        · cases h
    · cases h
  · split at h
    · rename_i mt mb h1 h2
      cases h
      exact snds_while G.pass (K.T G hs h1) (hS _ _ h2)
    · cases h
  · cases h; exact snds_bad
  · cases h
theorem dSs_ok (K : DenOk tb d) (G : Good X tb) (hs : InSc X c) : ∀ (n : Nat) (st : List Stmt) (m : MS), dSs tb d n c st = some m → SndSs X st m
  | 0, _, _, h => by cases h
  | _ + 1, [], _, h => by cases h; exact snds_nil
  | n + 1, st :: r, _, h => by
    simp only [dSs] at h
    split at h
    · rename_i i k hp
      rw [Option.map_eq_some_iff] at h
      obtain ⟨mr, h2, rfl⟩ := h
      unfold dPen at hp
      split at hp
      · split at hp
        · rename_i hh
          simp only [Bool.and_eq_true, decide_eq_true_eq] at hh
          obtain ⟨⟨⟨⟨⟨⟨⟨⟨⟨⟨q0, q1⟩, q2⟩, q3⟩, q4⟩, q5⟩, q6⟩, q7⟩, q8⟩, q9⟩, q10⟩ := hh
          split at hp
          · rename_i i k hi hk
            cases hp
            subst q1 q2 q3
            obtain ⟨fP, fdP, GP, rm, gP, kP, bP⟩ := G.pn q0
            obtain ⟨l1, l2⟩ := isLoc_of q4 hs
            obtain ⟨a1, a2, _⟩ := noDbg_of q7
            obtain ⟨b1, b2, _⟩ := noDbg_of q9
            exact snds_penL G.nd (by rw [G.N]; exact ixOf_get hi) l1 l2 (by rw [G.N]; exact q10) (isVis_of q6 hs) a1 a2 (by rw [G.N]; exact ixOf_get hk) (isVis_of q8 hs) b1 b2 GP G.gd rm (isGl_of q5 hs) gP kP bP (by decide) (dSs_ok K G hs n r mr h2)
          · cases hp
        · cases hp
      · cases hp
    · split at h
      · rename_i m mr h1 h2
        cases h
        exact snds_cons (dS_ok K G hs (fun st m q => dSs_ok K G hs n st m q) h1) (dSs_ok K G hs n r mr h2)
      · cases h
end
/-- a def's meaning -/
def denDef (tb : Tbl) (st : Stmt) : Option MS := dSs tb (den tb 40) 60 ⟨defScope st, fun _ => true⟩ (defBody st)
/-- what is known of the module: its functions, its constants, the built-in names -/
structure Top (P : Program) (w : World) (K : PySem.W.Frag) (mg : Str → Option Value) (base : Heap) (lv : Nat) (fns : List (Str × Fn)) (csts : List (Str × D)) (fv : List (Str × Nat)) (lf : List (Nat × Fn)) : Prop where
  cx : P = Ctx.P ∧ w = Ctx.w
  blt : ∀ x ∈ bltNames, mg x = none
  fns : ∀ x F, fns.lookup x = some F → ∃ k f fd ps, k ≤ lv ∧ FnG P w K mg base k f fd ps (SpF K F.n F.sem) ∧ mg x = some (.ref f) ∧ PySem.W.keepIn K (.ref f) = true ∧ Binds K fd ps []
  csts : ∀ x d, csts.lookup x = some d → ∃ v u, mg x = some u ∧ RelV v u ∧ ∀ Hi, Rp K Hi v d
  fv : ∀ x j, fv.lookup x = some j → ∃ f, mg x = some (.ref f) ∧ Ctx.pf j f
  lf : ∀ j F, lf.lookup j = some F → ∀ f, Ctx.pf j f → ∃ k fd ps, k ≤ lv ∧ FnG P w K mg base k f fd ps (SpF K F.n F.sem) ∧ PySem.W.keepIn K (.ref f) = true ∧ Binds K fd ps []
section
variable {P : Program} {w : World} {K : PySem.W.Frag} {mg : Str → Option Value} {base : Heap}
/-- a def keeps its meaning -/
theorem def_ok {x qual : Str} {st : Stmt} {f : Addr} {fd : FuncData} {N ps : List Str} {lv : Nat} {m : MS} {fns : List (Str × Fn)} {csts : List (Str × D)} {mu : List Str} {fv : List (Str × Nat)} {lf : List (Nat × Fn)} (F : Fun K x qual st f fd) (S : FnScope N ps (defScope st)) (Tp : Top P w K mg base lv fns csts fv lf) (h : denDef ⟨N, fns, csts, mu, fv, lf, false⟩ st = some m) :
    FnG P w K mg base (lv + 1) f fd ps (SpF K ps.length (runFn ps.length N.length m)) := by
  refine fn_ok F S fun cdv A outer s H E gd hr => ?_
  have G : Good (cxOf CX0 P w K mg base N qual (defScope st) f cdv A outer s H E).nox ⟨N, fns, csts, mu, fv, lf, false⟩ := by
    refine ⟨⟨Tp.cx.1, Tp.cx.2⟩, rfl, S.nd, rfl, room65 hr, gd, S.kind, PassesOwn.never, Tp.blt, fun x F hF => ?_, Tp.csts, Tp.fv, fun j F hF f hf => by
      obtain ⟨k, fd, ps, q0, q1, q2, q3⟩ := Tp.lf j F hF f hf
      exact ⟨k, fd, ps, q1, hr.mono q0, q2, q3⟩, fun z => Bool.noConfusion z⟩
    obtain ⟨k, f, fd, ps, q0, q1, q2, q3, q4⟩ := Tp.fns x F hF
    exact ⟨k, f, fd, ps, q1, hr.mono q0, q2, q3, q4⟩
  exact dSs_ok (den_ok 40) G ⟨rfl, rfl⟩ 60 _ _ h
end
end Wk

/-! Wk11: the pen; drawing; the law's end. -/
namespace Wk
open PySem PySem.Spec PyProof.Rows L2
variable [Ctx]

/-! ### drawing -/
def semDraw : Sem' := fun args => match args with
  | [.pen, .val (.int n)] => if decide (0 < n) && decide (n < 1073741824) then .draw n.toNat fun i => .ret ⟨.val (.int (i : Nat)), []⟩ else .fail
  | _ => .fail
/-- a pen as data -/
def penD (ns : List Int) (k l : Int) : D := .dict [(.str "cells", .list (ns.map .int)), (.str "at", .int k), (.str "left", .int l)]
/-- what a draw does to a pen's data -/
structure Draws (sem : Sem') : Prop where
  run : ∀ (ns : List Int) (k l n : Int), 0 ≤ k → k < 2 ^ 23 → 0 ≤ l → 0 < n → n < 1073741824 → ∃ r k' l' : Int, sem [.io (penD ns k l), .val (.int n)] = .ret ⟨.val (.int r), [(penD ns k' l', false)]⟩ ∧ 0 ≤ r ∧ r < n ∧ 0 ≤ k' ∧ k' ≤ k + 1 ∧ 0 ≤ l'
theorem draw_imp {K : PySem.W.Frag} {sem : Sem'} (hd : Draws sem) : ∀ vs H Q E, SpF K 2 semDraw vs H Q E → SpF K 2 sem vs H Q E := by
  rintro vs H Q E ⟨b, Hi, pp, ins, args, hl, hbud, sub, aok, nd, pen, all⟩
  unfold semDraw at all
  split at all
  · rename_i n
    split at all
    · rename_i hn
      simp only [Bool.and_eq_true, decide_eq_true_eq] at hn
      obtain ⟨b', hb, all⟩ := all
      cases aok with
      | pen hp r1 =>
        cases r1 with
        | val rv r2 =>
          cases r2
          cases rv
          rename_i p
          obtain ⟨⟨c, ns, k, l, h1, h2, h3, h4, h5⟩, hpn, _⟩ := pen p hp
          have own : OwnAt K Hi H p (penD ns k l) := .dik h1 (.cons (k := .inr "cells") (.lst h2 (Rps.ofInts ns)) (.cons (k := .inr "at") (.int k) (.cons (k := .inr "left") (.int l) .nil)))
          obtain ⟨r, k', l', e, q1, q2, q3, q4, q5⟩ := hd.run ns k l n h3 (by omega) h5 hn.1 hn.2
          refine ⟨0, Hi, none, [p], [.io (penD ns k l), .val (.int n)], hl, Nat.zero_le _, sub, .io own hpn (.val (.int n) .nil), by simp, fun p hp => (by cases hp), ?_⟩
          rw [e]
          intro v H' Hi' F
          refine all r.toNat (by omega) v H' Hi' ?_
          have rp := F.ios 0 _ p rfl rfl
          obtain ⟨own', hn'⟩ := rp
          obtain ⟨kvs, g1, g2⟩ : ∃ kvs, H' p = some (.dK kvs) ∧ Rpk K Hi' kvs [(.str "cells", .list (ns.map .int)), (.str "at", .int k'), (.str "left", .int l')] := by
            cases own' with
            | dik q r => exact ⟨_, q, r⟩
            | dkt q r n => exact absurd (r.unm n) (by simp [penD, unm])
          have pen' : PenAt b' Hi' H' p := by
            have hk : ∀ {x : Key} {s : Str}, kD x = .str s → x = .inr s := fun {x s} e => by
              cases x with
              | inl i => cases e
              | inr y => cases e; rfl
            generalize hes : [((.str "cells", .list (ns.map .int)) : D × D), (.str "at", .int k'), (.str "left", .int l')] = es at g2
            cases g2 with
            | nil => cases hes
            | @cons x1 v1 r1 d1 e1 a1 t1 =>
              obtain ⟨hes1, hes2⟩ := List.cons.inj hes
              cases t1 with
              | nil => cases hes2
              | @cons x2 v2 r2 d2 e2 a2 t2 =>
                obtain ⟨hes3, hes4⟩ := List.cons.inj hes2
                cases t2 with
                | nil => cases hes4
                | @cons x3 v3 r3 d3 e3 a3 t3 =>
                  obtain ⟨hes5, hes6⟩ := List.cons.inj hes4
                  subst hes6
                  cases t3
                  obtain ⟨k1, w1⟩ := Prod.mk.inj hes1
                  obtain ⟨k2, w2⟩ := Prod.mk.inj hes3
                  obtain ⟨k3, w3⟩ := Prod.mk.inj hes5
                  have z1 := hk k1.symm
                  have z2 := hk k2.symm
                  have z3 := hk k3.symm
                  subst z1 z2 z3
                  subst w1 w2 w3
                  cases a2
                  cases a3
                  cases a1 with
                  | @lst c' xs _ hx rs =>
                    have e5 := rs.ints
                    subst e5
                    exact ⟨c', ns, k', l', g1, hx, q3, by omega, q5⟩
          refine ⟨F.sub, F.old, fun a o z1 z2 z3 => F.same a o z1 (fun z => by cases z) (fun z => ?_), fun a o z => ?_, fun p' hp' => ?_, rfl, fun j x a z => by simp at z, ?_, by omega⟩
          · simp at z; subst z; exact z2 hp
          · rcases F.newi a o z with y | y | y
            · exact .inl y
            · exact .inr (.inl y)
            · simp at y; subst y; rw [hn'] at z; cases z
          · have hp' : pp = some p' := hp'
            rw [hp] at hp'; cases hp'
            exact ⟨pen', hn'⟩
          · have w := F.res
            have w : Rp K Hi' v (.int r) := w
            show Rp K Hi' v (.int ((r.toNat : Nat) : Int))
            rw [Int.toNat_of_nonneg q1]
            exact w
    · exact all.elim
  · exact all.elim

/-! ### what stands in the module -/
def DefIn (K : PySem.W.Frag) (mg : Str → Option Value) (x : Str) (st : Stmt) (ps : List Str) : Prop := ∃ f fd, Fun K x x st f fd ∧ mg x = some (.ref f) ∧ Binds K fd ps []
def CstIn (K : PySem.W.Frag) (mg : Str → Option Value) (x : Str) (d : D) : Prop := ∃ v u, mg x = some u ∧ RelV v u ∧ ∀ Hi, Rp K Hi v d
def FOk (P : Program) (w : World) (K : PySem.W.Frag) (mg : Str → Option Value) (base : Heap) (lv : Nat) (x : Str) (F : Fn) : Prop :=
  ∃ k f fd ps, k ≤ lv ∧ FnG P w K mg base k f fd ps (SpF K F.n F.sem) ∧ mg x = some (.ref f) ∧ PySem.W.keepIn K (.ref f) = true ∧ Binds K fd ps []
section
variable {P : Program} {w : World} {K : PySem.W.Frag} {mg : Str → Option Value} {base : Heap}
theorem FOk.mono {lv lv' : Nat} {x : Str} {F : Fn} (h : FOk P w K mg base lv x F) (hl : lv ≤ lv') : FOk P w K mg base lv' x F := by
  obtain ⟨k, f, fd, ps, q0, q⟩ := h
  exact ⟨k, f, fd, ps, Nat.le_trans q0 hl, q⟩
def FvIn (mg : Str → Option Value) (x : Str) (j : Nat) : Prop := ∃ f, mg x = some (.ref f) ∧ Ctx.pf j f
def LfIn (P : Program) (w : World) (K : PySem.W.Frag) (mg : Str → Option Value) (base : Heap) (lv : Nat) (j : Nat) (F : Fn) : Prop := ∀ f, Ctx.pf j f → ∃ k fd ps, k ≤ lv ∧ FnG P w K mg base k f fd ps (SpF K F.n F.sem) ∧ PySem.W.keepIn K (.ref f) = true ∧ Binds K fd ps []
theorem lookup_memN {j : Nat} {F : Fn} : ∀ {l : List (Nat × Fn)}, l.lookup j = some F → (j, F) ∈ l
  | [], h => by cases h
  | (i, G) :: r, h => by
    rw [List.lookup_cons] at h
    split at h
    · rename_i e
      cases h
      rw [eq_of_beq e]; exact List.mem_cons_self
    · exact List.mem_cons_of_mem _ (lookup_memN h)
theorem LfIn.of {lv j : Nat} {x : Str} {F : Fn} (h : FOk P w K mg base lv x F) (hj : ∀ f, Ctx.pf j f → mg x = some (.ref f)) : LfIn P w K mg base lv j F := fun f hf => by
  obtain ⟨k, f', fd, ps, q0, q1, q2, q3, q4⟩ := h
  have e := (hj f hf).symm.trans q2
  cases e
  exact ⟨k, fd, ps, q0, q1, q3, q4⟩
theorem Top.of {lv : Nat} {fns : List (Str × Fn)} {csts : List (Str × D)} {fv : List (Str × Nat)} {lf : List (Nat × Fn)} (cx : P = Ctx.P ∧ w = Ctx.w) (hb : ∀ x ∈ bltNames, mg x = none) (hf : ∀ p ∈ fns, FOk P w K mg base lv p.1 p.2) (hc : ∀ p ∈ csts, CstIn K mg p.1 p.2) (hv : ∀ p ∈ fv, FvIn mg p.1 p.2) (hl : ∀ p ∈ lf, LfIn P w K mg base lv p.1 p.2) : Top P w K mg base lv fns csts fv lf :=
  ⟨cx, hb, fun x F h => hf (x, F) (PySem.mem_of_lookup h), fun x d h => hc (x, d) (PySem.mem_of_lookup h), fun x j h => hv (x, j) (PySem.mem_of_lookup h), fun j F h => hl (j, F) (lookup_memN h)⟩
theorem FOk.of {x : Str} {st : Stmt} {N ps : List Str} {lv : Nat} {m : MS} {fns : List (Str × Fn)} {csts : List (Str × D)} {mu : List Str} {fv : List (Str × Nat)} {lf : List (Nat × Fn)} {io : Bool} (h : DefIn K mg x st ps) (S : FnScope N ps (defScope st)) (Tp : Top P w K mg base lv fns csts fv lf) (hd : denDef ⟨N, fns, csts, mu, fv, lf, false⟩ st = some m) :
    FOk P w K mg base (lv + 1) x ⟨io, ps.length, runFn ps.length N.length m⟩ := by
  obtain ⟨f, fd, hF, hm, hb⟩ := h
  exact ⟨lv + 1, f, fd, ps, Nat.le_refl _, def_ok hF S Tp hd, hm, hF.kp, hb⟩
theorem FOk.zero {x : Str} {st : Stmt} {ps : List Str} {lv : Nat} (h : DefIn K mg x st ps) : FOk P w K mg base lv x ⟨false, ps.length, fun _ => .fail⟩ := by
  obtain ⟨f, fd, hF, hm, hb⟩ := h
  refine ⟨lv, f, fd, ps, Nat.le_refl _, ⟨fun vs H Q E z => ?_, fun A o s H args us vs Q E _ _ _ _ _ z => ?_⟩, hm, hF.kp, hb⟩
  · obtain ⟨b, Hi, pp, ins, args, hl, _⟩ := z
    exact hl
  · obtain ⟨b, Hi, pp, ins, args, _, _, _, _, _, _, all⟩ := z
    exact all.elim
theorem FOk.draw {x : Str} {lv : Nat} {F : Fn} (h : FOk P w K mg base lv x F) (hn : F.n = 2) (hd : Draws F.sem) : FOk P w K mg base lv x ⟨false, 2, semDraw⟩ := by
  obtain ⟨k, f, fd, ps, q0, q1, q2⟩ := h
  refine ⟨k, f, fd, ps, q0, q1.imp fun vs H Q E z => ?_, q2⟩
  have := draw_imp hd vs H Q E z
  rw [hn]
  exact this

/-! ### the pen is made -/
def hid (H : Hp) (p : Addr) : Hp := fun b => if b = p then none else H b
theorem hid_same (H : Hp) (p : Addr) : Same (hid H p) H := fun b o h => by
  unfold hid at h
  split at h
  · cases h
  · exact h
theorem hid_p (H : Hp) (p : Addr) : hid H p p = none := if_pos rfl
theorem hid_ne {H : Hp} {p b : Addr} (h : b ≠ p) : hid H p b = H b := if_neg h
/-- the law: a pen is made of the script, then the rest -/
def spLaw (K : PySem.W.Frag) : Sp := fun vs H Q _ => ∃ (a : Addr) (ns : List Int), vs = [.ref a] ∧ SqL K H a (ns.map V.int) ∧ ns.length ≤ 63 ∧ ∀ H', Q (.bl true) H'
/-- the slots behind the first statement of the law -/
def lawEn (nl i : Nat) : En := (startEn nl [.scr]).set i .pen
theorem law_fn {st : Stmt} {rest : List Stmt} {f : Addr} {fd : FuncData} {N : List Str} {lv i : Nat} {m : MS} {fns : List (Str × Fn)} {csts : List (Str × D)} {mu : List Str} {fv : List (Str × Nat)} {lf : List (Nat × Fn)} {fP : Addr} {fdP : FuncData} {y px : Str} {p1 p2 p3 p4 p5 : Pos} (F : Fun K "law" "law" st f fd) (S : FnScope N ["_law_script"] (defScope st)) (Tp : Top P w K mg base lv fns csts fv lf)
    (hbody : defBody st = .Assign [.Name y p1] (.Call (.Name px p2) [.Name "_law_script" p3] [] p4) p5 :: rest) (GP : FnG P w K mg base 1 fP fdP ["_law_script"] (spPen K)) (gP : mg px = some (.ref fP)) (kP : PySem.W.keepIn K (.ref fP) = true) (bP : Binds K fdP ["_law_script"] [])
    (hpx : px = "_law_pen") (hlv : 1 ≤ lv) (hi : ixOf y N = some i) (hN0 : N[0]? = some (Str.ofString "_law_script")) (hy : isLoc ⟨defScope st, fun _ => true⟩ y = true) (hg : isGl ⟨defScope st, fun _ => true⟩ px = true) (hs : isVis ⟨defScope st, fun _ => true⟩ "_law_script" = true) (hdb : (px == ("__debug__" : Str)) = false)
    (hm : dSs ⟨N, fns, csts, mu, fv, lf, true⟩ (den ⟨N, fns, csts, mu, fv, lf, true⟩ 40) 60 ⟨defScope st, fun _ => true⟩ rest = some m) (hb : (m (lawEn N.length i)).All (2 ^ 23) fun _ p => p.1 = .rt (.val (.bool true))) :
    FnG P w K mg base (lv + 1) f fd ["_law_script"] (spLaw K) := by
  refine Fun.okG F S (fun vs H Q E h => ?_) (fun cdv A outer s H vs Q E gd hr h => ?_)
  · obtain ⟨a, ns, rfl, _⟩ := h
    rfl
  · obtain ⟨a, ns, rfl, hS, hlen, q⟩ := h
    have G : Good (cxOf CX0 P w K mg base N "law" (defScope st) f cdv A outer s H E).nox ⟨N, fns, csts, mu, fv, lf, true⟩ := by
      refine ⟨⟨Tp.cx.1, Tp.cx.2⟩, rfl, S.nd, rfl, room65 hr, gd, S.kind, PassesOwn.never, Tp.blt, fun x F hF => ?_, Tp.csts, Tp.fv, fun j F hF f hf => by
        obtain ⟨k, fd, ps, q0, q1, q2, q3⟩ := Tp.lf j F hF f hf
        exact ⟨k, fd, ps, q1, hr.mono q0, q2, q3⟩, fun _ => ⟨fP, fdP, GP, hr.mono hlv, by rw [← hpx]; exact gP, kP, bP⟩⟩
      obtain ⟨k, f, fd, ps, q0, q1, q2, q3, q4⟩ := Tp.fns x F hF
      exact ⟨k, f, fd, ps, q1, hr.mono q0, q2, q3, q4⟩
    have hsc : InSc (cxOf CX0 P w K mg base N "law" (defScope st) f cdv A outer s H E).nox ⟨defScope st, fun _ => true⟩ := ⟨rfl, rfl⟩
    obtain ⟨l1, l2⟩ := isLoc_of hy hsc
    rw [hbody]
    refine ⟨_, pss_cons (ps_set S.nd (ixOf_get hi) l1 (pe_callG GP gd (hr.mono hlv) (isGl_of hg hsc) gP kP bP (pa_cons (pe_var hN0 (isVis_of hs hsc) (by decide) (by decide)) pa_nil) hdb rfl rfl) rfl l2) (pss_tSs _ rest), ?_⟩
    have h0 : (L2.start N [V.ref a])[0]? = some (some (V.ref a)) := by unfold L2.start; rfl
    refine ⟨.ref a, h0, a, ns, rfl, hS, fun H' p c ms s1 hp hcn hpc hc' hp' => ?_⟩
    have hS' : SqL K (hid H' p) a (ns.map V.int) := by
      have hs0 : Same H (hid H' p) := fun b o hb => by rw [hid_ne (ne_of_none hb hp)]; exact s1 _ _ hb
      exact hs0.seq hS
    have S0 : SO K ⟨hid H' p, H', some p, []⟩ (2 ^ 23) [] (hid H' p) (lawEn N.length i) ((L2.start N [V.ref a]).set i (some (.ref p))) H' := by
      have base0 : SO K ⟨hid H' p, H', some p, []⟩ (2 ^ 23) [] (hid H' p) (startEn N.length [.scr]) (L2.start N [V.ref a]) H' := by
        refine so_start (N := N) (vs := [V.ref a]) (hid_same H' p) (.scr hS' hlen .nil) (by simp) (Nat.le_refl _) fun p' hpp => ?_
        cases hpp
        exact ⟨⟨c, ms, 0, 0, hp', by rw [hid_ne hpc.symm]; exact hc', Int.le_refl 0, by decide, Int.le_refl 0⟩, hid_p H' p, by simp⟩
      exact base0.set ⟨p, rfl, rfl⟩
    refine dSs_ok (den_ok 40) G hsc 60 _ _ hm _ _ _ _ _ _ _ _ S0 (hb.mono fun b' pr _ e σ1 H1 Hi1 as1 x1 S1 => ?_)
    obtain ⟨fl, ρ1⟩ := pr
    have e : fl = .rt (.val (.bool true)) := e
    subst e
    intro v rv
    have rv : Rp K Hi1 v (.bool true) := rv
    cases rv
    exact q H1
theorem law_fnL {st : Stmt} {f : Addr} {fd : FuncData} {N : List Str} {lv : Nat} {m : MS} {fns : List (Str × Fn)} {csts : List (Str × D)} {mu : List Str} {fv : List (Str × Nat)} {lf : List (Nat × Fn)} {fP : Addr} {fdP : FuncData} (F : Fun K "law" "law" st f fd) (S : FnScope N ["_law_script"] (defScope st)) (Tp : Top P w K mg base lv fns csts fv lf)
    (GP : FnG P w K mg base 1 fP fdP ["_law_script"] (spPen K)) (gP : mg "_law_pen" = some (.ref fP)) (kP : PySem.W.keepIn K (.ref fP) = true) (bP : Binds K fdP ["_law_script"] []) (hlv : 1 ≤ lv)
    (hm : dSs ⟨N, fns, csts, mu, fv, lf, true⟩ (den ⟨N, fns, csts, mu, fv, lf, true⟩ 40) 60 ⟨defScope st, fun _ => true⟩ (defBody st) = some m) (hb : (m (startEn N.length [.scr])).All (2 ^ 23) fun _ p => p.1 = .rt (.val (.bool true))) :
    FnG P w K mg base (lv + 1) f fd ["_law_script"] (spLaw K) := by
  refine Fun.okG F S (fun vs H Q E h => ?_) (fun cdv A outer s H vs Q E gd hr h => ?_)
  · obtain ⟨a, ns, rfl, _⟩ := h
    rfl
  · obtain ⟨a, ns, rfl, hS, hlen, q⟩ := h
    have G : Good (cxOf CX0 P w K mg base N "law" (defScope st) f cdv A outer s H E).nox ⟨N, fns, csts, mu, fv, lf, true⟩ := by
      refine ⟨⟨Tp.cx.1, Tp.cx.2⟩, rfl, S.nd, rfl, room65 hr, gd, S.kind, PassesOwn.never, Tp.blt, fun x F hF => ?_, Tp.csts, Tp.fv, fun j F hF f hf => by
        obtain ⟨k, fd, ps, q0, q1, q2, q3⟩ := Tp.lf j F hF f hf
        exact ⟨k, fd, ps, q1, hr.mono q0, q2, q3⟩, fun _ => ⟨fP, fdP, GP, hr.mono hlv, gP, kP, bP⟩⟩
      obtain ⟨k, f, fd, ps, q0, q1, q2, q3, q4⟩ := Tp.fns x F hF
      exact ⟨k, f, fd, ps, q1, hr.mono q0, q2, q3, q4⟩
    have hsc : InSc (cxOf CX0 P w K mg base N "law" (defScope st) f cdv A outer s H E).nox ⟨defScope st, fun _ => true⟩ := ⟨rfl, rfl⟩
    refine ⟨_, pss_tSs _ _, ?_⟩
    have S0 : SO K ⟨H, H, none, []⟩ (2 ^ 23) [] H (startEn N.length [.scr]) (L2.start N [V.ref a]) H :=
      so_start (N := N) (vs := [V.ref a]) (Same.refl H) (.scr hS hlen .nil) (by simp) (Nat.le_refl _) fun p' hpp => by cases hpp
    refine dSs_ok (den_ok 40) G hsc 60 _ _ hm _ _ _ _ _ _ _ _ S0 (hb.mono fun b' pr _ e σ1 H1 Hi1 as1 x1 S1 => ?_)
    obtain ⟨fl, ρ1⟩ := pr
    have e : fl = .rt (.val (.bool true)) := e
    subst e
    intro v rv
    have rv : Rp K Hi1 v (.bool true) := rv
    cases rv
    exact q H1
end
end Wk

/-! Wk12: the pen's def; what the head tells. -/
namespace Wk
open PySem PySem.Spec PyProof.Rows L2
variable [Ctx]
section
variable {P : Program} {w : World} {K : PySem.W.Frag} {mg : Str → Option Value} {base : Heap}
theorem pen_ok {x : Str} {st : Stmt} {f : Addr} {fd : FuncData} {N : List Str} {k1 k2 k3 k6 k10 k11 : Nat} {q1 q2 q3 q4 q5 q6 q7 q8 q9 q10 q11 q12 q13 : Pos} (F : Fun K x x st f fd) (S : FnScope N ["_law_script"] (defScope st))
    (hbody : defBody st = [.Return (some (.Dict [some (.Constant (.str "cells") k1 q1), some (.Constant (.str "at") k2 q2), some (.Constant (.str "left") k3 q3)]
      [.Call (.Name "list" q4) [.Subscript (.Name "_law_script" q5) (.Slice none (some (.Constant (.int 63) k6 q6)) none q7) q8] [] q9, .Constant (.int 0) k10 q10, .Constant (.int 0) k11 q11] q12)) q13])
    (hN0 : N[0]? = some (Str.ofString "_law_script")) (hb : ∀ x ∈ bltNames, mg x = none) (hs : isVis ⟨defScope st, fun _ => true⟩ "_law_script" = true) (hg : isGl ⟨defScope st, fun _ => true⟩ "list" = true) : FnG P w K mg base 1 f fd ["_law_script"] (spPen K) := by
  refine Fun.okG F S (fun vs H Q E h => ?_) (fun cdv A outer s H vs Q E gd hr h => ?_)
  · obtain ⟨a, ns, rfl, _⟩ := h
    rfl
  · obtain ⟨a, ns, rfl, hS, q⟩ := h
    have hsc : InSc (cxOf CX0 P w K mg base N x (defScope st) f cdv A outer s H E).nox ⟨defScope st, fun _ => true⟩ := ⟨rfl, rfl⟩
    have hv := isVis_of hs hsc
    have hgl := isGl_of hg hsc
    have hml : mg "list" = none := hb _ (by decide +kernel)
    rw [hbody]
    refine ⟨_, pss_one (ps_ret (pe_disp (pps_cons pe_str (pe_callTy call_list_of hgl hml PyProof.Rows.boot_list (pa_cons (pe_slice sl_list (pe_var hN0 hv (by decide) (by decide)) po_none (po_some pe_int)) pa_nil)) (pps_cons pe_str pe_int (pps_cons pe_str pe_int pps_nil))) rfl rfl (by simp) (by simp))), ?_⟩
    have h0 : (L2.start N [V.ref a])[0]? = some (some (V.ref a)) := by unfold L2.start; rfl
    intro p hp
    have s1 : Same H (upd H p (.dK [])) := (Gr.new (Hi := H) (Same.refl H) hp).h
    refine ⟨.ref a, h0, 63, rfl, a, ns.map V.int, rfl, s1.seq hS, fun c0 hc0 => ?_⟩
    have s2 : Same (upd H p (.dK [])) (upd (upd H p (.dK [])) c0 (.lst (cutV (ns.map V.int) none (some 63)))) := (Gr.new (Hi := upd H p (.dK [])) (Same.refl _) hc0).h
    refine ⟨c0, _, rfl, .inl (SqL.of upd_same), fun c hc => ?_⟩
    have npc0 : p ≠ c0 := ne_of_none upd_same hc0
    have hc1 : (upd H p (.dK [])) c = none := s2.free hc
    have npc : p ≠ c := ne_of_none upd_same hc1
    have ncc0 : c0 ≠ c := ne_of_none upd_same hc
    refine ⟨by rw [upd_ne npc, upd_ne npc0, upd_same], [(kCells, .ref c), (kAt, .int 0), (kLeft, .int 0)], rfl, by simp, ?_⟩
    have em : cutV (ns.map V.int) none (some 63) = ((ns.drop (HT.sIx ns.length 0 none)).take (HT.sIx ns.length ns.length (some 63) - HT.sIx ns.length 0 none)).map V.int := by
      unfold cutV
      rw [List.length_map, List.map_take, List.map_drop]
    refine q _ p c _ (fun b o hb => ?_) hp (by have z := hc1; rw [upd_ne npc.symm] at z; exact z) npc (by rw [upd_ne npc.symm, upd_same, em]) upd_same
    have nbp : b ≠ p := ne_of_none hb hp
    have nbc0 : b ≠ c0 := fun z => by
      subst z
      have := s1 _ _ hb
      rw [hc0] at this; cases this
    have nbc : b ≠ c := fun z => by
      subst z
      have := s1 _ _ hb
      rw [hc1] at this; cases this
    rw [upd_ne nbp, upd_ne nbc, upd_ne nbc0, upd_ne nbp]
    exact hb
/-! ### what the head tells -/
theorem def_in {h : Heap} {x : Str} {st : Stmt} {ps : List Str} {f : Addr} {oc : Value} {od an : Option Addr} {sl : Array (Option Value)} {kV dc pm cd ct : Value} (X : K.In h) (G : h.Ns mainGlobals mg)
    (a1 : PySem.W.nsIn K mainGlobals x = some (some (.ref f))) (l1 : K.lookup f = some ⟨oc, od, .func (PySem.W.fnOf x x (defArgs st) (defBody st) (defScope st) .none kV dc pm an cd ct), sl⟩) (c1 : PySem.W.codeIn K cd x = true) (k1 : PySem.W.keepIn K (.ref f) = true)
    (hb : ∀ (kV doc pm : Value) (an : Option Addr) (cdv ct : Value) (us : List Value), us.length = ps.length → bindArgs (PySem.W.fnOf x x (defArgs st) (defBody st) (defScope st) .none kV doc pm an cdv ct) ⟨us, []⟩ = pure (ps.zip us)) : DefIn K mg x st ps := by
  have F := fun_mk (st := st) l1 c1 k1
  exact ⟨f, _, F, PySem.W.mg_of X G a1, F.binds hb⟩
theorem cst_str {h : Heap} {x z : Str} {t : Tok} (X : K.In h) (G : h.Ns mainGlobals mg) (a1 : PySem.W.nsIn K mainGlobals x = some (some (.str z t))) : CstIn K mg x (.str z) :=
  ⟨.str z, _, PySem.W.mg_of X G a1, ⟨t, rfl⟩, fun _ => .str z⟩
theorem cst_int {h : Heap} {x : Str} {z : Int} {t : Tok} (X : K.In h) (G : h.Ns mainGlobals mg) (a1 : PySem.W.nsIn K mainGlobals x = some (some (.int z t))) : CstIn K mg x (.int z) :=
  ⟨.int z, _, PySem.W.mg_of X G a1, ⟨t, rfl⟩, fun _ => .int z⟩
theorem Rps.strsK {K : PySem.W.Frag} {Hi : Hp} : ∀ ss : List Str, Rps K Hi (ss.map V.str) (ss.map .str)
  | [] => .nil
  | s :: ss => .cons (.str s) (Rps.strsK ss)
theorem cst_strs {h : Heap} {x : Str} {ss : List Str} {vs : Array Value} {n : Nat} {sl : Array (Option Value)} {a : Addr} (X : K.In h) (G : h.Ns mainGlobals mg) (a1 : PySem.W.nsIn K mainGlobals x = some (some (.ref a)))
    (l1 : K.lookup a = some ⟨.type "tuple", none, .seq vs n, sl⟩) (hv : Vals (ss.map V.str) vs.toList) (hz : vs.size ≤ 1000) : CstIn K mg x (.tuple (ss.map .str)) := by
  refine ⟨.ref a, _, PySem.W.mg_of X G a1, rfl, fun Hi => .tup (.inr ?_) (Rps.strsK ss)⟩
  exact ⟨_, vs, n, l1, rfl, rfl, Nat.le_trans hz (by rw [sizeLine_eq]; decide), hv⟩
/-- the built-in names are not the module's -/
theorem blt_of {h : Heap} (X : K.In h) (G : h.Ns mainGlobals mg) (hb : ∀ x ∈ bltNames, PySem.W.nsIn K mainGlobals x = some none) : ∀ x ∈ bltNames, mg x = none := fun x hx => PySem.W.mg_none_of X G (hb x hx)
/-- the defs that are used as values, by their places in a row of names -/
def ctxOf (P : Program) (w : World) (mg : Str → Option Value) (FV : List Str) : Ctx := ⟨fun j f => ∃ x, FV[j]? = some x ∧ mg x = some (.ref f), P, w⟩
def PfOk (mg : Str → Option Value) (FV : List Str) : Prop := ∀ j f, Ctx.pf j f ↔ ∃ x, FV[j]? = some x ∧ mg x = some (.ref f)
theorem FvIn.mk' {FV : List Str} {x : Str} {j : Nat} {st : Stmt} {ps : List Str} (h : PfOk mg FV) (hx : FV[j]? = some x) (d : DefIn K mg x st ps) : FvIn mg x j := by
  obtain ⟨f, fd, hF, hm, hb⟩ := d
  exact ⟨f, hm, (h j f).mpr ⟨x, hx, hm⟩⟩
theorem LfIn.mk' {FV : List Str} {x : Str} {j lv : Nat} {F : Fn} (h : PfOk mg FV) (hx : FV[j]? = some x) (o : FOk P w K mg base lv x F) : LfIn P w K mg base lv j F := LfIn.of o fun f hf => by
  obtain ⟨y, hy, hm⟩ := (h j f).mp hf
  rw [hx] at hy; cases hy
  exact hm
end
end Wk

/-! Wk13: meanings are worked out (simp lemmas that step from the inside out); laws of results with draws. -/
namespace Wk
open PySem PySem.Spec PyProof.Rows L2

/-! ### steps -/
section
variable {α β : Type}
/-- a bind whose second half is not looked into -/
def bnd (x : T α) [K : Inhabited (α → T β)] : T β := x.bind K.default
def drw (n : Nat) [K : Inhabited (Nat → T α)] : T α := .draw n K.default
@[simp ↓] theorem b0 {x : T α} {f : α → T β} : x.bind f = @bnd _ _ x ⟨f⟩ := rfl
@[simp ↓] theorem d0 {n : Nat} {k : Nat → T α} : T.draw n k = @drw _ n ⟨k⟩ := rfl
@[simp] theorem bret {a : α} {f : α → T β} : @bnd _ _ (T.ret a) ⟨f⟩ = f a := rfl
@[simp] theorem bfail {f : α → T β} : @bnd _ _ (T.fail : T α) ⟨f⟩ = .fail := rfl
@[simp] theorem bdraw {n : Nat} {k : Nat → T α} {f : α → T β} : @bnd _ _ (@drw _ n ⟨k⟩) ⟨f⟩ = @drw _ n ⟨fun i => (k i).bind f⟩ := rfl
@[simp] theorem bbnd {γ : Type} {x : T γ} {k : γ → T α} {f : α → T β} : @bnd _ _ (@bnd _ _ x ⟨k⟩) ⟨f⟩ = @bnd _ _ x ⟨fun i => (k i).bind f⟩ := T.bind_assoc x
@[simp] theorem all_ret {a : α} {b : Nat} {P : Nat → α → Prop} : (T.ret a).All b P ↔ P b a := Iff.rfl
end
section
variable {ma mc md : ME} {mt nt : MT} {mr : MA} {ms m2 : MS} {ρ : En} {f g : D → D → OV} {f1' : D → OV} {F : List D → OV}
@[simp] theorem e_var {i : Nat} : mVar i ρ = (match ρ.sl[i]? with | some (some r) => .ret (r, ρ) | _ => .fail) := rfl
@[simp] theorem e_c {d : D} : mC d ρ = .ret (.val d, ρ) := rfl
@[simp] theorem e_un : mUn f1' ma ρ = (ma ρ).bind fun p => d1 f1' p.1 p.2 := rfl
@[simp] theorem e_bin : mBin f ma mc ρ = (ma ρ).bind fun p => (mc p.2).bind fun q => d2 f p.1 q.1 q.2 := rfl
@[simp] theorem e_tb : tB' ma ρ = (ma ρ).bind asB := rfl
@[simp] theorem e_not : mNot mt ρ = (mt ρ).bind fun p => .ret (!p.1, p.2) := rfl
@[simp] theorem e_tand : mtAnd mt nt ρ = (mt ρ).bind fun p => if p.1 then nt p.2 else .ret (false, p.2) := rfl
@[simp] theorem e_tor : mtOr mt nt ρ = (mt ρ).bind fun p => if p.1 then .ret (true, p.2) else nt p.2 := rfl
@[simp] theorem e_tru : mTru ma ρ = (ma ρ).bind asT := rfl
@[simp] theorem e_and : mAnd ma mc ρ = (ma ρ).bind fun p => (asB p).bind fun k => if k.1 then mc k.2 else .ret (.val (.bool false), k.2) := rfl
@[simp] theorem e_or : mOr ma mc ρ = (ma ρ).bind fun p => (asB p).bind fun k => if k.1 then .ret (.val (.bool true), k.2) else mc k.2 := rfl
@[simp] theorem e_notv : mNotV ma ρ = (ma ρ).bind fun p => (asB p).bind fun k => .ret (.val (.bool (!k.1)), k.2) := rfl
@[simp] theorem e_ifv : mIf mt ma mc ρ = (mt ρ).bind fun p => if p.1 then ma p.2 else mc p.2 := rfl
@[simp] theorem e_chain : mtChain f g ma mc md ρ = (ma ρ).bind fun p => (mc p.2).bind fun q => (d2 f p.1 q.1 q.2).bind fun k => (asB k).bind fun k => if k.1 then (md k.2).bind fun w => (d2 g q.1 w.1 w.2).bind asB else .ret (false, k.2) := rfl
@[simp] theorem e_anil : maNil ρ = .ret ([], ρ) := rfl
@[simp] theorem e_acons : maCons ma mr ρ = (ma ρ).bind fun p => (mr p.2).bind fun q => .ret (p.1 :: q.1, q.2) := rfl
@[simp] theorem e_disp : mDisp F mr ρ = (mr ρ).bind fun p => match freezes p.2 p.1 with
  | some (ds, ρ1) => ov (F ds) ρ1
  | none => .fail := rfl
@[simp] theorem e_partN {k : Option Int → En → T (Rv × En)} : mPart none k ρ = k none ρ := rfl
@[simp] theorem e_partS {k : Option Int → En → T (Rv × En)} : mPart (some ma) k ρ = (ma ρ).bind fun p => match p.2.deref p.1 with
    | some (.int i) => k (some i) p.2
    | _ => .fail := rfl
@[simp] theorem e_slice {h : D → Option Int → Option Int → OV} {lo hi : Option ME} : mSlice h ma lo hi ρ = (ma ρ).bind fun p => mPart lo (fun l => mPart hi (fun u => d1 (fun d => h d l u) p.1)) p.2 := rfl
@[simp] theorem e_call : mCall F mr ρ = (mr ρ).bind fun p => dn F p.1 p.2 := rfl
@[simp] theorem e_isi {Tt : Ty} : mIsi Tt ma ρ = (ma ρ).bind fun p => d1 (fun d => .v (.bool (isiD Tt d))) p.1 p.2 := rfl
@[simp] theorem e_meth {G : D → List D → OV} : mMeth G ma mr ρ = (ma ρ).bind fun p => match p.2.deref p.1 with
  | some (.str z) => (mr p.2).bind fun q => dn (G (.str z)) q.1 q.2
  | _ => .fail := rfl
@[simp] theorem e_own {Fn : Fn} : mOwn Fn mr ρ = (mr ρ).bind fun p => match argsOf Fn.io p.2 p.1 with
  | some (args, ks, ρ1) => if lives ρ1 ks && decide ks.Nodup && decide (p.1.length = Fn.n) then (Fn.sem args).bind (callEnd ks ρ1) else .fail
  | none => .fail := rfl
@[simp] theorem e_nil : sNil ρ = .ret (.nx, ρ) := rfl
@[simp] theorem e_seq : sSeq ms m2 ρ = (ms ρ).bind fun p => match p.1 with
  | .nx => m2 p.2
  | f => .ret (f, p.2) := rfl
@[simp] theorem e_fl {x : Fl} : sFl x ρ = .ret (x, ρ) := rfl
@[simp] theorem e_drop : sDrop ma ρ = (ma ρ).bind fun p => .ret (.nx, p.2) := rfl
@[simp] theorem e_ret : sRet ma ρ = (ma ρ).bind fun p => .ret (.rt p.1, p.2) := rfl
@[simp] theorem e_set {i : Nat} : sSet i ma ρ = (ma ρ).bind fun p => .ret (.nx, p.2.set i p.1) := rfl
@[simp] theorem e_if : sIf mt ms m2 ρ = (mt ρ).bind fun p => if p.1 then ms p.2 else m2 p.2 := rfl
@[simp] theorem e_for {tg : Tg} {mi : MI} : sFor tg mi ms ρ = (mi ρ).bind fun p => fLoop tg ms p.1 p.2 := rfl
@[simp] theorem e_put {mv mo mi : ME} : sPut mv mo mi ρ = (mv ρ).bind fun v => (mo v.2).bind fun o => (mi o.2).bind fun i => match o.1, i.2.deref i.1, i.2.freeze v.1 with
  | .res k, some kd, some (f, ρ1) => (match ρ1.st[k]? with
    | some (d, false) => (match putD d kd f with
      | some d' => .ret (.nx, { ρ1 with st := ρ1.st.set k (d', false) })
      | none => .fail)
    | _ => .fail)
  | _, _, _ => .fail := rfl
@[simp] theorem e_yes : mtYes ρ = .ret (true, ρ) := rfl
@[simp] theorem e_walk : mWalk ma ρ = (ma ρ).bind fun p => match p.2.freeze p.1 with
  | some (d, ρ1) => (match walkD d with
    | some ds => .ret (ds, ρ1)
    | none => .fail)
  | none => .fail := rfl
@[simp] theorem e_range1 : mRange1 ma ρ = (ma ρ).bind fun p => match p.2.deref p.1 with
  | some (.int n) => if decide (-1000000 ≤ n) && decide (n ≤ 1000000) then .ret (rangeD 0 n.toNat, p.2) else .fail
  | _ => .fail := rfl
@[simp] theorem e_range2 : mRange2 ma mc ρ = (ma ρ).bind fun p => (mc p.2).bind fun q => match q.2.deref p.1, q.2.deref q.1 with
  | some (.int m), some (.int n) => if decide (-400000 ≤ m) && decide (m ≤ 400000) && decide (-400000 ≤ n) && decide (n ≤ 400000) then .ret (rangeD m (n - m).toNat, q.2) else .fail
  | _, _ => .fail := rfl
@[simp] theorem e_d1 {r : Rv} : d1 f1' r ρ = (match ρ.deref r with | some d => ov (f1' d) ρ | none => .fail) := rfl
@[simp] theorem e_d2 {r q : Rv} : d2 f r q ρ = (match ρ.deref r, ρ.deref q with | some d, some d' => ov (f d d') ρ | _, _ => .fail) := rfl
@[simp] theorem e_dn {rs : List Rv} : dn F rs ρ = (match derefs ρ rs with | some ds => ov (F ds) ρ | none => .fail) := rfl
@[simp] theorem e_ders0 : derefs ρ [] = some [] := rfl
@[simp] theorem e_ders {r : Rv} {rs : List Rv} : derefs ρ (r :: rs) = (match ρ.deref r, derefs ρ rs with | some d, some ds => some (d :: ds) | _, _ => none) := rfl
@[simp] theorem e_frs0 : freezes ρ [] = some ([], ρ) := rfl
@[simp] theorem e_frs {r : Rv} {rs : List Rv} : freezes ρ (r :: rs) = (match ρ.freeze r with
    | some (d, ρ1) => (match freezes ρ1 rs with
      | some (ds, ρ2) => some (d :: ds, ρ2)
      | none => none)
    | none => none) := rfl
@[simp] theorem e_ovv {d : D} : ov (.v d) ρ = .ret (.val d, ρ) := rfl
@[simp] theorem e_ovf {d : D} : ov (.f d) ρ = .ret (.res ρ.st.length, ρ.alloc d) := rfl
@[simp] theorem e_ovn : ov .no ρ = .fail := rfl
@[simp] theorem e_asB {p : Rv × En} : asB p = (match p.2.deref p.1 with | some (.bool k) => .ret (k, p.2) | _ => .fail) := rfl
@[simp] theorem e_asT {p : Rv × En} : asT p = (match p.2.deref p.1 with
  | some d => (match truD d with
    | some k => .ret (k, p.2)
    | none => .fail)
  | none => .fail) := rfl
@[simp] theorem e_drv {d : D} : ρ.deref (.val d) = some d := rfl
@[simp] theorem e_drr {k : Nat} : ρ.deref (.res k) = (ρ.st[k]?).map (fun x => x.1) := rfl
@[simp] theorem unm_nil : unm [] = true := rfl
@[simp] theorem unm_str {x : Str} {d : D} {r : List (D × D)} : unm ((.str x, d) :: r) = true := rfl
@[simp] theorem unm_int {x : Int} {d : D} {r : List (D × D)} : unm ((.int x, d) :: r) = true := rfl
@[simp] theorem unm_tup {x : List D} {d : D} {r : List (D × D)} : unm ((.tuple x, d) :: r) = false := rfl
@[simp] theorem tkm_nil : tkm [] = true := rfl
@[simp] theorem tkm_str {x : Str} {d : D} {r : List (D × D)} : tkm ((.str x, d) :: r) = false := rfl
@[simp] theorem tkm_int {x : Int} {d : D} {r : List (D × D)} : tkm ((.int x, d) :: r) = false := rfl
@[simp] theorem tkm_tup {x : List D} {d : D} {r : List (D × D)} : tkm ((.tuple x, d) :: r) = true := rfl
@[simp] theorem e_frv {d : D} : ρ.freeze (.val d) = some (d, ρ) := rfl
@[simp] theorem e_frr {k : Nat} : ρ.freeze (.res k) = (match ρ.st[k]? with
    | some (d, _) => some (d, { ρ with st := ρ.st.set k (d, true) })
    | none => none) := rfl
@[simp] theorem e_ens {i : Nat} {r : Rv} : ρ.set i r = { ρ with sl := ρ.sl.set i (some r) } := rfl
@[simp] theorem e_al {d : D} : ρ.alloc d = { ρ with st := ρ.st ++ [(d, false)] } := rfl
@[simp] theorem e_tg {i : Nat} {d : D} : (Tg.nm i).set d ρ = some (ρ.set i (.val d)) := by unfold Tg.set; rfl
@[simp] theorem e_ao {io : Bool} : argsOf io ρ [] = some ([], [], ρ) := rfl
@[simp] theorem e_aoc {io : Bool} {r : Rv} {rs : List Rv} : argsOf io ρ (r :: rs) = (match argOf io ρ r with
    | some (a, ks, ρ1) => (match argsOf io ρ1 rs with
      | some (as, ks', ρ2) => some (a :: as, ks ++ ks', ρ2)
      | none => none)
    | none => none) := rfl
@[simp] theorem e_ao1 {io : Bool} {d : D} : argOf io ρ (.val d) = some (.val d, [], ρ) := rfl
@[simp] theorem e_ao2 {io : Bool} : argOf io ρ .pen = some (.pen, [], ρ) := rfl
@[simp] theorem e_ao3 {io : Bool} : argOf io ρ .scr = some (.scr, [], ρ) := rfl
@[simp] theorem e_ao4 {io : Bool} {k : Nat} : argOf io ρ (.res k) = (match io, ρ.st[k]? with
    | true, some (d, false) => some (.io d, [k], ρ)
    | _, _ => match ρ.freeze (.res k) with
      | some (d, ρ1) => some (.val d, [], ρ1)
      | none => none) := rfl
@[simp] theorem e_ce {ks : List Nat} {out : Out} : callEnd ks ρ out = (match out.res with
  | .val d => .ret (.val d, { ρ with st := setAll ρ.st ks out.ios })
  | .fresh d => .ret (.res (setAll ρ.st ks out.ios).length, En.alloc { ρ with st := setAll ρ.st ks out.ios } d)
  | .arg j => match ks[j]? with
    | some k => .ret (.res k, { ρ with st := setAll ρ.st ks out.ios })
    | none => .fail) := rfl
@[simp] theorem e_sa0 {st xs : List (D × Bool)} : setAll st [] xs = st := by cases xs <;> rfl
@[simp] theorem e_sac {st xs : List (D × Bool)} {k : Nat} {ks : List Nat} {x : D × Bool} : setAll st (k :: ks) (x :: xs) = setAll (st.set k x) ks xs := rfl
@[simp] theorem e_lv {ks : List Nat} : lives ρ ks = ks.all fun k => match ρ.st[k]? with
  | some (_, false) => true
  | _ => false := rfl
@[simp] theorem e_run {n nl : Nat} {m : MS} {args : List Arg} : runFn n nl m args = if args.length = n then (m (startEn nl args)).bind (finish args) else .fail := rfl
@[simp] theorem e_se {nl : Nat} {args : List Arg} : startEn nl args = ⟨startSl args 0 ++ List.replicate (nl - args.length) none, startSt args⟩ := rfl
@[simp] theorem e_fin {args : List Arg} {p : Fl × En} : finish args p = (match p.1 with
  | .nx => .ret ⟨.val .none, p.2.st.take (startSt args).length⟩
  | .rt (.val d) => .ret ⟨.val d, p.2.st.take (startSt args).length⟩
  | .rt (.res k) => if k < (startSt args).length then .ret ⟨.arg k, p.2.st.take (startSt args).length⟩ else (match p.2.st[k]? with
    | some (d, false) => .ret ⟨.fresh d, p.2.st.take (startSt args).length⟩
    | some (d, true) => .ret ⟨.val d, p.2.st.take (startSt args).length⟩
    | none => .fail)
  | _ => .fail) := rfl
end
section
variable {as : List Arg} {j : Nat} {d : D}
@[simp] theorem s0 : startSl [] j = [] := rfl
@[simp] theorem s1 : startSl (.val d :: as) j = some (.val d) :: startSl as j := rfl
@[simp] theorem s2 : startSl (.io d :: as) j = some (.res j) :: startSl as (j + 1) := rfl
@[simp] theorem s3 : startSl (.pen :: as) j = some .pen :: startSl as j := rfl
@[simp] theorem s4 : startSl (.scr :: as) j = some .scr :: startSl as j := rfl
@[simp] theorem t0 : startSt [] = [] := rfl
@[simp] theorem t1 : startSt (.val d :: as) = startSt as := rfl
@[simp] theorem t2 : startSt (.io d :: as) = (d, false) :: startSt as := rfl
@[simp] theorem t3 : startSt (.pen :: as) = startSt as := rfl
@[simp] theorem t4 : startSt (.scr :: as) = startSt as := rfl
end

/-! ### operators -/
/-- a number's text -/
def istr (i : Int) : Str := Str.ofString (toString i)
def iok (i : Int) : Bool := decide (i.natAbs.log2 < 1920)
/-- texts are the same -/
def seq (x y : Str) : Bool := x == y
theorem seq_iff {x y : Str} : seq x y = true ↔ x = y := by simp [seq]
@[simp] theorem seq_self (x : Str) : seq x x = true := by simp [seq]
section
variable {i j : Int} {x y : Str} {xs ys : List D} {a b : Bool} {es : List (D × D)} {d : D}
@[simp] theorem add_i : oAdd (.int i) (.int j) = .v (.int (i + j)) := rfl
@[simp] theorem add_s : oAdd (.str x) (.str y) = if x.length + y.length ≤ sizeLine then .v (.str (x ++ y)) else .no := rfl
@[simp] theorem add_l : oAdd (.list xs) (.list ys) = if xs.length + ys.length ≤ sizeLine then .f (.list (xs ++ ys)) else .no := rfl
@[simp] theorem add_t : oAdd (.tuple xs) (.tuple ys) = if xs.length + ys.length ≤ sizeLine then .v (.tuple (xs ++ ys)) else .no := rfl
@[simp] theorem sub_i : oSub (.int i) (.int j) = .v (.int (i - j)) := rfl
@[simp] theorem mul_i : oMul (.int i) (.int j) = if small64 i || small64 j then .v (.int (i * j)) else .no := rfl
@[simp] theorem lt_i : cLt (.int i) (.int j) = .v (.bool (decide (i < j))) := rfl
@[simp] theorem le_i : cLe (.int i) (.int j) = .v (.bool (decide (i ≤ j))) := rfl
@[simp] theorem gt_i : cGt (.int i) (.int j) = .v (.bool (decide (j < i))) := rfl
@[simp] theorem ge_i : cGe (.int i) (.int j) = .v (.bool (decide (j ≤ i))) := rfl
@[simp] theorem eq_i : cEq (.int i) (.int j) = .v (.bool (decide (i = j))) := by
  simp [cEq, eqOk, scD, PyData.eqv]; rfl
@[simp] theorem eq_s : cEq (.str x) (.str y) = .v (.bool (seq x y)) := by
  simp only [cEq, eqOk, scD, PyData.eqv]; rfl
@[simp] theorem ne_i : cNe (.int i) (.int j) = .v (.bool (!decide (i = j))) := by
  simp [cNe, eqOk, scD, PyData.eqv]; rfl
@[simp] theorem ne_s : cNe (.str x) (.str y) = .v (.bool (!seq x y)) := by
  simp only [cNe, eqOk, scD, PyData.eqv]; rfl
@[simp] theorem in_s : cIn (.str x) (.str y) = .v (.bool (strIn x y)) := rfl
@[simp] theorem nin_s : cNotIn (.str x) (.str y) = .v (.bool (!strIn x y)) := rfl
@[simp] theorem ix_l : oIdx (.list xs) (.int i) = (match atI xs i with | some d => .v d | none => .no) := rfl
@[simp] theorem ix_t : oIdx (.tuple xs) (.int i) = (match atI xs i with | some d => .v d | none => .no) := rfl
@[simp] theorem ix_s : oIdx (.str x) (.int i) = if x.length ≤ sizeLine then (match atI x.cps.toList i with | some c => .v (.str ⟨#[c]⟩) | none => .no) else .no := rfl
@[simp] theorem ix_ds : oIdx (.dict es) (.str x) = if unm es then (match dGet (.str x) es with | some d => .v d | none => .no) else .no := rfl
@[simp] theorem ix_di : oIdx (.dict es) (.int i) = if unm es then (match dGet (.int i) es with | some d => .v d | none => .no) else .no := rfl
@[simp] theorem sl_s {lo hi : Option Int} : oSl (.str x) lo hi = if x.length ≤ sizeLine then .v (.str (cutS x lo hi)) else .no := rfl
@[simp] theorem sl_l {lo hi : Option Int} : oSl (.list xs) lo hi = .f (.list (cutD xs lo hi)) := rfl
@[simp] theorem sl_t {lo hi : Option Int} : oSl (.tuple xs) lo hi = .v (.tuple (cutD xs lo hi)) := rfl
@[simp] theorem b_f1 {F : D → OV} : f1 F [d] = F d := rfl
@[simp] theorem len_s : bLen (.str x) = if x.length ≤ sizeLine then .v (.int x.length) else .no := rfl
@[simp] theorem len_l : bLen (.list xs) = .v (.int xs.length) := rfl
@[simp] theorem len_t : bLen (.tuple xs) = .v (.int xs.length) := rfl
@[simp] theorem len_d : bLen (.dict es) = .v (.int es.length) := rfl
@[simp] theorem abs_i : bAbs (.int i) = .v (.int (if i < 0 then -i else i)) := rfl
@[simp] theorem int_i : bInt (.int i) = .v (.int i) := rfl
@[simp] theorem int_b : bInt (.bool a) = .v (.int (if a then 1 else 0)) := rfl
@[simp] theorem str_i : bStr (.int i) = if iok i then .v (.str (istr i)) else .no := by
  unfold iok istr
  show (if i.natAbs.log2 < 1920 then OV.v (.str (toString i)) else .no) = _
  by_cases h : i.natAbs.log2 < 1920 <;> simp [h]
@[simp] theorem tr_b : truD (.bool a) = some a := rfl
@[simp] theorem wk_l : walkD (.list xs) = some xs := rfl
@[simp] theorem wk_t : walkD (.tuple xs) = some xs := rfl
@[simp] theorem wk_s : walkD (.str x) = if x.length ≤ sizeLine then some (signs x) else none := rfl
@[simp] theorem z_l : szL xs = if xs.length ≤ sizeLine then .f (.list xs) else .no := rfl
@[simp] theorem z_t : szT xs = if xs.length ≤ sizeLine then .v (.tuple xs) else .no := rfl
@[simp] theorem is_s : isiD .str (.str x) = true := rfl
@[simp] theorem is_b : isiD .bool (.bool a) = true := rfl
@[simp] theorem dg0 {k : D} : dGet k [] = none := rfl
@[simp] theorem dg_s {r : List (D × D)} : dGet (.str x) ((.str y, d) :: r) = if seq y x then some d else dGet (.str x) r := by
  show (if PyData.eqv (.str y) (.str x) = true then some d else dGet (.str x) r) = _
  simp only [PyData.eqv]; rfl
end
/-! ### laws of results -/
/-- at most c draws; every end is as P wants; no way fails -/
def Lt {α : Type} (t : T α) (c : Nat) (P : α → Prop) : Prop := ∀ b, c ≤ b → t.All b fun b' a => b ≤ b' + c ∧ P a
section
variable {α β : Type}
theorem Lt.ret {a : α} {c : Nat} {P : α → Prop} (h : P a) : Lt (.ret a) c P := fun b hb => ⟨Nat.le_add_right _ _, h⟩
theorem Lt.draw {n c : Nat} {k : Nat → T α} {P : α → Prop} (h : ∀ i, i < n → Lt (k i) c P) : Lt (.draw n k) (c + 1) P := fun b hb => by
  refine ⟨b - 1, by omega, fun i hi => (h i hi (b - 1) (by omega)).mono fun b' a _ z => ⟨by omega, z.2⟩⟩
theorem Lt.bind {t : T α} {f : α → T β} {c d : Nat} {P : α → Prop} {Q : β → Prop} (h : Lt t c P) (g : ∀ a, P a → Lt (f a) d Q) : Lt (t.bind f) (c + d) Q := fun b hb => by
  refine T.all_bind.mpr ((h b (by omega)).mono fun b' a hb' z => ?_)
  exact (g a z.2 b' (by omega)).mono fun b2 x _ y => ⟨by omega, y.2⟩
theorem Lt.drw {n c : Nat} {k : Nat → T α} {P : α → Prop} (h : ∀ i, i < n → Lt (k i) c P) : Lt (@drw _ n ⟨k⟩) (c + 1) P := Lt.draw h
theorem Lt.bnd {t : T α} {f : α → T β} {c d : Nat} {P : α → Prop} {Q : β → Prop} (h : Lt t c P) (g : ∀ a, P a → Lt (f a) d Q) : Lt (@bnd _ _ t ⟨f⟩) (c + d) Q := Lt.bind h g
theorem Lt.mono {t : T α} {c d : Nat} {P Q : α → Prop} (h : Lt t c P) (hc : c ≤ d) (g : ∀ a, P a → Q a) : Lt t d Q := fun b hb => (h b (by omega)).mono fun b' a _ z => ⟨by omega, g a z.2⟩
theorem Lt.all {t : T α} {c b : Nat} {P : α → Prop} (h : Lt t c P) (hb : c ≤ b) : t.All b fun _ a => P a := (h b hb).mono fun _ _ _ z => z.2
end

/-! ### comprehensions and loops without draws -/
theorem cLoop_pure {sl0 : List (Option Rv)} {g : Tg} {tt : MT} {el : ME} {st : List (D × Bool)} (c : D → Bool) (f : D → D) : ∀ (ds acc : List D) (sl : List (Option Rv)),
    (∀ d ∈ ds, ∃ ρ1 sl1, g.set d ⟨sl0, st⟩ = some ρ1 ∧ tt ρ1 = .ret (c d, ⟨sl1, st⟩) ∧ (c d = true → ∃ sl2, el ⟨sl1, st⟩ = .ret (.val (f d), ⟨sl2, st⟩))) →
    ∃ sl', cLoop sl0 g tt el ds acc ⟨sl, st⟩ = .ret (acc ++ (ds.filter c).map f, ⟨sl', st⟩)
  | [], acc, sl, h => ⟨sl, by simp [cLoop]⟩
  | d :: ds, acc, sl, h => by
    obtain ⟨ρ1, sl1, h1, h2, h3⟩ := h d List.mem_cons_self
    cases e : c d with
    | true =>
      obtain ⟨sl2, h4⟩ := h3 e
      obtain ⟨sl', h5⟩ := cLoop_pure c f ds (acc ++ [f d]) sl2 fun d hd => h d (List.mem_cons_of_mem _ hd)
      refine ⟨sl', ?_⟩
      simp only [cLoop]
      simp [h1, h2, e, h4, h5]
    | false =>
      obtain ⟨sl', h5⟩ := cLoop_pure c f ds acc sl1 fun d hd => h d (List.mem_cons_of_mem _ hd)
      refine ⟨sl', ?_⟩
      simp only [cLoop]
      simp [h1, h2, e, h5]
theorem comp_pure {own : List Nat} {g : Tg} {mi : MI} {tt : MT} {el : ME} {ρ : En} (ρ' : En) (ds : List D) (c : D → Bool) (f : D → D) (hi : mi ρ = .ret (ds, ρ'))
    (h : ∀ d ∈ ds, ∃ ρ1 sl1, g.set d ⟨wipeS ρ'.sl own, ρ'.st⟩ = some ρ1 ∧ tt ρ1 = .ret (c d, ⟨sl1, ρ'.st⟩) ∧ (c d = true → ∃ sl2, el ⟨sl1, ρ'.st⟩ = .ret (.val (f d), ⟨sl2, ρ'.st⟩))) :
    mComp own g mi tt el ρ = .ret (.res ρ'.st.length, ⟨ρ'.sl, ρ'.st ++ [(.list ((ds.filter c).map f), false)]⟩) := by
  obtain ⟨sl', e⟩ := cLoop_pure c f ds [] ρ'.sl h
  show (mi ρ).bind _ = _
  rw [hi]
  show (cLoop _ g tt el ds [] ⟨ρ'.sl, ρ'.st⟩).bind _ = _
  rw [e]
  rfl
theorem comp_same {own : List Nat} {g : Tg} {mi : MI} {tt : MT} {el : ME} {ρ : En} (ds : List D) (c : D → Bool) (f : D → D) (hi : mi ρ = .ret (ds, ρ))
    (h : ∀ d ∈ ds, ∃ ρ1 sl1, g.set d ⟨wipeS ρ.sl own, ρ.st⟩ = some ρ1 ∧ tt ρ1 = .ret (c d, ⟨sl1, ρ.st⟩) ∧ (c d = true → ∃ sl2, el ⟨sl1, ρ.st⟩ = .ret (.val (f d), ⟨sl2, ρ.st⟩))) :
    mComp own g mi tt el ρ = .ret (.res ρ.st.length, ⟨ρ.sl, ρ.st ++ [(.list ((ds.filter c).map f), false)]⟩) := comp_pure ρ ds c f hi h
/-- each turn holds INV; a list of things all as Q wants -/
theorem cLoop_lt {sl0 : List (Option Rv)} {g : Tg} {tt : MT} {el : ME} {st : List (D × Bool)} {Q : D → Prop} {k : Nat} : ∀ (ds acc : List D) (sl : List (Option Rv)),
    (∀ d ∈ ds, ∃ ρ1, g.set d ⟨sl0, st⟩ = some ρ1 ∧ Lt (tt ρ1) 0 (fun p => ∃ sl1, p.2 = ⟨sl1, st⟩ ∧ (p.1 = true → Lt (el p.2) k (fun q => ∃ d, (∃ sl2, q = (.val d, ⟨sl2, st⟩)) ∧ Q d)))) → (∀ d ∈ acc, Q d) →
    Lt (cLoop sl0 g tt el ds acc ⟨sl, st⟩) (ds.length * k) (fun p => ∃ ds' sl', p = (ds', ⟨sl', st⟩) ∧ ds'.length ≤ acc.length + ds.length ∧ ∀ d ∈ ds', Q d)
  | [], acc, sl, h, ha => by
    simp only [cLoop]
    exact .ret ⟨acc, sl, rfl, by simp, ha⟩
  | d :: ds, acc, sl, h, ha => by
    obtain ⟨ρ1, h1, h2⟩ := h d List.mem_cons_self
    have hh : ∀ acc sl, (∀ d ∈ acc, Q d) → _ := fun acc sl => cLoop_lt ds acc sl fun d hd => h d (List.mem_cons_of_mem _ hd)
    simp only [cLoop, h1]
    refine (Lt.bind (d := (d :: ds).length * k) h2 ?_).mono (by simp) fun _ z => z
    rintro ⟨t, ρ1⟩ ⟨sl1, rfl, h3⟩
    cases t with
    | true =>
      have h3 := h3 rfl
      simp only [if_true]
      refine (Lt.bind (d := ds.length * k) h3 ?_).mono (by simp [Nat.add_mul]; omega) fun _ z => z
      rintro q ⟨d', ⟨sl2, rfl⟩, hq⟩
      simp only [En.freeze]
      refine (hh (acc ++ [d']) sl2 fun x hx => ?_).mono (Nat.le_refl _) ?_
      · rcases List.mem_append.mp hx with z | z
        · exact ha x z
        · rw [List.mem_singleton.mp z]; exact hq
      · rintro p ⟨ds', sl', rfl, z1, z2⟩
        exact ⟨ds', sl', rfl, by simp at z1 ⊢; omega, z2⟩
    | false =>
      simp only [Bool.false_eq_true, if_false]
      refine (hh acc sl1 ha).mono (by simp [Nat.add_mul]) ?_
      rintro p ⟨ds', sl', rfl, z1, z2⟩
      exact ⟨ds', sl', rfl, by simp at z1 ⊢; omega, z2⟩
theorem fLoop_lt {g : Tg} {body : MS} {k : Nat} (INV : En → Prop) {R : Fl × En → Prop} : ∀ (ds : List D) (ρ : En), INV ρ →
    (∀ d ∈ ds, ∀ ρ, INV ρ → ∃ ρ1, g.set d ρ = some ρ1 ∧ Lt (body ρ1) k (fun p => match p.1 with | .nx => INV p.2 | .ct => INV p.2 | .bk => R (.nx, p.2) | .rt r => R (.rt r, p.2))) → (∀ ρ, INV ρ → R (.nx, ρ)) →
    Lt (fLoop g body ds ρ) (ds.length * k) R
  | [], ρ, hi, h, hr => .ret (hr ρ hi)
  | d :: ds, ρ, hi, h, hr => by
    obtain ⟨ρ1, h1, h2⟩ := h d List.mem_cons_self ρ hi
    simp only [fLoop, h1]
    refine (Lt.bind (d := ds.length * k) h2 ?_).mono (by simp [Nat.add_mul]; omega) fun _ z => z
    rintro ⟨fl, ρ2⟩ hp
    have hh := fun hi2 => fLoop_lt INV (R := R) (k := k) (g := g) (body := body) ds ρ2 hi2 (fun d hd => h d (List.mem_cons_of_mem _ hd)) hr
    cases fl with
    | nx => exact hh hp
    | ct => exact hh hp
    | bk => exact .ret hp
    | rt r => exact .ret hp
end Wk

/-! Wk14: the law's draw, worked out. -/
namespace Wk
open PySem PySem.Spec PyProof.Rows L2
def m_law_draw : MS :=
  sSeq (sIf (tB' (mBin cGt (mBin oIdx (mVar 0) (mC (.str "left"))) (mC (.int 0))))
  (sSeq (sSet 2 (mBin oMod (mBin oIdx (mVar 0) (mC (.str "left"))) (mVar 1)))
  (sSeq (sPut (mBin oDiv (mBin oIdx (mVar 0) (mC (.str "left"))) (mVar 1)) (mVar 0) (mC (.str "left")))
  (sSeq (sRet (mVar 2))
  (sNil))))
  (sNil))
  (sSeq (sSet 3 (mBin oIdx (mVar 0) (mC (.str "at"))))
  (sSeq (sPut (mBin oAdd (mVar 3) (mC (.int 1))) (mVar 0) (mC (.str "at")))
  (sSeq (sSet 4 (mBin oAdd (mBin oMul (mC (.int 2017)) (mVar 3)) (mC (.int 331))))
  (sSeq (sIf (tB' (mBin cNe (mBin oIdx (mVar 0) (mC (.str "cells"))) (mDisp szL (maNil))))
  (sSeq (sSet 4 (mBin oIdx (mBin oIdx (mVar 0) (mC (.str "cells"))) (mBin oMod (mVar 3) (mCall (f1 bLen) (maCons (mBin oIdx (mVar 0) (mC (.str "cells"))) (maNil))))))
  (sNil))
  (sNil))
  (sSeq (sIf (mtAnd (tB' (mBin cLt (mVar 3) (mCall (f1 bLen) (maCons (mBin oIdx (mVar 0) (mC (.str "cells"))) (maNil))))) (tB' (mBin cGe (mCall (f1 bAbs) (maCons (mVar 4) (maNil))) (mBin oPow (mC (.int 10)) (mC (.int 18))))))
  (sSeq (sSet 5 (mBin oAdd (mBin oMul (mC (.int 2)) (mCall (f1 bAbs) (maCons (mVar 4) (maNil)))) (mCall (f1 bInt) (maCons (mBin cLt (mVar 4) (mC (.int 0))) (maNil)))))
  (sSeq (sPut (mBin oDiv (mVar 5) (mVar 1)) (mVar 0) (mC (.str "left")))
  (sSeq (sRet (mBin oMod (mVar 5) (mVar 1)))
  (sNil))))
  (sNil))
  (sSeq (sSet 6 (mBin oMod (mBin oPow (mBin oAdd (mBin oAdd (mBin oMod (mVar 4) (mC (.int 2147483563))) (mBin oMul (mC (.int 70657)) (mVar 3))) (mC (.int 47))) (mC (.int 5))) (mC (.int 2147483647))))
  (sSeq (sSet 7 (mBin oMod (mBin oPow (mBin oAdd (mBin oMul (mVar 6) (mBin oAdd (mVar 3) (mC (.int 65543)))) (mBin oMul (mBin oMul (mC (.int 86239)) (mVar 3)) (mVar 3))) (mC (.int 3))) (mC (.int 2147483489))))
  (sSeq (sRet (mBin oMod (mBin oDiv (mVar 7) (mC (.int 32))) (mVar 1)))
  (sNil)))))))))
def F_law_draw_io : Fn := ⟨false, 2, runFn 2 8 m_law_draw⟩
def F_law_draw : Fn := ⟨false, 2, semDraw⟩

theorem canLay_flat {f : D} (h : flatD f = true) (hs : ∀ x, f = .str x → PyData.strOk x = true) : f.canLay0 = true ∧ f.depth = 0 := by
  cases f with
  | none => exact ⟨rfl, rfl⟩
  | bool b => exact ⟨rfl, rfl⟩
  | int i => exact ⟨rfl, rfl⟩
  | str x => exact ⟨hs x rfl, rfl⟩
  | _ => cases h
theorem shaped_flats : ∀ {ds : List D}, (∀ d ∈ ds, flatD d = true ∧ ∀ x, d = .str x → PyData.strOk x = true) → PyData.canLayAll0 ds = true ∧ PyData.depthAll ds = 0
  | [], _ => ⟨rfl, rfl⟩
  | d :: ds, h => by
    have h1 := canLay_flat (h d List.mem_cons_self).1 (h d List.mem_cons_self).2
    have h2 := shaped_flats (ds := ds) fun x hx => h x (List.mem_cons_of_mem _ hx)
    simp [PyData.canLayAll0, PyData.depthAll, h1, h2]
theorem shaped_list {ds : List D} (h : ∀ d ∈ ds, flatD d = true ∧ ∀ x, d = .str x → PyData.strOk x = true) : SeqAt.shaped (.list ds) = true := by
  have := shaped_flats h
  unfold SeqAt.shaped
  rw [PyData.canLay0, PyData.depth, this.1, this.2]; rfl
theorem eqv_nil (ds : List D) : PyData.eqv (.list ds) (.list []) = ds.isEmpty := by
  cases ds <;> simp [PyData.eqv, PyData.eqvAll]
theorem shaped_nil : SeqAt.shaped (.list []) = true := rfl
theorem ne_nil {ds : List D} (h : SeqAt.shaped (.list ds) = true) : cNe (.list ds) (.list []) = .v (.bool (!ds.isEmpty)) := by
  simp [cNe, eqOk, h, shaped_nil, eqv_nil]
theorem eq_nil {ds : List D} (h : SeqAt.shaped (.list ds) = true) : cEq (.list ds) (.list []) = .v (.bool ds.isEmpty) := by
  simp [cEq, eqOk, h, shaped_nil, eqv_nil]
@[simp] theorem ne_ints {ns : List Int} : cNe (.list (ns.map .int)) (.list []) = .v (.bool (!ns.isEmpty)) := by
  rw [ne_nil (shaped_list fun d hd => ?_)]
  · cases ns <;> rfl
  · obtain ⟨i, _, rfl⟩ := List.mem_map.mp hd
    exact ⟨rfl, fun x e => by cases e⟩
@[simp] theorem ne_nil0 : cNe (.list []) (.list []) = .v (.bool false) := rfl
@[simp] theorem eq_nil0 : cEq (.list []) (.list []) = .v (.bool true) := rfl
theorem k1 : seq (Str.ofString "cells") (Str.ofString "left") = false := by decide +kernel
theorem k2 : seq (Str.ofString "at") (Str.ofString "left") = false := by decide +kernel
theorem k3 : seq (Str.ofString "cells") (Str.ofString "at") = false := by decide +kernel
theorem k4 : seq (Str.ofString "left") (Str.ofString "at") = false := by decide +kernel
theorem eqv_seq {x y : Str} : PyData.eqv (.str x) (.str y) = seq x y := by rw [PyData.eqv]; rfl
@[simp] theorem mod_i {i j : Int} : oMod (.int i) (.int j) = if decide (j ≠ 0) then .v (.int (i.fmod j)) else .no := rfl
@[simp] theorem div_i {i j : Int} : oDiv (.int i) (.int j) = if decide (j ≠ 0) && decide (j.natAbs < 1073741824) then .v (.int (i.fdiv j)) else .no := rfl
@[simp] theorem pow_i {i j : Int} : oPow (.int i) (.int j) = if decide (0 ≤ j) && decide (j ≤ 1000000) && decide (i.natAbs < 2 ^ 64) then .v (.int (i ^ j.toNat)) else .no := rfl
@[simp] theorem put_dict {es : List (D × D)} {k v : D} : putD (.dict es) k v = (match keyOf k with
    | some _ => if es.length < sizeLine ∧ unm es = true then some (.dict (dPut k v es)) else none
    | none => match k with
      | .tuple ks => if es.length < sizeLine ∧ tkm es = true ∧ (keysOf ks).isSome = true then some (.dict (dPut (.tuple ks) v es)) else none
      | _ => none) := by
  cases k <;> rfl
theorem put_left {c k l v : D} : dPut (.str "left") v [(.str "cells", c), (.str "at", k), (.str "left", l)] = [(.str "cells", c), (.str "at", k), (.str "left", v)] := by
  simp [dPut, eqv_seq, k1, k2]
theorem put_at {c k l v : D} : dPut (.str "at") v [(.str "cells", c), (.str "at", k), (.str "left", l)] = [(.str "cells", c), (.str "at", v), (.str "left", l)] := by
  simp [dPut, eqv_seq, k3, k4]
@[simp] theorem keyOf_i {x : Int} : keyOf (.int x) = some (.inl x) := rfl
@[simp] theorem keyOf_t {x : List D} : keyOf (.tuple x) = none := rfl
@[simp] theorem keysOf_n : keysOf [] = some [] := rfl
@[simp] theorem keyOf_s {x : Str} : keyOf (.str x) = some (.inr x) := rfl
theorem szl3 : (3 : Nat) < sizeLine := by rw [sizeLine_eq]; decide
theorem szl0 : (0 : Nat) ≤ sizeLine := Nat.zero_le _
theorem draws1 (k l n : Int) (ns : List Int) (hk : 0 ≤ k) (hl : 0 < l) (hn : 0 < n) (hn2 : n < 1073741824) : F_law_draw_io.sem [.io (penD ns k l), .val (.int n)] = .ret ⟨.val (.int (l.fmod n)), [(penD ns k (l.fdiv n), false)]⟩ := by
  have h1 : n ≠ 0 := by omega
  have h2 : n.natAbs < 1073741824 := by omega
  simp [F_law_draw_io, m_law_draw, penD, k1, k2, k3, hl, h1, h2, szl3, put_left]
theorem fmod_lt {a n : Int} (h : 0 < n) : 0 ≤ a.fmod n ∧ a.fmod n < n := ⟨Int.fmod_nonneg_of_pos a h, Int.fmod_lt_of_pos a h⟩
theorem one_small {c k : Int} (hk : 0 ≤ k) (hk2 : k < 2 ^ 23) : (c.fmod 2147483563 + 70657 * k + 47).natAbs < 18446744073709551616 := by
  have := fmod_lt (a := c) (n := 2147483563) (by decide)
  omega
theorem two_small {o k : Int} (ho : 0 ≤ o) (ho2 : o < 2147483647) (hk : 0 ≤ k) (hk2 : k < 2 ^ 23) : (o * (k + 65543) + 86239 * k * k).natAbs < 18446744073709551616 := by
  have h1 : 0 ≤ o * (k + 65543) := Int.mul_nonneg ho (by omega)
  have h2 : o * (k + 65543) ≤ 2147483647 * (2 ^ 23 + 65543) := Int.mul_le_mul (by omega) (by omega) (by omega) (by decide)
  have h3 : 0 ≤ 86239 * k * k := Int.mul_nonneg (Int.mul_nonneg (by decide) hk) hk
  have h4 : 86239 * k * k ≤ (86239 * 2 ^ 23) * 2 ^ 23 := Int.mul_le_mul (by omega) (by omega) hk (by decide)
  omega
theorem natdiv_nonneg {a n : Int} (ha : 0 ≤ a) (h : 0 < n) : 0 ≤ a.fdiv n := Int.fdiv_nonneg ha (Int.le_of_lt h)
def oneD (c k : Int) : Int := ((c.fmod 2147483563 + 70657 * k + 47) ^ 5).fmod 2147483647
def twoD (c k : Int) : Int := ((oneD c k * (k + 65543) + 86239 * k * k) ^ 3).fmod 2147483489
def absD (c : Int) : Int := if c < 0 then -c else c
def bigD (c : Int) : Int := 2 * absD c + (if c < 0 then 1 else 0)
theorem bigD_nonneg (c : Int) : 0 ≤ bigD c := by unfold bigD absD; split <;> omega
theorem twoD_nonneg (c k : Int) : 0 ≤ twoD c k := (fmod_lt (by decide)).1
theorem atI_ints {ns : List Int} (h : ns ≠ []) {k : Int} : ∃ c, atI (ns.map PyData.int) (k.fmod ns.length) = some (.int c) := by
  have hl : 0 < ns.length := List.length_pos_iff.mpr h
  have h2 := fmod_lt (a := k) (n := ns.length) (by omega)
  have h3 : (k.fmod ns.length).toNat < ns.length := by omega
  refine ⟨ns[(k.fmod ns.length).toNat], ?_⟩
  simp [atI, ixN, h2.1, h2.2, h3]
theorem draws_nil (k n : Int) (hk : 0 ≤ k) (hk2 : k < 2 ^ 23) (hn : 0 < n) (hn2 : n < 1073741824) : F_law_draw_io.sem [.io (penD [] k 0), .val (.int n)] = .ret ⟨.val (.int (((twoD (2017 * k + 331) k).fdiv 32).fmod n)), [(penD [] (k + 1) 0, false)]⟩ := by
  have h1 : n ≠ 0 := by omega
  have h2 : n.natAbs < 1073741824 := by omega
  have h3 : ¬ k < 0 := by omega
  have h5 := one_small (c := 2017 * k + 331) hk hk2
  have h6 := two_small (o := oneD (2017 * k + 331) k) (fmod_lt (by decide)).1 (fmod_lt (by decide)).2 hk hk2
  unfold oneD at h6
  have h9 : -18446744073709551616 < k + 65543 := by omega
  have h10 : k + 65543 < 18446744073709551616 := by omega
  have h11 : -18446744073709551616 < k := by omega
  have h12 : k < 18446744073709551616 := by omega
  simp [F_law_draw_io, m_law_draw, penD, k1, k2, k3, h1, h2, h3, szl3, szl0, put_left, put_at, small64, h5, h6, h9, h10, h11, h12, twoD, oneD]
theorem draws_small (k n c : Int) (ns : List Int) (h0 : ns ≠ []) (hc : atI (ns.map PyData.int) (k.fmod ns.length) = some (.int c)) (hs : ¬ (k < ns.length ∧ 1000000000000000000 ≤ absD c)) (hk : 0 ≤ k) (hk2 : k < 2 ^ 23) (hn : 0 < n) (hn2 : n < 1073741824) : F_law_draw_io.sem [.io (penD ns k 0), .val (.int n)] = .ret ⟨.val (.int (((twoD c k).fdiv 32).fmod n)), [(penD ns (k + 1) 0, false)]⟩ := by
  have h1 : n ≠ 0 := by omega
  have h2 : n.natAbs < 1073741824 := by omega
  have h3 : ¬ k < 0 := by omega
  have h5 := one_small (c := c) hk hk2
  have h6 := two_small (o := oneD c k) (fmod_lt (by decide)).1 (fmod_lt (by decide)).2 hk hk2
  unfold oneD at h6
  have h9 : -18446744073709551616 < k + 65543 := by omega
  have h10 : k + 65543 < 18446744073709551616 := by omega
  have h11 : -18446744073709551616 < k := by omega
  have h12 : k < 18446744073709551616 := by omega
  unfold absD at hs
  by_cases h7 : k < ns.length
  · have h8 : ¬ 1000000000000000000 ≤ (if c < 0 then -c else c) := fun z => hs ⟨h7, z⟩
    simp [F_law_draw_io, m_law_draw, penD, k1, k2, k3, h0, hc, h1, h2, h3, h7, h8, szl3, szl0, put_left, put_at, small64, h5, h6, h9, h10, h11, h12, twoD, oneD]
  · simp [F_law_draw_io, m_law_draw, penD, k1, k2, k3, h0, hc, h1, h2, h3, h7, szl3, szl0, put_left, put_at, small64, h5, h6, h9, h10, h11, h12, twoD, oneD]
theorem draws_big (k n c : Int) (ns : List Int) (h0 : ns ≠ []) (hc : atI (ns.map PyData.int) (k.fmod ns.length) = some (.int c)) (h7 : k < ns.length) (h8 : 1000000000000000000 ≤ absD c) (hk : 0 ≤ k) (hk2 : k < 2 ^ 23) (hn : 0 < n) (hn2 : n < 1073741824) : F_law_draw_io.sem [.io (penD ns k 0), .val (.int n)] = .ret ⟨.val (.int ((bigD c).fmod n)), [(penD ns (k + 1) ((bigD c).fdiv n), false)]⟩ := by
  have h1 : n ≠ 0 := by omega
  have h2 : n.natAbs < 1073741824 := by omega
  have h3 : ¬ k < 0 := by omega
  unfold absD at h8
  simp [F_law_draw_io, m_law_draw, penD, k1, k2, k3, h0, hc, h1, h2, h3, h7, h8, szl3, szl0, put_left, put_at, small64, bigD, absD]
theorem draws_ok : Draws F_law_draw_io.sem := ⟨fun ns k l n hk hk2 hl hn hn2 => by
  by_cases h : 0 < l
  · exact ⟨_, _, _, draws1 k l n ns hk h hn hn2, (fmod_lt hn).1, (fmod_lt hn).2, hk, by omega, natdiv_nonneg hl hn⟩
  · obtain rfl : l = 0 := by omega
    by_cases h0 : ns = []
    · subst h0
      exact ⟨_, _, _, draws_nil k n hk hk2 hn hn2, (fmod_lt hn).1, (fmod_lt hn).2, by omega, by omega, by omega⟩
    · obtain ⟨c, hc⟩ := atI_ints h0 (k := k)
      by_cases h8 : k < ns.length ∧ 1000000000000000000 ≤ absD c
      · exact ⟨_, _, _, draws_big k n c ns h0 hc h8.1 h8.2 hk hk2 hn hn2, (fmod_lt hn).1, (fmod_lt hn).2, by omega, by omega, natdiv_nonneg (bigD_nonneg c) hn⟩
      · exact ⟨_, _, _, draws_small k n c ns h0 hc h8 hk hk2 hn hn2, (fmod_lt hn).1, (fmod_lt hn).2, by omega, by omega, by omega⟩⟩
end Wk

/-! Wk15: texts and their lengths; lists that draws choose from; comprehensions over signs. -/
namespace Wk
open PySem PySem.Spec PyProof.Rows L2

/-- a sound text of at most n signs -/
def Sok (n : Nat) (s : Str) : Prop := s.length ≤ n ∧ PyData.strOk s = true
instance (n : Nat) (s : Str) : Decidable (Sok n s) := inferInstanceAs (Decidable (_ ∧ _))
theorem strOk_iff (s : Str) : PyData.strOk s = true ↔ ∀ c ∈ s.cps.toList, c < 0x110000 := by
  unfold PyData.strOk
  rw [Array.all_eq_true']
  simp
theorem len_cps (s : Str) : s.cps.toList.length = s.length := by simp [Str.length]
theorem Sok.mono {m n : Nat} {s : Str} (h : Sok m s) (hm : m ≤ n) : Sok n s := ⟨Nat.le_trans h.1 hm, h.2⟩
theorem app_len (a b : Str) : (a ++ b).length = a.length + b.length := by
  show (a.cps ++ b.cps).size = _
  simp [Str.length]
theorem app_cps (a b : Str) : (a ++ b).cps.toList = a.cps.toList ++ b.cps.toList := by
  show (a.cps ++ b.cps).toList = _
  simp
theorem Sok.app {m k n : Nat} {a b : Str} (ha : Sok m a) (hb : Sok k b) (h : m + k ≤ n) : Sok n (a ++ b) := by
  refine ⟨by rw [app_len]; have := ha.1; have := hb.1; omega, (strOk_iff _).mpr fun c hc => ?_⟩
  rw [app_cps] at hc
  rcases List.mem_append.mp hc with z | z
  · exact (strOk_iff _).mp ha.2 c z
  · exact (strOk_iff _).mp hb.2 c z
theorem cut_cps (s : Str) (lo hi : Option Int) : ∃ i j, (cutS s lo hi).cps.toList = (s.cps.toList.drop i).take j := ⟨_, _, show (cutS s lo hi).cps.toList = (s.cps.toList.drop (HT.sIx s.length 0 lo)).take (HT.sIx s.length s.length hi - HT.sIx s.length 0 lo) by unfold cutS; simp⟩
theorem Sok.cut {n : Nat} {s : Str} (h : Sok n s) (lo hi : Option Int) : Sok n (cutS s lo hi) := by
  obtain ⟨i, j, e⟩ := cut_cps s lo hi
  constructor
  · rw [← len_cps, e]
    have := h.1
    rw [← len_cps] at this
    simp only [List.length_take, List.length_drop]
    omega
  · refine (strOk_iff _).mpr fun c hc => (strOk_iff _).mp h.2 c ?_
    rw [e] at hc
    exact List.mem_of_mem_drop (List.mem_of_mem_take hc)
theorem ofString_ok (x : String) : PyData.strOk (Str.ofString x) = true := by
  refine (strOk_iff _).mpr fun c hc => ?_
  rw [Str.ofString_eq_toList] at hc
  have hc : c ∈ x.toList.map Char.toNat := by simpa using hc
  obtain ⟨k, _, rfl⟩ := List.mem_map.mp hc
  have := k.valid
  rcases this with h | h
  · have : k.toNat < 0xd800 := h
    omega
  · exact h.2
theorem ofString_len (x : String) : (Str.ofString x).length = x.toList.length := by
  rw [Str.ofString_eq_toList]; simp [Str.length]
theorem Sok.int {k : Nat} {i : Int} (h0 : 0 ≤ i) (hk : 0 < k) (h : i < 10 ^ k) : Sok k (istr i) := by
  refine ⟨?_, ofString_ok _⟩
  obtain ⟨n, rfl⟩ := Int.eq_ofNat_of_zero_le h0
  unfold istr
  rw [ofString_len]
  show (Nat.repr n).toList.length ≤ k
  rw [Nat.toList_repr]
  exact (Nat.length_toDigits_le_iff (by decide) hk).mpr (by exact_mod_cast h)
theorem log_small {i : Int} (h0 : 0 ≤ i) (h : i < 10 ^ 30) : iok i = true := by
  rw [iok, decide_eq_true_eq]
  by_cases hz : i.natAbs = 0
  · rw [hz]; decide
  · refine (Nat.log2_lt hz).mpr ?_
    have : (10 ^ 30 : Nat) < 2 ^ 1920 := by decide +kernel
    have h2 : i.natAbs < 10 ^ 30 := by
      have : ((10 ^ 30 : Nat) : Int) = 10 ^ 30 := by decide +kernel
      omega
    omega
theorem Sok.sign {z : Str} (hz : PyData.strOk z = true) {c : Nat} (hc : c ∈ z.cps.toList) : Sok 1 ⟨#[c]⟩ :=
  ⟨Nat.le_refl _, (strOk_iff _).mpr fun x hx => by
    have : x = c := by simpa using hx
    subst this
    exact (strOk_iff _).mp hz _ hc⟩
theorem join_sok {m : Nat} : ∀ {ys : List Str}, (∀ y ∈ ys, Sok m y) → Sok (ys.length * m) (Str.join "" ys)
  | [], _ => by
    have : Sok 0 Str.empty := by decide +kernel
    exact this.mono (Nat.zero_le _)
  | [x], h => by
    show Sok _ x
    simpa using h x (by simp)
  | x :: y :: r, h => by
    have e0 : Sok 0 (Str.ofString "") := by decide +kernel
    have := join_sok (ys := y :: r) fun z hz => h z (List.mem_cons_of_mem _ hz)
    show Sok _ (x ++ "" ++ Str.join "" (y :: r))
    exact ((h x List.mem_cons_self).app e0 (Nat.le_refl _)).app this (by simp [Nat.add_mul]; omega)
theorem join_sum {m : Nat} {ys : List Str} (h : ∀ y ∈ ys, Sok m y) : (ys.map (·.length)).sum ≤ ys.length * m := by
  induction ys with
  | nil => simp
  | cons x r ih =>
    have := ih fun z hz => h z (List.mem_cons_of_mem _ hz)
    have := (h x List.mem_cons_self).1
    simp [Nat.add_mul]; omega
theorem mJoin_ok {m : Nat} {ds : List D} (h : ∀ d ∈ ds, ∃ s, d = .str s ∧ Sok m s) (hb : ds.length * m ≤ 1000000) : ∃ s, mJoin (.str "") [.list ds] = .v (.str s) ∧ Sok (ds.length * m) s := by
  obtain ⟨ys, e, hy⟩ : ∃ ys : List Str, ds = ys.map .str ∧ ∀ y ∈ ys, Sok m y := by
    clear hb
    induction ds with
    | nil => exact ⟨[], rfl, by simp⟩
    | cons d r ih =>
      obtain ⟨ys, rfl, hy⟩ := ih fun d hd => h d (List.mem_cons_of_mem _ hd)
      obtain ⟨s, rfl, hs⟩ := h d List.mem_cons_self
      exact ⟨s :: ys, rfl, List.forall_mem_cons.mpr ⟨hs, hy⟩⟩
  subst e
  have ha : ∀ ys : List Str, asStrs (ys.map .str) = some ys := fun ys => by
    induction ys with
    | nil => rfl
    | cons x r ih => simp [asStrs, ih]
  have hl := join_sum hy
  have hm : (ys.map PyData.str).length = ys.length := List.length_map _
  rw [hm] at hb ⊢
  have z0 : (Str.ofString "").length = 0 := by decide +kernel
  refine ⟨Txt.join "" ys, ?_, ?_⟩
  · have : joinOk "" ys = true := by
      unfold joinOk
      rw [decide_eq_true_eq, z0]
      omega
    simp [mJoin, ha, this]
  · rw [show Txt.join "" ys = Str.join "" ys from PySem.StrLaws.glued_eq_join _ _]
    exact join_sok hy

theorem e_comp {own : List Nat} {g : Tg} {mi : MI} {tt : MT} {el : ME} {ρ : En} : mComp own g mi tt el ρ = (mi ρ).bind fun p => (cLoop (wipeS p.2.sl own) g tt el p.1 [] p.2).bind (cDone p.2.sl) := rfl
@[simp] theorem e_done {sl : List (Option Rv)} {q : List D × En} : cDone sl q = .ret (.res q.2.st.length, En.alloc { q.2 with sl := sl } (.list q.1)) := rfl
/-! ### choosing -/
theorem atI_mem {ds : List D} {j : Nat} (h : j < ds.length) : ∃ d, atI ds (j : Int) = some d ∧ d ∈ ds := by
  refine ⟨ds[j], ?_, List.getElem_mem h⟩
  simp [atI, ixN, h]
theorem atI_memN {ds : List Nat} {j : Nat} (h : j < ds.length) : ∃ d, atI ds (j : Int) = some d ∧ d ∈ ds := by
  refine ⟨ds[j], ?_, List.getElem_mem h⟩
  simp [atI, ixN, h]
theorem atI0 {α : Type} (c : α) (r : List α) : atI (c :: r) 0 = some c := by simp [atI, ixN]
theorem atI_nat {α : Type} (xs : List α) (k : Nat) : atI xs (k : Int) = xs[k]? := by
  unfold atI ixN
  by_cases h : k < xs.length
  · simp [h]
  · simp [h]
@[simp] theorem atI_0 {α : Type} (xs : List α) : atI xs 0 = xs[0]? := atI_nat xs 0
@[simp] theorem atI_1 {α : Type} (xs : List α) : atI xs 1 = xs[1]? := atI_nat xs 1
@[simp] theorem atI_2 {α : Type} (xs : List α) : atI xs 2 = xs[2]? := atI_nat xs 2
@[simp] theorem atI_3 {α : Type} (xs : List α) : atI xs 3 = xs[3]? := atI_nat xs 3
@[simp] theorem atI_4 {α : Type} (xs : List α) : atI xs 4 = xs[4]? := atI_nat xs 4
@[simp] theorem atI_5 {α : Type} (xs : List α) : atI xs 5 = xs[5]? := atI_nat xs 5
@[simp] theorem draw_n : F_law_draw.n = 2 := rfl
@[simp] theorem draw_io : F_law_draw.io = false := rfl
@[simp] theorem draw_sem {n : Int} (h : 0 < n) (h2 : n < 1073741824) : F_law_draw.sem [.pen, .val (.int n)] = @drw _ n.toNat ⟨fun i => .ret ⟨.val (.int (i : Nat)), []⟩⟩ := by
  simp [F_law_draw, semDraw, h, h2]
theorem empty_iff (s : Str) : s = "" ↔ s.cps.toList = [] := by
  have h : ("" : Str) = ⟨#[]⟩ := by decide +kernel
  rw [h]
  constructor
  · rintro rfl; rfl
  · intro h
    have : s.cps = #[] := by simpa using h
    cases s; simp only at this; subst this; rfl
theorem sz_of {s : Str} {n : Nat} (h : Sok n s) (hn : n ≤ 16777216) : s.length ≤ sizeLine := by
  rw [sizeLine_eq]; exact Nat.le_trans h.1 hn

theorem ln_le {a b : Str} {m k : Nat} (ha : Sok m a) (hb : Sok k b) (h : m + k ≤ 16777216) : a.length + b.length ≤ sizeLine := by
  rw [sizeLine_eq]; have := ha.1; have := hb.1; omega
theorem sz_le {n : Nat} (h : n ≤ 16777216) : n ≤ sizeLine := by rw [sizeLine_eq]; exact h
@[simp] theorem mul_s {x : Str} {n : Int} : oMul (.str x) (.int n) = if decide (x.length ≤ 1000) && decide (0 ≤ n) && decide (n ≤ 1000) then .v (.str (Txt.mul x n)) else .no := rfl
/-! ### signs -/
/-- a sign that does not stand in z -/
def outD (z : Str) : D → Bool
  | .str x => !strIn x z
  | _ => false
def inBD (z : Str) : D → D
  | .str x => .bool (strIn x z)
  | _ => .none
def allIn (z s : Str) : Bool := s.cps.toList.all fun c => decide (c ∈ z.cps.toList)
theorem out_empty (z s : Str) : ((signs s).filter (outD z)).isEmpty = allIn z s := by
  unfold signs allIn
  induction s.cps.toList with
  | nil => rfl
  | cons c r ih =>
    rw [List.map_cons, List.filter_cons, List.all_cons, ← ih]
    simp only [outD, strIn_one]
    cases decide (c ∈ z.cps.toList) <;> simp
theorem shaped_signs {s : Str} (h : PyData.strOk s = true) (p : D → Bool) : SeqAt.shaped (.list ((signs s).filter p)) = true := by
  refine shaped_list fun d hd => ?_
  obtain ⟨c, hc, rfl⟩ := List.mem_map.mp (List.mem_filter.mp hd).1
  exact ⟨rfl, fun x e => by cases e; exact (Sok.sign h hc).2⟩
theorem asBools_mapS {α : Type} (f : α → Bool) : ∀ xs : List α, asBools (xs.map fun x => .bool (f x)) = some (xs.map f)
  | [] => rfl
  | x :: xs => by simp [asBools, asBools_mapS f xs]
theorem bAll_signs (z s : Str) : bAll (.list ((signs s).map (inBD z))) = .v (.bool (allIn z s)) := by
  have : (signs s).map (inBD z) = s.cps.toList.map fun c => .bool (decide (c ∈ z.cps.toList)) := by
    unfold signs; rw [List.map_map]; refine List.map_congr_left fun c _ => ?_
    simp [inBD, strIn_one]
  rw [this]
  simp only [bAll, asBools_mapS]
  simp only [allIn, List.all_map]; rfl
theorem comp_out {z s : Str} {i : Nat} {ma : ME} {ρ : En} (hs : s.length ≤ sizeLine) (hm : ma ρ = .ret (.val (.str s), ρ)) (hi : i < ρ.sl.length) :
    mComp [i] (.nm i) (mWalk ma) (tB' (mBin cNotIn (mVar i) (mC (.str z)))) (mVar i) ρ = .ret (.res ρ.st.length, ⟨ρ.sl, ρ.st ++ [(.list ((signs s).filter (outD z)), false)]⟩) := by
  have hw : ∀ vs : List Nat, (wipeS ρ.sl vs).length = ρ.sl.length := fun vs => by
    induction vs with
    | nil => rfl
    | cons v vs ih => unfold wipeS; rw [List.length_set, ih]
  have hi := fun vs => (show i < (wipeS ρ.sl vs).length by rw [hw vs]; exact hi)
  have := comp_same (own := [i]) (g := .nm i) (mi := mWalk ma) (tt := tB' (mBin cNotIn (mVar i) (mC (.str z)))) (el := mVar i) (ρ := ρ) (signs s) (outD z) id (by simp [hm, hs]) fun d hd => by
    obtain ⟨c, _, rfl⟩ := List.mem_map.mp hd
    exact ⟨_, _, e_tg, by simp [outD, hi]; rfl, fun _ => ⟨_, by simp [hi]; rfl⟩⟩
  rw [this, List.map_id]
theorem comp_in {z s : Str} {i : Nat} {ma : ME} {ρ : En} (hs : s.length ≤ sizeLine) (hm : ma ρ = .ret (.val (.str s), ρ)) (hi : i < ρ.sl.length) :
    mComp [i] (.nm i) (mWalk ma) mtYes (mBin cIn (mVar i) (mC (.str z))) ρ = .ret (.res ρ.st.length, ⟨ρ.sl, ρ.st ++ [(.list ((signs s).map (inBD z)), false)]⟩) := by
  have hw : ∀ vs : List Nat, (wipeS ρ.sl vs).length = ρ.sl.length := fun vs => by
    induction vs with
    | nil => rfl
    | cons v vs ih => unfold wipeS; rw [List.length_set, ih]
  have hi := fun vs => (show i < (wipeS ρ.sl vs).length by rw [hw vs]; exact hi)
  have := comp_same (own := [i]) (g := .nm i) (mi := mWalk ma) (tt := mtYes) (el := mBin cIn (mVar i) (mC (.str z))) (ρ := ρ) (signs s) (fun _ => true) (inBD z) (by simp [hm, hs]) fun d hd => by
    obtain ⟨c, _, rfl⟩ := List.mem_map.mp hd
    exact ⟨_, _, e_tg, by simp; rfl, fun _ => ⟨_, by simp [inBD, hi]; rfl⟩⟩
  rw [this, List.filter_eq_self.mpr fun _ _ => rfl]
@[simp] theorem wipe0 {sl : List (Option Rv)} : wipeS sl [] = sl := rfl
@[simp] theorem wipec {sl : List (Option Rv)} {v : Nat} {vs : List Nat} : wipeS sl (v :: vs) = (wipeS sl vs).set v none := rfl
@[simp] theorem neg_i {i : Int} : oNeg (.int i) = .v (.int (-i)) := rfl
@[simp] theorem e_dict {mk : MK} {ρ : En} : mDict mk ρ = (mk ρ).bind fun p => match freezes p.2 (p.1.map (·.2)) with
  | some (ds, ρ1) => if p.1.length ≤ 15 then ov (.f (.dict (mergeD [] ((p.1.map (·.1)).zip ds)))) ρ1 else .fail
  | none => .fail := rfl
@[simp] theorem e_knil {ρ : En} : mkNil ρ = .ret ([], ρ) := rfl
@[simp] theorem e_kcons {k : Key} {mv : ME} {mr : MK} {ρ : En} : mkCons k mv mr ρ = (mv ρ).bind fun p => (mr p.2).bind fun q => .ret ((k, p.1) :: q.1, q.2) := rfl
@[simp] theorem merge0 {acc : List (D × D)} : mergeD acc [] = acc := rfl
@[simp] theorem merge1 {acc : List (D × D)} {k : Key} {d : D} {r : List (Key × D)} : mergeD acc ((k, d) :: r) = mergeD (dPut (kD k) d acc) r := rfl
@[simp] theorem kD_s {x : Str} : kD (.inr x) = .str x := rfl
@[simp] theorem kD_i {x : Int} : kD (.inl x) = .int x := rfl
@[simp] theorem dPut0 {k d : D} : dPut k d [] = [(k, d)] := rfl
@[simp] theorem e_rev {ma : ME} {ρ : En} : mRev ma ρ = (ma ρ).bind fun p => d1 (fun d => match d with
  | .list ds => .f (.list ds.reverse)
  | .tuple ds => .v (.tuple ds.reverse)
  | _ => .no) p.1 p.2 := rfl
end Wk

/-! Wk16: methods and more built-ins worked out. -/
namespace Wk
open PySem PySem.Spec PyProof.Rows L2
section
variable {ro : RoT} {mu : MuT} {name : Str} {mo : ME} {mr : MA} {ρ : En} {d e : D} {k kd : Nat} {F : D → List D → Option (D × D)} {G : D → List D → OV} {q : List Rv × En} {r : Rv} {ds es : List D} {i j : Int} {x y : Str}
@[simp] theorem e_mtd : mMtd ro mu name mo mr ρ = (mo ρ).bind fun p => match mutAt mu name p with
  | some (k, kd, F) => (mr p.2).bind (mutDo k kd F)
  | none => match p.2.deref p.1 with
    | some d => (match ro name (kindD d) with
      | some F => (mr p.2).bind (roDo (kindD d) F p.1)
      | none => .fail)
    | none => .fail := rfl
@[simp] theorem mutAt_v : mutAt mu name (.val d, ρ) = none := rfl
@[simp] theorem mutAt_r : mutAt mu name (.res k, ρ) = (match ρ.st[k]? with
    | some (d, false) => (mu name (kindD d)).map fun F => (k, kindD d, F)
    | _ => none) := rfl
@[simp] theorem mutDo_e : mutDo k kd F q = (match freezes q.2 q.1 with
  | some (ds, ρ1) => (match ρ1.st[k]? with
    | some (d, false) => if kindD d = kd then (match F d ds with
      | some (r, d') => .ret (.val r, { ρ1 with st := ρ1.st.set k (d', false) })
      | none => .fail) else .fail
    | _ => .fail)
  | none => .fail) := rfl
@[simp] theorem roDo_e : roDo kd G r q = (match q.2.deref r with
  | some d' => if kindD d' = kd then dn (G d') q.1 q.2 else .fail
  | none => .fail) := rfl
@[simp] theorem kind_s : kindD (.str x) = 3 := rfl
@[simp] theorem kind_l : kindD (.list ds) = 4 := rfl
@[simp] theorem kind_t : kindD (.tuple ds) = 5 := rfl
@[simp] theorem kind_d {es : List (D × D)} : kindD (.dict es) = 6 := rfl
@[simp] theorem mu_append : muT (Str.ofString "append") 4 = some uApp := by kernel_rfl
@[simp] theorem mu_extend : muT (Str.ofString "extend") 4 = some uExt := by kernel_rfl
@[simp] theorem mu_reverse : muT (Str.ofString "reverse") 4 = some uRev := by kernel_rfl
@[simp] theorem mu_pop' : muT (Str.ofString "pop") 4 = some uPop := by kernel_rfl
@[simp] theorem mu_clear : muT (Str.ofString "clear") 4 = some uClr := by kernel_rfl
@[simp] theorem ro_join : roT (Str.ofString "join") 3 = some mJoin := by kernel_rfl
@[simp] theorem ro_upper : roT (Str.ofString "upper") 3 = some mUpper := by kernel_rfl
@[simp] theorem ro_get : roT (Str.ofString "get") 6 = some mGet := by kernel_rfl
@[simp] theorem mu_get : muT (Str.ofString "get") 6 = none := by kernel_rfl
@[simp] theorem uApp_l : uApp (.list ds) [d] = if ds.length < sizeLine then some (.none, .list (ds ++ [d])) else none := rfl
@[simp] theorem uExt_l : uExt (.list ds) [.list es] = if ds.length + es.length ≤ sizeLine then some (.none, .list (ds ++ es)) else none := rfl
@[simp] theorem uRev_l : uRev (.list ds) [] = some (.none, .list ds.reverse) := rfl
@[simp] theorem uClr_l : uClr (.list ds) [] = some (.none, .list []) := rfl
@[simp] theorem uPop_0 : uPop (.list ds) [] = (match ds[ds.length - 1]? with
    | some d => some (d, .list ds.dropLast)
    | none => none) := rfl
@[simp] theorem uPop_i : uPop (.list ds) [.int i] = (match ixN ds.length i with
    | some k => (match ds[k]? with
      | some d => if decide (-(2 ^ 63) ≤ i) && decide (i < 2 ^ 63) then some (d, .list (ds.eraseIdx k)) else none
      | none => none)
    | none => none) := rfl
@[simp] theorem mUpper_e : mUpper (.str x) [] = if x.length ≤ 5592405 then .v (.str (Txt.upper x)) else .no := rfl
@[simp] theorem mGet_s {es : List (D × D)} : mGet (.dict es) [.str x, d] = if unm es && tupflat d then .v ((dGet (.str x) es).getD d) else .no := rfl
@[simp] theorem mGet_1 {es : List (D × D)} : mGet (.dict es) [.str x] = if unm es then .v ((dGet (.str x) es).getD .none) else .no := rfl
@[simp] theorem bRepr_e : bRepr d = if reprOk d then .v (.str d.shown) else .no := rfl
@[simp] theorem bMax_2 : bMax [.int i, .int j] = .v (.int (if j > i then j else i)) := rfl
@[simp] theorem bMin_2 : bMin [.int i, .int j] = .v (.int (if j < i then j else i)) := rfl
@[simp] theorem bMax_l : bMax [.list ds] = (match asInts ds with
    | some ns => if 0 < ns.length then .v (.int (maxI ns)) else .no
    | none => .no) := rfl
@[simp] theorem bMin_l : bMin [.list ds] = (match asInts ds with
    | some ns => if 0 < ns.length then .v (.int (minI ns)) else .no
    | none => .no) := rfl
@[simp] theorem bSum_l : bSum (.list ds) = (match asInts ds with
    | some ns => .v (.int ns.sum)
    | none => .no) := rfl
@[simp] theorem bTuple_l : bTuple (.list ds) = .v (.tuple ds) := rfl
@[simp] theorem bTuple_t : bTuple (.tuple ds) = .v (.tuple ds) := rfl
@[simp] theorem bList_l : bList (.list ds) = .f (.list ds) := rfl
@[simp] theorem bList_t : bList (.tuple ds) = .f (.list ds) := rfl
@[simp] theorem bList_d {es : List (D × D)} : bList (.dict es) = .f (.list (es.map (·.1))) := rfl
end
end Wk

/-! Wk17: data of a bounded size: its repr fits. -/
namespace Wk
open PySem PySem.Spec PyProof.Rows L2

/-- sound data of depth at most n and weight at most W -/
structure Ok (W n : Nat) (d : D) : Prop where
  lay : d.canLay = true
  show_ : d.showable = true
  short : d.leavesShort 45 = true
  deep : d.depth ≤ n
  wt : d.weight ≤ W
instance (W n : Nat) (d : D) : Decidable (Ok W n d) :=
  decidable_of_iff (d.canLay = true ∧ d.showable = true ∧ d.leavesShort 45 = true ∧ d.depth ≤ n ∧ d.weight ≤ W) ⟨fun ⟨a, b, c, e, f⟩ => ⟨a, b, c, e, f⟩, fun h => ⟨h.lay, h.show_, h.short, h.deep, h.wt⟩⟩
theorem Ok.mono {W n W' n' : Nat} {d : D} (h : Ok W n d) (hW : W ≤ W') (hn : n ≤ n') : Ok W' n' d := ⟨h.lay, h.show_, h.short, Nat.le_trans h.deep hn, Nat.le_trans h.wt hW⟩
theorem Ok.repr {W n : Nat} {d : D} (h : Ok W n d) (hW : W ≤ 300000) (hn : n ≤ 60) : reprOk d = true := by
  have e := PyData.shown_le 45 (by decide) d h.short
  have := h.wt
  have := h.deep
  have : (45 + 2) * d.weight ≤ 47 * 300000 := Nat.mul_le_mul (Nat.le_refl _) (by omega)
  unfold reprOk
  simp only [Bool.and_eq_true, decide_eq_true_eq]
  exact ⟨⟨h.show_, by omega⟩, by rw [sizeLine_eq]; omega⟩
theorem Ok.str {k : Nat} {s : Str} (h : Sok k s) : Ok k 0 (.str s) := by
  have hs := h.2
  refine ⟨by simpa [PyData.canLay] using hs, by simp [PyData.showable], ?_, by simp [PyData.depth], by simpa [PyData.weight, Str.length] using h.1⟩
  rw [PyData.leavesShort, List.all_eq_true]
  intro c hc
  have := (strOk_iff _).mp hs c hc
  exact decide_eq_true (by omega)
theorem Ok.sok {W n : Nat} {s : Str} (h : Ok W n (.str s)) : Sok W s := ⟨by simpa [PyData.weight, Str.length] using h.wt, by simpa [PyData.canLay] using h.lay⟩
/-- a list of such data -/
structure Oks (W n : Nat) (ds : List D) : Prop where
  lay : PyData.canLayAll ds = true
  show_ : PyData.showableAll ds = true
  short : PyData.leavesShortAll 45 ds = true
  deep : PyData.depthAll ds ≤ n
  wt : PyData.weightAll ds ≤ W
theorem Oks.mono {W n W' n' : Nat} {ds : List D} (h : Oks W n ds) (hW : W ≤ W') (hn : n ≤ n') : Oks W' n' ds := ⟨h.lay, h.show_, h.short, Nat.le_trans h.deep hn, Nat.le_trans h.wt hW⟩
theorem Oks.nil : Oks 0 0 [] := ⟨by simp [PyData.canLayAll], by simp [PyData.showableAll], by simp [PyData.leavesShortAll], by simp [PyData.depthAll], by simp [PyData.weightAll]⟩
theorem Oks.cons {W W' n : Nat} {d : D} {ds : List D} (h : Ok W n d) (t : Oks W' n ds) : Oks (W + 1 + W') n (d :: ds) := by
  refine ⟨by simp [PyData.canLayAll, h.lay, t.lay], by simp [PyData.showableAll, h.show_, t.show_], by simp [PyData.leavesShortAll, h.short, t.short], ?_, ?_⟩
  · rw [PyData.depthAll]; exact Nat.max_le.mpr ⟨h.deep, t.deep⟩
  · rw [PyData.weightAll]; have := h.wt; have := t.wt; omega
theorem oks_cons {W n : Nat} {d : D} {ds : List D} (h : Oks W n (d :: ds)) : Ok W n d ∧ Oks W n ds ∧ d.weight + 1 + PyData.weightAll ds ≤ W := by
  have h1 := h.lay; have h2 := h.show_; have h3 := h.short; have h4 := h.deep; have h5 := h.wt
  simp only [PyData.canLayAll, PyData.showableAll, PyData.leavesShortAll, Bool.and_eq_true] at h1 h2 h3
  rw [PyData.depthAll] at h4
  rw [PyData.weightAll] at h5
  have := Nat.max_le.mp h4
  exact ⟨⟨h1.1, h2.1, h3.1, this.1, by omega⟩, ⟨h1.2, h2.2, h3.2, this.2, by omega⟩, h5⟩
theorem Oks.mem {W n : Nat} : ∀ {ds : List D}, Oks W n ds → ∀ d ∈ ds, Ok W n d
  | _ :: _, h, d, hd => by
    rcases List.mem_cons.mp hd with rfl | hd
    · exact (oks_cons h).1
    · exact (oks_cons h).2.1.mem d hd
theorem Oks.append {W W' n : Nat} : ∀ {xs ys : List D}, Oks W n xs → Oks W' n ys → Oks (W + W') n (xs ++ ys)
  | [], ys, h, t => t.mono (by omega) (Nat.le_refl _)
  | d :: xs, ys, h, t => by
    obtain ⟨h1, h2, h3⟩ := oks_cons h
    have hd : Ok d.weight n d := ⟨h1.lay, h1.show_, h1.short, h1.deep, Nat.le_refl _⟩
    have hx : Oks (PyData.weightAll xs) n xs := ⟨h2.lay, h2.show_, h2.short, h2.deep, Nat.le_refl _⟩
    exact (Oks.cons hd (hx.append t)).mono (by omega) (Nat.le_refl _)
theorem Oks.sub {W n : Nat} : ∀ {xs ys : List D}, xs.Sublist ys → Oks W n ys → Oks W n xs
  | _, _, .slnil, h => h
  | _, _, .cons _ s, h => (oks_cons h).2.1.sub s
  | _, _, .cons₂ (l₁ := xs) (l₂ := ys) a s, h => by
    obtain ⟨h1, h2, h3⟩ := oks_cons h
    have hd : Ok a.weight n a := ⟨h1.lay, h1.show_, h1.short, h1.deep, Nat.le_refl _⟩
    have hx : Oks (PyData.weightAll ys) n ys := ⟨h2.lay, h2.show_, h2.short, h2.deep, Nat.le_refl _⟩
    exact (Oks.cons hd (hx.sub s)).mono (by omega) (Nat.le_refl _)
theorem Ok.tuple {W n : Nat} {ds : List D} (h : Oks W n ds) : Ok W (n + 1) (.tuple ds) := ⟨by simpa [PyData.canLay] using h.lay, by simpa [PyData.showable] using h.show_, by simpa [PyData.leavesShort] using h.short, by rw [PyData.depth]; exact Nat.succ_le_succ h.deep, by simpa [PyData.weight] using h.wt⟩
theorem Ok.list {W n : Nat} {ds : List D} (h : Oks W n ds) : Ok W (n + 1) (.list ds) := ⟨by simpa [PyData.canLay] using h.lay, by simpa [PyData.showable] using h.show_, by simpa [PyData.leavesShort] using h.short, by rw [PyData.depth]; exact Nat.succ_le_succ h.deep, by simpa [PyData.weight] using h.wt⟩
theorem Ok.oks {W n : Nat} {ds : List D} (h : Ok W n (.tuple ds)) : ∃ m, n = m + 1 ∧ Oks W m ds := by
  have h1 := h.deep
  rw [PyData.depth] at h1
  obtain ⟨m, rfl⟩ : ∃ m, n = m + 1 := ⟨n - 1, by omega⟩
  exact ⟨m, rfl, by simpa [PyData.canLay] using h.lay, by simpa [PyData.showable] using h.show_, by simpa [PyData.leavesShort] using h.short, by omega, by simpa [PyData.weight] using h.wt⟩
theorem Oks.len {W n : Nat} {ds : List D} (h : Oks W n ds) : ds.length ≤ W := by
  have : ∀ ds : List D, ds.length ≤ PyData.weightAll ds := fun ds => by
    induction ds with
    | nil => simp
    | cons d ds ih => rw [PyData.weightAll, List.length_cons]; omega
  exact Nat.le_trans (this ds) h.wt
end Wk

/-! Wk18: upper of a sound text is sound. -/
namespace Wk
open PySem PySem.Spec PyProof.Rows L2
theorem shifted_lt : ∀ (l : List (Nat × Nat × Nat)) (c t : Nat), l.all (fun q => decide (q.2.2 + (q.2.1 - q.1) < 0x110000)) = true → Unicode.shifted l c = some t → t < 0x110000
  | [], _, _, _, h => by simp [Unicode.shifted] at h
  | (a, b, u) :: r, c, t, hall, h => by
    rw [List.all_cons, Bool.and_eq_true] at hall
    have h0 : u + (b - a) < 0x110000 := of_decide_eq_true hall.1
    simp only [Unicode.shifted] at h
    split at h
    · cases h
    · split at h
      · cases h; omega
      · exact shifted_lt r c t hall.2 h
theorem upperOf_lt {c : Nat} (hc : c < 0x110000) : ∀ x ∈ Unicode.upperOf c, x < 0x110000 := by
  intro x hx
  unfold Unicode.upperOf Unicode.image at hx
  split at hx
  · rename_i cs hl
    have := StrLaws.lookup_all (p := fun l => l.all fun y => decide (y < 0x110000)) UnicodeData.severalUpper c cs (by decide +kernel) hl
    exact of_decide_eq_true (List.all_eq_true.mp this x hx)
  · simp only [List.mem_singleton] at hx
    subst hx
    cases e : Unicode.shifted UnicodeData.oneUpper c with
    | none => exact hc
    | some t => exact shifted_lt _ c t (by decide +kernel) e
theorem Sok.upper {k : Nat} {s : Str} (h : Sok k s) : Sok (3 * k) (Txt.upper s) := by
  refine ⟨Nat.le_trans (PyProof.Rows.len_upper s) (Nat.mul_le_mul_left 3 h.1), (strOk_iff _).mpr fun c hc => ?_⟩
  unfold Txt.upper placed at hc
  have hc : c ∈ (s.cps.mapIdx fun i c => (Unicode.upperOf c).toArray).flatten := Array.mem_toList_iff.mp hc
  rw [Array.mem_flatten] at hc
  obtain ⟨l, hl, hm⟩ := hc
  rw [Array.mem_mapIdx] at hl
  obtain ⟨i, hi, rfl⟩ := hl
  exact upperOf_lt ((strOk_iff _).mp h.2 (s.cps[i]) (Array.mem_toList_iff.mpr (Array.getElem_mem hi))) c (by simpa using hm)
end Wk

/-! Wk19: == with an empty side, lists of truths, cuts as sublists. -/
namespace Wk
open PySem PySem.Spec PyProof.Rows L2
theorem eqv_nilT (ds : List D) : PyData.eqv (.tuple ds) (.tuple []) = ds.isEmpty := by
  cases ds <;> simp [PyData.eqv, PyData.eqvAll]
@[simp] theorem eq_nilL {ds : List D} : cEq (.list ds) (.list []) = .v (.bool ds.isEmpty) := by
  unfold cEq; rw [eqv_nil]; simp only [emptyEq]; split <;> rfl
@[simp] theorem ne_nilL {ds : List D} : cNe (.list ds) (.list []) = .v (.bool (!ds.isEmpty)) := by
  unfold cNe; rw [eqv_nil]; simp only [emptyEq]; split <;> rfl
@[simp] theorem eq_nilT {ds : List D} : cEq (.tuple ds) (.tuple []) = .v (.bool ds.isEmpty) := by
  unfold cEq; rw [eqv_nilT]; simp only [emptyEq]; split <;> rfl
@[simp] theorem ne_nilT {ds : List D} : cNe (.tuple ds) (.tuple []) = .v (.bool (!ds.isEmpty)) := by
  unfold cNe; rw [eqv_nilT]; simp only [emptyEq]; split <;> rfl
/-- flat data, sound -/
def flatOk : D → Bool
  | .str x => PyData.strOk x
  | d => flatD d
theorem shaped_flat {ds : List D} (h : ∀ d ∈ ds, flatOk d = true) : SeqAt.shaped (.list ds) = true := by
  refine shaped_list fun d hd => ?_
  have := h d hd
  cases d with
  | str x => exact ⟨rfl, fun y e => by cases e; exact this⟩
  | _ => exact ⟨this, fun y e => by cases e⟩
theorem eq_flat {xs ys : List D} (h : ∀ d ∈ xs, flatOk d = true) (h2 : ∀ d ∈ ys, flatOk d = true) : cEq (.list xs) (.list ys) = .v (.bool (PyData.eqv (.list xs) (.list ys))) := by
  simp [cEq, eqOk, shaped_flat h, shaped_flat h2]
theorem ne_flat {xs ys : List D} (h : ∀ d ∈ xs, flatOk d = true) (h2 : ∀ d ∈ ys, flatOk d = true) : cNe (.list xs) (.list ys) = .v (.bool (!PyData.eqv (.list xs) (.list ys))) := by
  simp [cNe, eqOk, shaped_flat h, shaped_flat h2]
theorem eqv_boo {a b : Bool} : PyData.eqv (.bool a) (.bool b) = decide (a = b) := by rw [PyData.eqv]; cases a <;> cases b <;> rfl
theorem eqvAll_c {a b : D} {xs ys : List D} : PyData.eqvAll (a :: xs) (b :: ys) = (PyData.eqv a b && PyData.eqvAll xs ys) := by rw [PyData.eqvAll]
theorem eqvAll_n : PyData.eqvAll [] [] = true := by rw [PyData.eqvAll]
theorem eqv_lst {xs ys : List D} : PyData.eqv (.list xs) (.list ys) = PyData.eqvAll xs ys := by rw [PyData.eqv]
theorem eqv_tup {xs ys : List D} : PyData.eqv (.tuple xs) (.tuple ys) = PyData.eqvAll xs ys := by rw [PyData.eqv]
theorem eqvAll_strs : ∀ {xs : List D}, (∀ d ∈ xs, ∃ s, d = .str s) → PyData.eqvAll xs xs = true
  | [], _ => eqvAll_n
  | d :: xs, h => by
    obtain ⟨s, rfl⟩ := h d List.mem_cons_self
    rw [eqvAll_c, eqvAll_strs fun d hd => h d (List.mem_cons_of_mem _ hd), eqv_seq, seq_self]; rfl
theorem inOk_flat {x : Str} {ds : List D} (h : ds.all flatD = true) : inOk (.str x) ds = true := by
  unfold inOk; rw [h]; rfl
@[simp] theorem in_st {x : Str} {ds : List D} (h : ds.all flatD = true) : cIn (.str x) (.tuple ds) = .v (.bool (inD (.str x) ds)) := by
  show (if inOk (.str x) ds then _ else _) = _; rw [inOk_flat h]; rfl
@[simp] theorem in_sl {x : Str} {ds : List D} (h : ds.all flatD = true) : cIn (.str x) (.list ds) = .v (.bool (inD (.str x) ds)) := by
  show (if inOk (.str x) ds then _ else _) = _; rw [inOk_flat h]; rfl
@[simp] theorem nin_st {x : Str} {ds : List D} (h : ds.all flatD = true) : cNotIn (.str x) (.tuple ds) = .v (.bool (!inD (.str x) ds)) := by
  unfold cNotIn; rw [in_st h]; rfl
@[simp] theorem nin_sl {x : Str} {ds : List D} (h : ds.all flatD = true) : cNotIn (.str x) (.list ds) = .v (.bool (!inD (.str x) ds)) := by
  unfold cNotIn; rw [in_sl h]; rfl
@[simp] theorem is_bb {a b : Bool} : cIs (.bool a) (.bool b) = .v (.bool (decide (a = b))) := rfl
@[simp] theorem isnot_bb {a b : Bool} : cIsNot (.bool a) (.bool b) = .v (.bool (!decide (a = b))) := rfl
@[simp] theorem flat_s {x : Str} : flatD (.str x) = true := rfl
@[simp] theorem inD_0 {a : D} : inD a [] = false := rfl
@[simp] theorem inD_c {a d : D} {ds : List D} : inD a (d :: ds) = (PyData.eqv d a || inD a ds) := rfl
@[simp] theorem eqv_ss {x y : Str} : PyData.eqv (.str x) (.str y) = seq x y := eqv_seq
theorem seq_comm (x y : Str) : seq x y = seq y x := by rw [Bool.eq_iff_iff, seq_iff, seq_iff]; exact eq_comm
/-- a loop without draws: its state goes by a plain fold -/
theorem fLoop_fold {S : Type} {g : Tg} {body : MS} (INV : Nat → S → En → Prop) (step : S → D → S) : ∀ (ds : List D) (i : Nat) (s : S) (ρ : En), INV i s ρ →
    (∀ j, i ≤ j → j < i + ds.length → ∀ d ∈ ds, ∀ s ρ, INV j s ρ → ∃ ρ1 ρ2, g.set d ρ = some ρ1 ∧ body ρ1 = .ret (.nx, ρ2) ∧ INV (j + 1) (step s d) ρ2) →
    ∃ ρ', fLoop g body ds ρ = .ret (.nx, ρ') ∧ INV (i + ds.length) (ds.foldl step s) ρ'
  | [], i, s, ρ, h, _ => ⟨ρ, by simp [fLoop], h⟩
  | d :: ds, i, s, ρ, h, hb => by
    obtain ⟨ρ1, ρ2, h1, h2, h3⟩ := hb i (Nat.le_refl _) (by simp) d List.mem_cons_self s ρ h
    obtain ⟨ρ', h4, h5⟩ := fLoop_fold INV step ds (i + 1) (step s d) ρ2 h3 fun j hj hj2 d hd => hb j (by omega) (by simp; omega) d (List.mem_cons_of_mem _ hd)
    refine ⟨ρ', ?_, by rw [List.length_cons, show i + (ds.length + 1) = i + 1 + ds.length by omega]; exact h5⟩
    simp only [fLoop, h1]
    simp [h2, h4]
/-- a loop with draws whose law tells the number of turns done -/
theorem fLoop_ltI {g : Tg} {body : MS} {k : Nat} (INV : Nat → En → Prop) {R : Fl × En → Prop} : ∀ (ds : List D) (i : Nat) (ρ : En), INV i ρ →
    (∀ j, i ≤ j → j < i + ds.length → ∀ d ∈ ds, ∀ ρ, INV j ρ → ∃ ρ1, g.set d ρ = some ρ1 ∧ Lt (body ρ1) k (fun p => match p.1 with | .nx => INV (j + 1) p.2 | .ct => INV (j + 1) p.2 | .bk => R (.nx, p.2) | .rt r => R (.rt r, p.2))) → (∀ ρ, INV (i + ds.length) ρ → R (.nx, ρ)) →
    Lt (fLoop g body ds ρ) (ds.length * k) R
  | [], i, ρ, hi, h, hr => .ret (hr ρ hi)
  | d :: ds, i, ρ, hi, h, hr => by
    obtain ⟨ρ1, h1, h2⟩ := h i (Nat.le_refl _) (by simp) d List.mem_cons_self ρ hi
    simp only [fLoop, h1]
    refine (Lt.bind (d := ds.length * k) h2 ?_).mono (by simp [Nat.add_mul]; omega) fun _ z => z
    rintro ⟨fl, ρ2⟩ hp
    have hh := fun hi2 => fLoop_ltI INV (R := R) (k := k) (g := g) (body := body) ds (i + 1) ρ2 hi2 (fun j hj hj2 d hd => h j (by omega) (by simp; omega) d (List.mem_cons_of_mem _ hd)) (by intro ρ z; refine hr ρ ?_; rw [List.length_cons, show i + (ds.length + 1) = i + 1 + ds.length by omega]; exact z)
    cases fl with
    | nx => exact hh hp
    | ct => exact hh hp
    | bk => exact .ret hp
    | rt r => exact .ret hp
theorem cut_sub (ds : List D) (lo hi : Option Int) : List.Sublist (cutD ds lo hi) ds := (List.take_sublist _ _).trans (List.drop_sublist _ _)
theorem Oks.cut {W n : Nat} {ds : List D} (h : Oks W n ds) (lo hi : Option Int) : Oks W n (cutD ds lo hi) := h.sub (cut_sub ds lo hi)
theorem Oks.perm {W n : Nat} {xs ys : List D} (h : Oks W n xs) (p : ∀ d ∈ ys, d ∈ xs) (w : PyData.weightAll ys ≤ PyData.weightAll xs) : Oks W n ys := by
  have lay : ∀ ys : List D, (∀ d ∈ ys, d.canLay = true) → PyData.canLayAll ys = true := fun ys => by
    induction ys with
    | nil => intro _; rw [PyData.canLayAll]
    | cons d r ih => intro h; rw [PyData.canLayAll, h d List.mem_cons_self, ih fun d hd => h d (List.mem_cons_of_mem _ hd)]; rfl
  have sho : ∀ ys : List D, (∀ d ∈ ys, d.showable = true) → PyData.showableAll ys = true := fun ys => by
    induction ys with
    | nil => intro _; rw [PyData.showableAll]
    | cons d r ih => intro h; rw [PyData.showableAll, h d List.mem_cons_self, ih fun d hd => h d (List.mem_cons_of_mem _ hd)]; rfl
  have sh : ∀ ys : List D, (∀ d ∈ ys, d.leavesShort 45 = true) → PyData.leavesShortAll 45 ys = true := fun ys => by
    induction ys with
    | nil => intro _; rw [PyData.leavesShortAll]
    | cons d r ih => intro h; rw [PyData.leavesShortAll, h d List.mem_cons_self, ih fun d hd => h d (List.mem_cons_of_mem _ hd)]; rfl
  have dp : ∀ ys : List D, (∀ d ∈ ys, d.depth ≤ n) → PyData.depthAll ys ≤ n := fun ys => by
    induction ys with
    | nil => intro _; rw [PyData.depthAll]; exact Nat.zero_le _
    | cons d r ih => intro h; rw [PyData.depthAll]; exact Nat.max_le.mpr ⟨h d List.mem_cons_self, ih fun d hd => h d (List.mem_cons_of_mem _ hd)⟩
  have m := h.mem
  exact ⟨lay _ fun d hd => (m d (p d hd)).lay, sho _ fun d hd => (m d (p d hd)).show_, sh _ fun d hd => (m d (p d hd)).short, dp _ fun d hd => (m d (p d hd)).deep, Nat.le_trans w h.wt⟩
theorem weight_app : ∀ xs ys : List D, PyData.weightAll (xs ++ ys) = PyData.weightAll xs + PyData.weightAll ys
  | [], ys => by rw [PyData.weightAll]; simp
  | d :: xs, ys => by rw [List.cons_append, PyData.weightAll, PyData.weightAll, weight_app]; omega
theorem Oks.reverse {W n : Nat} {ds : List D} (h : Oks W n ds) : Oks W n ds.reverse := by
  refine h.perm (fun d hd => List.mem_reverse.mp hd) (Nat.le_of_eq ?_)
  clear h
  induction ds with
  | nil => rfl
  | cons d r ih => rw [List.reverse_cons, weight_app, ih, PyData.weightAll, PyData.weightAll, PyData.weightAll]; omega
end Wk

/-! Wk20: unpacking, chains; more laws of loops. -/
namespace Wk
open PySem PySem.Spec PyProof.Rows L2
section
variable {gs : Tgs} {t : Tg} {ds : List D} {d : D} {ρ : En} {ma mc md : ME} {f g : D → D → OV}
@[simp] theorem e_tpt : (Tg.tp gs).set (.tuple ds) ρ = gs.set ds ρ := by rw [Tg.set]
@[simp] theorem e_tpl : (Tg.tp gs).set (.list ds) ρ = gs.set ds ρ := by rw [Tg.set]
@[simp] theorem e_tgn : Tgs.nil.set [] ρ = some ρ := by rw [Tgs.set]
@[simp] theorem e_tgc : (Tgs.cons t gs).set (d :: ds) ρ = (match t.set d ρ with | some ρ1 => gs.set ds ρ1 | none => none) := by
  rw [Tgs.set] <;> cases t.set d ρ <;> rfl
@[simp] theorem e_unp : sUnp gs ma ρ = (ma ρ).bind fun p => match p.2.deref p.1 with
  | some d => (match (Tg.tp gs).set d p.2 with
    | some ρ1 => .ret (.nx, ρ1)
    | none => .fail)
  | none => .fail := rfl
@[simp] theorem e_mchain : mChain f g ma mc md ρ = (ma ρ).bind fun p => (mc p.2).bind fun q => (d2 f p.1 q.1 q.2).bind fun k => (asB k).bind fun k => if k.1 then (md k.2).bind fun w => d2 g q.1 w.1 w.2 else .ret (.val (.bool false), k.2) := rfl
end
theorem bAll_map {α : Type} {p : α → Bool} {ts : List α} : bAll (.list (ts.map fun d => .bool (p d))) = .v (.bool (ts.all p)) := by
  simp only [bAll, asBools_mapS]
  simp only [List.all_map]; rfl
theorem bAny_map {α : Type} {p : α → Bool} {ts : List α} : bAny (.list (ts.map fun d => .bool (p d))) = .v (.bool (ts.any p)) := by
  simp only [bAny, asBools_mapS]
  simp only [List.any_map]; rfl
theorem shape2 {α : Type} (ds : List α) : (∃ a b, ds = [a, b]) ∨ (¬ ds.length = 2 ∧ ∀ a b, ds ≠ [a, b]) := by
  match ds with
  | [] => exact .inr ⟨by simp, by simp⟩
  | [_] => exact .inr ⟨by simp, by simp⟩
  | [a, b] => exact .inl ⟨a, b, rfl⟩
  | _ :: _ :: _ :: _ => exact .inr ⟨by simp, by simp⟩
theorem shape3 {α : Type} (ds : List α) : (∃ a b c, ds = [a, b, c]) ∨ (¬ ds.length = 3 ∧ ∀ a b c, ds ≠ [a, b, c]) := by
  match ds with
  | [] => exact .inr ⟨by simp, by simp⟩
  | [_] => exact .inr ⟨by simp, by simp⟩
  | [_, _] => exact .inr ⟨by simp, by simp⟩
  | [a, b, c] => exact .inl ⟨a, b, c, rfl⟩
  | _ :: _ :: _ :: _ :: _ => exact .inr ⟨by simp, by simp⟩
@[simp] theorem isT_t {ds : List D} : isiD .tuple (.tuple ds) = true := rfl
theorem filt_none {p : D → Bool} {ds : List D} : (ds.filter fun d => !p d).isEmpty = ds.all p := by
  induction ds with
  | nil => rfl
  | cons d r ih => rw [List.filter_cons, List.all_cons, ← ih]; cases p d <;> simp
/-- sound data whose texts fit -/
structure Fit (d : D) : Prop where
  str : ∀ s, d = .str s → s.length ≤ sizeLine ∧ PyData.strOk s = true
theorem Ok.fit {W n : Nat} {d : D} (h : Ok W n d) (hW : W ≤ 16777216) : Fit d := ⟨fun s e => by subst e; exact ⟨sz_of h.sok hW, h.sok.2⟩⟩
/-- a thing's fitness reaches two levels down -/
structure Fit2 (d : D) : Prop where
  a : Fit d
  b : ∀ ds, d = .tuple ds → ∀ x ∈ ds, Fit x ∧ ∀ es, x = .tuple es → ∀ y ∈ es, Fit y
theorem Ok.fit2 {W n : Nat} {d : D} (h : Ok W n d) (hW : W ≤ 16777216) : Fit2 d := ⟨h.fit hW, fun ds e x hx => by
  subst e
  obtain ⟨m, rfl, hs⟩ := h.oks
  have h1 := hs.mem x hx
  refine ⟨h1.fit hW, fun es e y hy => ?_⟩
  subst e
  obtain ⟨m, rfl, ht⟩ := h1.oks
  exact (ht.mem y hy).fit hW⟩
/-- texts -/
def Strs (n : Nat) (ts : List D) : Prop := ∀ d ∈ ts, ∃ s, d = .str s ∧ Sok n s
theorem Strs.fit {n : Nat} {ts : List D} (h : Strs n ts) (hn : n ≤ 16777216) : ∀ d ∈ ts, Fit d := fun d hd => by
  obtain ⟨s, rfl, hs⟩ := h d hd
  exact ⟨fun x e => by cases e; exact ⟨sz_of hs hn, hs.2⟩⟩
theorem Strs.flat {n : Nat} {ts : List D} (h : Strs n ts) : ts.all flatD = true := List.all_eq_true.mpr fun x hx => by obtain ⟨y, rfl, _⟩ := h x hx; rfl
theorem Strs.fok {n : Nat} {ts : List D} (h : Strs n ts) : ∀ d ∈ ts, flatOk d = true := fun d hd => by
  obtain ⟨s, rfl, hs⟩ := h d hd; exact hs.2
theorem Strs.nil {n : Nat} : Strs n [] := fun d hd => by simp at hd
theorem Strs.cons {n : Nat} {s : Str} {ts : List D} (h : Sok n s) (t : Strs n ts) : Strs n (.str s :: ts) := fun d hd => by
  rcases List.mem_cons.mp hd with rfl | hd
  · exact ⟨s, rfl, h⟩
  · exact t d hd
theorem Strs.append {n : Nat} {ts us : List D} (h : Strs n ts) (t : Strs n us) : Strs n (ts ++ us) := fun d hd => (List.mem_append.mp hd).elim (h d) (t d)
theorem Strs.sub {n : Nat} {ts us : List D} (h : Strs n us) (s : ∀ d ∈ ts, d ∈ us) : Strs n ts := fun d hd => h d (s d hd)
theorem Strs.mono {n m : Nat} {ts : List D} (h : Strs n ts) (hm : n ≤ m) : Strs m ts := fun d hd => by
  obtain ⟨s, rfl, hs⟩ := h d hd; exact ⟨s, rfl, hs.mono hm⟩
/-- membership of texts -/
theorem inD_iff {n : Nat} {x : Str} {ts : List D} (h : Strs n ts) : inD (.str x) ts = true ↔ PyData.str x ∈ ts := by
  unfold inD
  rw [List.any_eq_true]
  constructor
  · rintro ⟨d, hd, e⟩
    obtain ⟨s, rfl, hs⟩ := h d hd
    rw [eqv_ss, seq_iff] at e
    rw [← e]; exact hd
  · intro hd
    exact ⟨_, hd, by rw [eqv_ss, seq_self]⟩
theorem strs_ne {n : Nat} {ts : List D} (h : Strs n ts) : cNe (.list ts) (.list ts) = .v (.bool false) := by
  rw [ne_flat h.fok h.fok, eqv_lst, eqvAll_strs fun d hd => let ⟨s, e, _⟩ := h d hd; ⟨s, e⟩]; rfl
theorem range_len {m : Nat} : (rangeD 0 m).length = m := by simp [rangeD]
end Wk

/-! Wk21: comprehensions whose store grows; cuts at known places; joins of signs; stores looked into. -/
namespace Wk
open PySem PySem.Spec PyProof.Rows L2
/-- no condition: as many as there are; the store keeps P -/
theorem cLoop_ltP {sl0 : List (Option Rv)} {g : Tg} {el : ME} {Q : D → Prop} {k : Nat} (P : List (D × Bool) → Prop) : ∀ (ds acc : List D) (sl : List (Option Rv)) (st : List (D × Bool)), P st →
    (∀ d ∈ ds, ∀ st, P st → ∃ ρ1, g.set d ⟨sl0, st⟩ = some ρ1 ∧ Lt (el ρ1) k (fun q => ∃ d' sl2 st2, q = (.val d', ⟨sl2, st2⟩) ∧ P st2 ∧ Q d')) → (∀ d ∈ acc, Q d) →
    Lt (cLoop sl0 g mtYes el ds acc ⟨sl, st⟩) (ds.length * k) (fun p => ∃ ds' sl' st', p = (ds', ⟨sl', st'⟩) ∧ P st' ∧ ds'.length = acc.length + ds.length ∧ ∀ d ∈ ds', Q d)
  | [], acc, sl, st, hp, h, ha => by
    simp only [cLoop]
    exact .ret ⟨acc, sl, st, rfl, hp, by simp, ha⟩
  | d :: ds, acc, sl, st, hp, h, ha => by
    obtain ⟨ρ1, h1, h2⟩ := h d List.mem_cons_self st hp
    simp only [cLoop, h1]
    have e : mtYes ρ1 = .ret (true, ρ1) := rfl
    rw [e]
    show Lt ((el ρ1).bind _) _ _
    refine (Lt.bind (d := ds.length * k) h2 ?_).mono (by simp [Nat.add_mul]; omega) fun _ z => z
    rintro q ⟨d', sl2, st2, rfl, hp2, hq⟩
    simp only [En.freeze]
    refine (cLoop_ltP P ds (acc ++ [d']) sl2 st2 hp2 (fun d hd => h d (List.mem_cons_of_mem _ hd)) fun x hx => ?_).mono (Nat.le_refl _) ?_
    · rcases List.mem_append.mp hx with z | z
      · exact ha x z
      · rw [List.mem_singleton.mp z]; exact hq
    · rintro p ⟨ds', sl', st', rfl, z0, z1, z2⟩
      exact ⟨ds', sl', st', rfl, z0, by simp at z1 ⊢; omega, z2⟩
theorem take_min {α : Type} (l : List α) (k n : Nat) (h : n = l.length) : l.take (min k n) = l.take k := by
  subst h
  by_cases h : k ≤ l.length
  · rw [show min k l.length = k by omega]
  · rw [show min k l.length = l.length by omega, List.take_of_length_le (Nat.le_refl _), List.take_of_length_le (by omega)]
theorem drop_min {α : Type} (l : List α) (k n : Nat) (h : n = l.length) : (l.drop (min k n)).take (n - min k n) = l.drop k := by
  subst h
  rw [List.take_of_length_le (by rw [List.length_drop]; exact Nat.le_refl _)]
  by_cases h : k ≤ l.length
  · rw [show min k l.length = k by omega]
  · rw [show min k l.length = l.length by omega, List.drop_of_length_le (Nat.le_refl _), List.drop_of_length_le (by omega)]
theorem cut_to (ds : List D) (k : Nat) : cutD ds none (some (k : Int)) = ds.take k := by
  unfold cutD
  rw [HT.sIx_nat, HT.sIx_none, List.drop_zero, Nat.sub_zero, take_min _ _ _ rfl]
theorem cut_from (ds : List D) (k : Nat) : cutD ds (some (k : Int)) none = ds.drop k := by
  unfold cutD
  rw [HT.sIx_nat, HT.sIx_none, drop_min _ _ _ rfl]
theorem cutS_to (s : Str) (k : Nat) : (cutS s none (some (k : Int))).cps.toList = s.cps.toList.take k := by
  have : (cutS s none (some (k : Int))).cps.toList = (s.cps.toList.drop (HT.sIx s.length 0 none)).take (HT.sIx s.length s.length (some (k : Int)) - HT.sIx s.length 0 none) := by unfold cutS; simp
  rw [this, HT.sIx_nat, HT.sIx_none, List.drop_zero, Nat.sub_zero, take_min _ _ _ (len_cps s).symm]
theorem cutS_from (s : Str) (k : Nat) : (cutS s (some (k : Int)) none).cps.toList = s.cps.toList.drop k := by
  have : (cutS s (some (k : Int)) none).cps.toList = (s.cps.toList.drop (HT.sIx s.length 0 (some (k : Int)))).take (HT.sIx s.length s.length none - HT.sIx s.length 0 (some (k : Int))) := by unfold cutS; simp
  rw [this, HT.sIx_nat, HT.sIx_none, drop_min _ _ _ (len_cps s).symm]
theorem join_mem : ∀ {ys : List Str} {c : Nat}, c ∈ (Str.join "" ys).cps.toList → ∃ y ∈ ys, c ∈ y.cps.toList
  | [], c, h => by
    have : (Str.join "" []).cps.toList = [] := by decide +kernel
    rw [this] at h; simp at h
  | [x], c, h => ⟨x, List.mem_cons_self, h⟩
  | x :: y :: r, c, h => by
    have h : c ∈ (x ++ "" ++ Str.join "" (y :: r)).cps.toList := h
    rw [app_cps, app_cps] at h
    have e : ("" : Str).cps.toList = [] := by decide +kernel
    rw [e, List.append_nil] at h
    rcases List.mem_append.mp h with z | z
    · exact ⟨x, List.mem_cons_self, z⟩
    · obtain ⟨w, h1, h2⟩ := join_mem z
      exact ⟨w, List.mem_cons_of_mem _ h1, h2⟩
/-- texts joined: every sign is of z -/
theorem mJoin_in {m : Nat} {z : Str} {ds : List D} (h : ∀ d ∈ ds, ∃ s, d = .str s ∧ Sok m s ∧ allIn z s = true) (hb : ds.length * m ≤ 1000000) : ∃ s, mJoin (.str "") [.list ds] = .v (.str s) ∧ Sok (ds.length * m) s ∧ allIn z s = true := by
  obtain ⟨ys, e, hy, hz⟩ : ∃ ys : List Str, ds = ys.map .str ∧ (∀ y ∈ ys, Sok m y) ∧ ∀ y ∈ ys, allIn z y = true := by
    clear hb
    induction ds with
    | nil => exact ⟨[], rfl, by simp, by simp⟩
    | cons d r ih =>
      obtain ⟨ys, rfl, hy, hz⟩ := ih fun d hd => h d (List.mem_cons_of_mem _ hd)
      obtain ⟨s, rfl, hs, h3⟩ := h d List.mem_cons_self
      exact ⟨s :: ys, rfl, List.forall_mem_cons.mpr ⟨hs, hy⟩, List.forall_mem_cons.mpr ⟨h3, hz⟩⟩
  obtain ⟨s, h1, h2⟩ := mJoin_ok (m := m) (fun d hd => let ⟨s, e, hs, _⟩ := h d hd; ⟨s, e, hs⟩) hb
  refine ⟨s, h1, h2, ?_⟩
  subst e
  have ha : ∀ ys : List Str, asStrs (ys.map .str) = some ys := fun ys => by
    induction ys with
    | nil => rfl
    | cons x r ih => simp [asStrs, ih]
  have : s = Txt.join "" ys := by
    simp only [mJoin, ha] at h1
    split at h1
    · cases h1; rfl
    · cases h1
  rw [this, show Txt.join "" ys = Str.join "" ys from PySem.StrLaws.glued_eq_join _ _]
  unfold allIn
  rw [List.all_eq_true]
  intro c hc
  obtain ⟨y, hy1, hy2⟩ := join_mem hc
  have := hz y hy1
  unfold allIn at this
  exact List.all_eq_true.mp this c hy2
/-- tuples of flat data -/
def tupOk : D → Bool
  | .tuple es => es.all flatOk
  | _ => false
theorem shaped_tup {es : List D} (h : es.all flatOk = true) : (PyData.tuple es).canLay0 = true ∧ (PyData.tuple es).depth ≤ 1 := by
  rw [List.all_eq_true] at h
  have := shaped_flats (ds := es) fun d hd => by
    have := h d hd
    cases d with
    | str x => exact ⟨rfl, fun y e => by cases e; exact this⟩
    | _ => exact ⟨this, fun y e => by cases e⟩
  exact ⟨by simpa [PyData.canLay0] using this.1, by rw [PyData.depth, this.2]; exact Nat.le_refl _⟩
theorem shaped_tups : ∀ {ds : List D}, ds.all tupOk = true → PyData.canLayAll0 ds = true ∧ PyData.depthAll ds ≤ 1
  | [], _ => ⟨rfl, Nat.zero_le _⟩
  | d :: ds, h => by
    rw [List.all_cons, Bool.and_eq_true] at h
    obtain ⟨h1, h2⟩ := shaped_tups h.2
    cases d with
    | tuple es =>
      obtain ⟨h3, h4⟩ := shaped_tup h.1
      refine ⟨by simp [PyData.canLayAll0, h1, h3], ?_⟩
      rw [PyData.depthAll]; exact Nat.max_le.mpr ⟨h4, h2⟩
    | _ => exact absurd h.1 (by simp [tupOk])
theorem nin_tt {es : List D} {ds : List D} (h : es.all flatOk = true) (h2 : ds.all tupOk = true) : cNotIn (.tuple es) (.list ds) = .v (.bool (!inD (.tuple es) ds)) := by
  have a := shaped_tup h
  have b := shaped_tups h2
  have s1 : SeqAt.shaped (.tuple es) = true := by
    unfold SeqAt.shaped; rw [a.1]; simp; have := a.2; omega
  have s2 : SeqAt.shaped (.list ds) = true := by
    unfold SeqAt.shaped; rw [PyData.canLay0, b.1, PyData.depth]; simp; have := b.2; omega
  have : inOk (.tuple es) ds = true := by unfold inOk; rw [s1, s2]; simp
  unfold cNotIn
  show notV (if inOk (.tuple es) ds then _ else _) = _
  rw [this]; rfl
theorem lt_get {α : Type} {st : List α} {n : Nat} {x : α} (h : st[n]? = some x) : n < st.length := (List.getElem?_eq_some_iff.mp h).1
end Wk

/-! Wk22: comprehensions over one's own list, without draws. -/
namespace Wk
open PySem PySem.Spec PyProof.Rows L2
theorem cLoopO_pure {sl0 : List (Option Rv)} {g : Tg} {tt : MT} {el : ME} {st : List (D × Bool)} {k : Nat} {ds : List D} {fl : Bool} (hk : st[k]? = some (.list ds, fl)) (c : D → Bool) (f : D → D)
    (h : ∀ d ∈ ds, ∃ ρ1 sl1, g.set d ⟨sl0, st⟩ = some ρ1 ∧ tt ρ1 = .ret (c d, ⟨sl1, st⟩) ∧ (c d = true → ∃ sl2, el ⟨sl1, st⟩ = .ret (.val (f d), ⟨sl2, st⟩))) : ∀ (n i : Nat) (acc : List D) (sl : List (Option Rv)), i + n = ds.length →
    ∃ sl', cLoopO sl0 g tt el k n i acc ⟨sl, st⟩ = .ret (acc ++ ((ds.drop i).filter c).map f, ⟨sl', st⟩)
  | 0, i, acc, sl, e => by
    have e1 : ds[i]? = none := List.getElem?_eq_none_iff.mpr (by omega)
    have e2 : ds.drop i = [] := List.drop_of_length_le (by omega)
    exact ⟨sl, by simp [cLoopO, hk, e1, e2]⟩
  | n + 1, i, acc, sl, e => by
    have hi : i < ds.length := by omega
    have e1 : ds[i]? = some ds[i] := List.getElem?_eq_getElem hi
    obtain ⟨ρ1, sl1, h1, h2, h3⟩ := h ds[i] (List.getElem_mem hi)
    have ed := List.drop_eq_getElem_cons hi
    cases ec : c ds[i] with
    | true =>
      obtain ⟨sl2, h4⟩ := h3 ec
      obtain ⟨sl', h5⟩ := cLoopO_pure hk c f h n (i + 1) (acc ++ [f ds[i]]) sl2 (by omega)
      refine ⟨sl', ?_⟩
      simp only [cLoopO, hk, e1, h1]
      simp [h2, ec, h4, h5]
      rw [ed, List.filter_cons, ec]
      rfl
    | false =>
      obtain ⟨sl', h5⟩ := cLoopO_pure hk c f h n (i + 1) acc sl1 (by omega)
      refine ⟨sl', ?_⟩
      simp only [cLoopO, hk, e1, h1]
      simp [h2, ec, h5]
      rw [ed, List.filter_cons, ec]
      rfl
theorem compO_pure {own : List Nat} {g : Tg} {ma : ME} {tt : MT} {el : ME} {ρ : En} {k : Nat} {ds : List D} {fl : Bool} (c : D → Bool) (f : D → D) (hm : ma ρ = .ret (.res k, ρ)) (hk : ρ.st[k]? = some (.list ds, fl)) (hl : ds.length ≤ 1000000)
    (h : ∀ d ∈ ds, ∃ ρ1 sl1, g.set d ⟨wipeS ρ.sl own, ρ.st⟩ = some ρ1 ∧ tt ρ1 = .ret (c d, ⟨sl1, ρ.st⟩) ∧ (c d = true → ∃ sl2, el ⟨sl1, ρ.st⟩ = .ret (.val (f d), ⟨sl2, ρ.st⟩))) :
    mCompO own g ma tt el ρ = .ret (.res ρ.st.length, ⟨ρ.sl, ρ.st ++ [(.list ((ds.filter c).map f), false)]⟩) := by
  obtain ⟨sl', e⟩ := cLoopO_pure hk c f h ds.length 0 [] ρ.sl (Nat.zero_add _)
  show (ma ρ).bind _ = _
  rw [hm]
  show (match ρ.st[k]? with
    | some (.list ds, _) => if ds.length ≤ 1000000 then (cLoopO (wipeS ρ.sl own) g tt el k ds.length 0 [] ρ).bind (cDone ρ.sl) else .fail
    | _ => .fail) = _
  rw [hk]
  simp only [hl, if_true]
  have e : cLoopO (wipeS ρ.sl own) g tt el k ds.length 0 [] ρ = _ := e
  rw [e]
  rfl
end Wk

/-! Wk23: texts and pairs of texts in order; what can be sorted. -/
namespace Wk
open PySem PySem.Spec PyProof.Rows L2
theorem leD_str (a b : Str) : leD (.str a) (.str b) = !decide (b.cps.toList < a.cps.toList) := by
  unfold leD
  rw [PySem.W.dataLt_str]
def leS (a b : Str) : Bool := leD (.str a) (.str b)
theorem leS_iff (a b : Str) : leS a b = true ↔ ¬ b.cps.toList < a.cps.toList := by
  unfold leS
  rw [leD_str]; simp
theorem str_ext (x y : Str) : x = y ↔ x.cps.toList = y.cps.toList := ⟨fun h => by rw [h], fun h => by cases x; cases y; simpa using h⟩
theorem leS_total (a b : Str) : leS a b = true ∨ leS b a = true := by
  rw [leS_iff, leS_iff]
  rcases List.le_total a.cps.toList b.cps.toList with h | h
  · exact .inl (List.not_lt.mpr h)
  · exact .inr (List.not_lt.mpr h)
theorem leS_antisymm {a b : Str} (h1 : leS a b = true) (h2 : leS b a = true) : a = b := by
  rw [leS_iff] at h1 h2
  exact (str_ext a b).mpr (List.le_antisymm (List.not_lt.mp h1) (List.not_lt.mp h2))
theorem leS_trans {a b c : Str} (h1 : leS a b = true) (h2 : leS b c = true) : leS a c = true := by
  rw [leS_iff] at *
  exact List.not_lt.mpr (List.le_trans (List.not_lt.mp h1) (List.not_lt.mp h2))
theorem leS_refl (a : Str) : leS a a = true := by rcases leS_total a a with h | h <;> exact h
theorem sort_two {α : Type} (le : α → α → Bool) (a b : α) : [a, b].mergeSort le = if le a b then [a, b] else [b, a] := by
  unfold List.mergeSort
  simp [List.MergeSort.Internal.splitInTwo, List.mergeSort, List.merge]
theorem alike_ss (a b : Str) : PySem.W.alike (.str a) (.str b) = true := by rw [PySem.W.alike]
theorem sOk_strs {ds : List D} (h : ∀ d ∈ ds, ∃ x, d = .str x) : sOk ds = true := by
  unfold sOk
  simp only [Bool.and_eq_true, Bool.or_eq_true, List.all_eq_true]
  refine ⟨⟨fun a ha b hb => ?_, .inr fun a ha => ?_⟩, fun a ha => ?_⟩
  · obtain ⟨x, rfl⟩ := h a ha
    obtain ⟨y, rfl⟩ := h b hb
    exact alike_ss x y
  · obtain ⟨x, rfl⟩ := h a ha; rfl
  · obtain ⟨x, rfl⟩ := h a ha
    rw [PyData.depth]; rfl
abbrev PS := Str × Str
def pairD (p : PS) : D := .tuple [.str p.1, .str p.2]
theorem sOk_pairs (ps : List PS) : sOk (ps.map pairD) = true := by
  unfold sOk
  simp only [Bool.and_eq_true, Bool.or_eq_true, List.all_eq_true]
  refine ⟨⟨fun a ha b hb => ?_, .inl fun a ha => ?_⟩, fun a ha => ?_⟩
  · obtain ⟨x, _, rfl⟩ := List.mem_map.mp ha
    obtain ⟨y, _, rfl⟩ := List.mem_map.mp hb
    unfold pairD
    rw [PySem.W.alike, PySem.W.alikeAll, PySem.W.alikeAll, alike_ss, alike_ss, PySem.W.alikeAll]; rfl
  · obtain ⟨x, _, rfl⟩ := List.mem_map.mp ha; rfl
  · obtain ⟨x, _, rfl⟩ := List.mem_map.mp ha
    unfold pairD
    rw [PyData.depth, PyData.depthAll, PyData.depthAll, PyData.depthAll, PyData.depth, PyData.depth]; rfl
def leP (a b : PS) : Bool := leD (pairD a) (pairD b)
theorem sort_pairs (ps : List PS) : (ps.map pairD).mergeSort leD = (ps.mergeSort leP).map pairD := by
  have := List.map_mergeSort (r := leP) (s := leD) (f := pairD) (l := ps) (fun _ _ _ _ => rfl)
  exact this.symm
@[simp] theorem bSorted_l {ds : List D} : bSorted (.list ds) = if sOk ds then .f (.list (ds.mergeSort leD)) else .no := rfl
@[simp] theorem bSorted_t {ds : List D} : bSorted (.tuple ds) = if sOk ds then .f (.list (ds.mergeSort leD)) else .no := rfl
@[simp] theorem bSorted_d {es : List (D × D)} : bSorted (.dict es) = if sOk (es.map (·.1)) then .f (.list ((es.map (·.1)).mergeSort leD)) else .no := rfl
@[simp] theorem bDict_d {es : List (D × D)} : bDict (.dict es) = if unm es then .f (.dict es) else .no := rfl
/-- two texts in order -/
def sort2 (a b : Str) : PS := if leS a b then (a, b) else (b, a)
theorem sort2_comm (a b : Str) : sort2 a b = sort2 b a := by
  unfold sort2
  by_cases h1 : leS a b = true
  · by_cases h2 : leS b a = true
    · rw [leS_antisymm h1 h2]
    · rw [if_pos h1, if_neg h2]
  · have h2 := (leS_total a b).resolve_left h1
    rw [if_neg h1, if_pos h2]
theorem sort2_le (a b : Str) : leS (sort2 a b).1 (sort2 a b).2 = true := by
  unfold sort2
  by_cases h1 : leS a b = true
  · rw [if_pos h1]; exact h1
  · rw [if_neg h1]; exact (leS_total a b).resolve_left h1
theorem sort2_of {a b : Str} (h : leS a b = true) : sort2 a b = (a, b) := if_pos h
theorem sort2_or (a b : Str) : sort2 a b = (a, b) ∨ sort2 a b = (b, a) := by
  unfold sort2; split
  · exact .inl rfl
  · exact .inr rfl
theorem sort_strs2 (a b : Str) : ([.str a, .str b] : List D).mergeSort leD = [.str (sort2 a b).1, .str (sort2 a b).2] := by
  rw [sort_two]
  unfold sort2 leS
  split <;> rfl
end Wk

/-! Wk24: the simp kit for sets, enumerate, zip, sums of lists, the least of texts. -/
namespace Wk
open PySem PySem.Spec PyProof.Rows L2
section
variable {ds es : List D} {x y : Str} {i j : Int} {k : Nat} {d e : D}
@[simp] theorem minA_ii : bMinA [.int i, .int j] = .v (.int (if j < i then j else i)) := rfl
theorem strs_back : ∀ bs : List Str, asStrs (bs.map .str) = some bs
  | [] => rfl
  | b :: bs => by simp [asStrs, strs_back bs]
theorem minA_s {xs : List Str} : bMinA [.list ((x :: xs).map .str)] = .v (.str (minT x xs)) := by
  unfold bMinA
  simp only [strs_back]
@[simp] theorem sums_1 : bSums [d] = bSum d := rfl
theorem sums_l {bs : List (List D)} (h1 : 0 < bs.length) (h2 : (bs.map List.length).sum ≤ 1000000) : bSums [.list (bs.map .list), .list []] = .f (.list bs.flatten) := by
  unfold bSums
  simp only [asLists_map, h1, h2, and_self, if_true]
@[simp] theorem lenSet_l : bLenSet (.list ds) = lenSetL ds := rfl
@[simp] theorem lenSet_t : bLenSet (.tuple ds) = lenSetL ds := rfl
@[simp] theorem sortSet_l : bSortSet (.list ds) = sortSetL ds := rfl
@[simp] theorem sortSet_t : bSortSet (.tuple ds) = sortSetL ds := rfl
end
/-! ### pairs of texts -/
def pairK (p : PS) : List Key := [.inr p.1, .inr p.2]
theorem pairD_K (p : PS) : pairD p = tupD (pairK p) := rfl
theorem keysT_pairs : ∀ ps : List PS, keysT (ps.map pairD) = some (ps.map pairK)
  | [] => rfl
  | p :: ps => by
    rw [List.map_cons, List.map_cons]
    unfold pairD
    simp only [keysT, keysOf, keyOf]
    have := keysT_pairs ps
    unfold pairD at this
    rw [this]
    rfl
theorem setOkT_pairs {ps : List PS} (h : ps.length < 64) : setOkT (ps.map pairD) = true := by
  unfold setOkT
  rw [keysT_pairs, List.length_map]
  simp [h]
theorem eqv_pairD (p q : PS) : PyData.eqv (pairD p) (pairD q) = decide (p = q) := by
  rw [pairD_K, pairD_K, eqv_tupD]
  unfold pairK
  by_cases e : p = q
  · simp [e]
  · have : ¬ ([Sum.inr p.1, Sum.inr p.2] : List Key) = [.inr q.1, .inr q.2] := fun z => e (by
      simp only [List.cons.injEq, Sum.inr.injEq, and_true] at z
      exact Prod.ext z.1 z.2)
    simp [e, this]
theorem setL_pairs (ps : List PS) : setL (ps.map pairD) = (ded ps).map pairD := setL_map pairD eqv_pairD ps
theorem sortSet_pairs {ps : List PS} (h : ps.length < 64) : sortSetL (ps.map pairD) = .f (.list (((ded ps).mergeSort leP).map pairD)) := by
  unfold sortSetL
  rw [setOkT_pairs h, setL_pairs, sOk_pairs, sort_pairs]; rfl
/-! ### the least text -/
theorem leT_S (a b : Str) : leT a b = leS a b := rfl
theorem minT_mem (x : Str) : ∀ xs : List Str, minT x xs ∈ x :: xs := by
  intro xs
  unfold minT
  induction xs generalizing x with
  | nil => exact .head _
  | cons y r ih =>
    rw [List.foldl_cons]
    have := ih (if leT x y = true then x else y)
    rcases List.mem_cons.mp this with e | e
    · rw [e]; split
      · exact .head _
      · exact .tail _ (.head _)
    · exact .tail _ (.tail _ e)
theorem minT_le (x : Str) : ∀ xs : List Str, ∀ y ∈ x :: xs, leS (minT x xs) y = true := by
  intro xs
  unfold minT
  induction xs generalizing x with
  | nil =>
    intro y hy
    rw [List.mem_singleton.mp hy]; exact leS_refl _
  | cons z r ih =>
    intro y hy
    rw [List.foldl_cons]
    have h := ih (if leT x z = true then x else z)
    have h0 := h _ (.head _)
    have key : leS (if leT x z = true then x else z) x = true ∧ leS (if leT x z = true then x else z) z = true := by
      rw [leT_S]
      split
      · rename_i e; exact ⟨leS_refl _, e⟩
      · rename_i e; exact ⟨(leS_total x z).resolve_left e, leS_refl _⟩
    rcases List.mem_cons.mp hy with rfl | hy
    · exact leS_trans h0 key.1
    · rcases List.mem_cons.mp hy with rfl | hy
      · exact leS_trans h0 key.2
      · exact h y (.tail _ hy)
end Wk

/-! K07m: the meanings. -/
namespace Wk
open PySem PySem.Spec PyProof.Rows L2
def m_are_figures : MS :=
  sSeq (sIf (mtOr (mNot (mtChain cLe cLe (mC (.int 1)) (mCall (f1 bLen) (maCons (mVar 0) (maNil))) (mVar 1))) (mNot (mTru (mCall (f1 bAll) (maCons (mComp [2] (.nm 2) (mWalk (mVar 0)) (mtYes) (mBin cIn (mVar 2) (mC (.str "0123456789")))) (maNil))))))
  (sSeq (sRet (mC (.bool false)))
  (sNil))
  (sNil))
  (sSeq (sRet (mOr (mBin cNe (mBin oIdx (mVar 0) (mC (.int 0))) (mC (.str "0"))) (mBin cEq (mVar 0) (mC (.str "0")))))
  (sNil))
def F_are_figures : Fn := ⟨false, 2, runFn 2 3 m_are_figures⟩
@[simp] theorem io_are_figures : F_are_figures.io = false := rfl
@[simp] theorem n_are_figures : F_are_figures.n = 2 := rfl
def m_head_in : MS :=
  sSeq (sFor (.tp (.cons (.nm 2) (.cons (.nm 3) (.nil)))) (mWalk (mBin oIdx (mVar 0) (mC (.int 0))))
  (sSeq (sIf (tB' (mBin cEq (mVar 2) (mVar 1)))
  (sSeq (sRet (mVar 3))
  (sNil))
  (sNil))
  (sNil)))
  (sSeq (sRet (mVar 1))
  (sNil))
def F_head_in : Fn := ⟨false, 2, runFn 2 4 m_head_in⟩
@[simp] theorem io_head_in : F_head_in.io = false := rfl
@[simp] theorem n_head_in : F_head_in.n = 2 := rfl
def m_law_lots : MS :=
  sSeq (sSet 1 (mDisp szL (maNil)))
  (sSeq (sFor (.tp (.cons (.nm 2) (.cons (.nm 3) (.cons (.nm 4) (.nil))))) (mWalk (mVar 0))
  (sSeq (sFor (.nm 5) (mWalk (mDisp szT (maCons (mVar 3) (maCons (mVar 4) (maNil)))))
  (sSeq (sIf (tB' (mBin cEq (mCompO [7] (.nm 7) (mVar 1) (tB' (mBin cIn (mVar 5) (mVar 7))) (mVar 7)) (mDisp szL (maNil))))
  (sSeq (sDrop (mMtd roT muT "append" (mVar 1) (maCons (mDisp szL (maCons (mVar 5) (maNil))) (maNil))))
  (sNil))
  (sNil))
  (sNil)))
  (sSeq (sIf (tB' (mBin cEq (mVar 2) (mC (.str "same"))))
  (sSeq (sSet 6 (mCompO [7] (.nm 7) (mVar 1) (mtOr (tB' (mBin cIn (mVar 3) (mVar 7))) (tB' (mBin cIn (mVar 4) (mVar 7)))) (mVar 7)))
  (sSeq (sSet 1 (mBin oAdd (mCompO [7] (.nm 7) (mVar 1) (tB' (mBin cNotIn (mVar 7) (mVar 6))) (mVar 7)) (mDisp szL (maCons (mCall bSums (maCons (mVar 6) (maCons (mDisp szL (maNil)) (maNil)))) (maNil)))))
  (sNil)))
  (sNil))
  (sNil))))
  (sSeq (sRet (mVar 1))
  (sNil)))
def F_law_lots : Fn := ⟨false, 1, runFn 1 8 m_law_lots⟩
@[simp] theorem io_law_lots : F_law_lots.io = false := rfl
@[simp] theorem n_law_lots : F_law_lots.n = 1 := rfl
def m_is_value : MS :=
  sSeq (sRet (mAnd (mIsi .str (mVar 0)) (mOwn F_are_figures (maCons (mVar 0) (maCons (mC (.int 6)) (maNil))))))
  (sNil)
def F_is_value : Fn := ⟨false, 1, runFn 1 1 m_is_value⟩
@[simp] theorem io_is_value : F_is_value.io = false := rfl
@[simp] theorem n_is_value : F_is_value.n = 1 := rfl
def m_heads_in : MS :=
  sSeq (sUnp (.cons (.nm 2) (.cons (.nm 3) (.cons (.nm 4) (.nil)))) (mVar 1))
  (sSeq (sUnp (.cons (.nm 5) (.cons (.nm 6) (.nil))) (mCall (f1 bSorted) (maCons (mDisp szL (maCons (mOwn F_head_in (maCons (mVar 0) (maCons (mVar 3) (maNil)))) (maCons (mOwn F_head_in (maCons (mVar 0) (maCons (mVar 4) (maNil)))) (maNil)))) (maNil))))
  (sSeq (sRet (mDisp szT (maCons (mVar 5) (maCons (mVar 6) (maNil)))))
  (sNil)))
def F_heads_in : Fn := ⟨false, 2, runFn 2 7 m_heads_in⟩
@[simp] theorem io_heads_in : F_heads_in.io = false := rfl
@[simp] theorem n_heads_in : F_heads_in.n = 2 := rfl
def m_law_some : MS :=
  sSeq (sIf (tB' (mBin cEq (mOwn F_law_draw (maCons (mVar 0) (maCons (mC (.int 5)) (maNil)))) (mC (.int 0))))
  (sSeq (sSet 2 (mDisp szL (maCons (mC (.str "rule")) (maCons (mC (.str "keep")) (maCons (mC (.str "strike")) (maCons (mC (.str "ask")) (maCons (mC (.str "tell")) (maCons (mC (.str "goal")) (maCons (mC (.str "lead")) (maCons (mC (.str "apart")) (maCons (mC (.str "thing")) (maCons (mC (.str "fired")) (maNil)))))))))))))
  (sSeq (sSet 2 (mBin oAdd (mVar 2) (mDisp szL (maCons (mC (.str "marks")) (maCons (mC (.str "refused")) (maNil))))))
  (sSeq (sSet 3 (mOwn F_law_draw (maCons (mVar 0) (maCons (mC (.int 12)) (maNil)))))
  (sSeq (sRet (mSlice oSl (mBin oAdd (mSlice oSl (mVar 2) (some (mVar 3)) none) (mSlice oSl (mVar 2) none (some (mVar 3)))) none (some (mVar 1))))
  (sNil)))))
  (sNil))
  (sSeq (sSet 4 (mC (.str "abcdefghijklmnopqrstuvwxyz")))
  (sSeq (sSet 5 (mMtd roT muT "join" (mC (.str "")) (maCons (mComp [9] (.nm 9) (mRange1 (mOwn F_law_draw (maCons (mVar 0) (maCons (mC (.int 8)) (maNil))))) (mtYes) (mBin oIdx (mVar 4) (mOwn F_law_draw (maCons (mVar 0) (maCons (mC (.int 26)) (maNil)))))) (maNil))))
  (sSeq (sSet 6 (mOwn F_law_draw (maCons (mVar 0) (maCons (mBin oAdd (mCall (f1 bLen) (maCons (mVar 5) (maNil))) (mC (.int 1))) (maNil)))))
  (sSeq (sSet 7 (mOwn F_law_draw (maCons (mVar 0) (maCons (mC (.int 26)) (maNil)))))
  (sSeq (sSet 8 (mBin oIdx (mDisp szL (maCons (mC (.int 1)) (maCons (mC (.int 3)) (maCons (mC (.int 5)) (maCons (mC (.int 7)) (maCons (mC (.int 9)) (maCons (mC (.int 11)) (maCons (mC (.int 15)) (maCons (mC (.int 17)) (maNil)))))))))) (mOwn F_law_draw (maCons (mVar 0) (maCons (mC (.int 8)) (maNil))))))
  (sSeq (sRet (mComp [9] (.nm 9) (mRange1 (mVar 1)) (mtYes) (mBin oAdd (mBin oAdd (mSlice oSl (mVar 5) none (some (mVar 6))) (mBin oIdx (mVar 4) (mBin oMod (mBin oAdd (mVar 7) (mBin oMul (mVar 8) (mVar 9))) (mC (.int 26))))) (mSlice oSl (mVar 5) (some (mVar 6)) none))))
  (sNil)))))))
def F_law_some : Fn := ⟨false, 2, runFn 2 10 m_law_some⟩
@[simp] theorem io_law_some : F_law_some.io = false := rfl
@[simp] theorem n_law_some : F_law_some.n = 2 := rfl
def m_law_facts : MS :=
  sSeq (sSet 3 (mDisp szL (maNil)))
  (sSeq (sFor (.nm 4) (mRange1 (mVar 2))
  (sSeq (sSet 5 (mBin oIdx (mDisp szL (maCons (mC (.str "same")) (maCons (mC (.str "same")) (maCons (mC (.str "unlike")) (maNil))))) (mOwn F_law_draw (maCons (mVar 0) (maCons (mC (.int 3)) (maNil))))))
  (sSeq (sSet 6 (mBin oIdx (mVar 1) (mOwn F_law_draw (maCons (mVar 0) (maCons (mCall (f1 bLen) (maCons (mVar 1) (maNil))) (maNil))))))
  (sSeq (sSet 7 (mBin oIdx (mVar 1) (mOwn F_law_draw (maCons (mVar 0) (maCons (mCall (f1 bLen) (maCons (mVar 1) (maNil))) (maNil))))))
  (sSeq (sSet 8 (mDisp szT (maCons (mVar 5) (maCons (mVar 6) (maCons (mVar 7) (maNil))))))
  (sSeq (sIf (mtAnd (tB' (mBin cNe (mVar 3) (mDisp szL (maNil)))) (tB' (mBin cEq (mOwn F_law_draw (maCons (mVar 0) (maCons (mC (.int 6)) (maNil)))) (mC (.int 0)))))
  (sSeq (sSet 9 (mBin oIdx (mVar 3) (mOwn F_law_draw (maCons (mVar 0) (maCons (mCall (f1 bLen) (maCons (mVar 3) (maNil))) (maNil))))))
  (sSeq (sSet 8 (mDisp szT (maCons (mBin oIdx (mVar 9) (mC (.int 0))) (maCons (mBin oIdx (mVar 9) (mC (.int 2))) (maCons (mBin oIdx (mVar 9) (mC (.int 1))) (maNil))))))
  (sNil)))
  (sNil))
  (sSeq (sDrop (mMtd roT muT "append" (mVar 3) (maCons (mVar 8) (maNil))))
  (sNil))))))))
  (sSeq (sRet (mVar 3))
  (sNil)))
def F_law_facts : Fn := ⟨false, 3, runFn 3 10 m_law_facts⟩
@[simp] theorem io_law_facts : F_law_facts.io = false := rfl
@[simp] theorem n_law_facts : F_law_facts.n = 3 := rfl
def m_law_due : MS :=
  sSeq (sSet 1 (mOwn F_law_lots (maCons (mVar 0) (maNil))))
  (sSeq (sSet 2 (fun ρ => ov (.f (.dict [])) ρ))
  (sSeq (sFor (.nm 3) (mWalk (mVar 1))
  (sSeq (sIf (tB' (mBin cGt (mCall (f1 bLen) (maCons (mComp [4] (.nm 4) (mWalk (mVar 3)) (tB' (mBin cIn (mBin oIdx (mVar 4) (mC (.int 0))) (mC (.str "0123456789")))) (mVar 4)) (maNil))) (mC (.int 1))))
  (sSeq (sRet (mC .none))
  (sNil))
  (sNil))
  (sSeq (sFor (.nm 4) (mWalk (mVar 3))
  (sSeq (sPut (mCall bMinA (maCons (mVar 3) (maNil))) (mVar 2) (mVar 4))
  (sNil)))
  (sNil))))
  (sSeq (sSet 5 (mComp [4] (.nm 4) (mWalk (mVar 2)) (tB' (mBin cNe (mBin oIdx (mVar 2) (mVar 4)) (mVar 4))) (mDisp szT (maCons (mVar 4) (maCons (mBin oIdx (mVar 2) (mVar 4)) (maNil))))))
  (sSeq (sSet 6 (mDisp szL (maNil)))
  (sSeq (sFor (.tp (.cons (.nm 7) (.cons (.nm 8) (.cons (.nm 9) (.nil))))) (mWalk (mVar 0))
  (sSeq (sIf (tB' (mBin cEq (mVar 7) (mC (.str "unlike"))))
  (sSeq (sSet 10 (mCall (f1 bTuple) (maCons (mCall (f1 bSorted) (maCons (mDisp szL (maCons (mBin oIdx (mVar 2) (mVar 8)) (maCons (mBin oIdx (mVar 2) (mVar 9)) (maNil)))) (maNil))) (maNil))))
  (sSeq (sIf (tB' (mBin cEq (mBin oIdx (mVar 10) (mC (.int 0))) (mBin oIdx (mVar 10) (mC (.int 1)))))
  (sSeq (sRet (mC .none))
  (sNil))
  (sNil))
  (sSeq (sIf (tB' (mBin cNotIn (mBin oIdx (mBin oIdx (mVar 10) (mC (.int 1))) (mC (.int 0))) (mC (.str "0123456789"))))
  (sSeq (sDrop (mMtd roT muT "append" (mVar 6) (maCons (mVar 10) (maNil))))
  (sNil))
  (sNil))
  (sNil))))
  (sNil))
  (sNil)))
  (sSeq (sRet (mDisp szT (maCons (mCall (f1 bTuple) (maCons (mCall (f1 bSorted) (maCons (mVar 5) (maNil))) (maNil))) (maCons (mCall (f1 bTuple) (maCons (mUn bSortSet (mVar 6)) (maNil))) (maNil)))))
  (sNil)))))))
def F_law_due : Fn := ⟨false, 1, runFn 1 11 m_law_due⟩
@[simp] theorem io_law_due : F_law_due.io = false := rfl
@[simp] theorem n_law_due : F_law_due.n = 1 := rfl
def m_are_two_values : MS :=
  sSeq (sRet (mAnd (mOwn F_is_value (maCons (mBin oIdx (mVar 0) (mC (.int 0))) (maNil))) (mOwn F_is_value (maCons (mBin oIdx (mVar 0) (mC (.int 1))) (maNil)))))
  (sNil)
def F_are_two_values : Fn := ⟨false, 1, runFn 1 1 m_are_two_values⟩
@[simp] theorem io_are_two_values : F_are_two_values.io = false := rfl
@[simp] theorem n_are_two_values : F_are_two_values.n = 1 := rfl
def m_law_terms_here : MS :=
  sSeq (sSet 1 (mOwn F_law_some (maCons (mVar 0) (maCons (mBin oAdd (mC (.int 1)) (mOwn F_law_draw (maCons (mVar 0) (maCons (mC (.int 5)) (maNil))))) (maNil)))))
  (sSeq (sSet 2 (mSlice oSl (mDisp szL (maCons (mC (.str "~1")) (maCons (mC (.str "~2")) (maCons (mC (.str "~10")) (maCons (mC (.str "~99999")) (maNil)))))) none (some (mOwn F_law_draw (maCons (mVar 0) (maCons (mC (.int 5)) (maNil)))))))
  (sSeq (sSet 3 (mSlice oSl (mDisp szL (maCons (mC (.str "0")) (maCons (mC (.str "17")) (maCons (mC (.str "5")) (maCons (mC (.str "999999")) (maNil)))))) none (some (mOwn F_law_draw (maCons (mVar 0) (maCons (mC (.int 5)) (maNil)))))))
  (sSeq (sSet 4 (mBin oAdd (mBin oAdd (mVar 1) (mVar 2)) (mVar 3)))
  (sSeq (sRet (mComp [5] (.nm 5) (mRange1 (mCall (f1 bLen) (maCons (mVar 4) (maNil)))) (mtYes) (mMtd roT muT "pop" (mVar 4) (maCons (mOwn F_law_draw (maCons (mVar 0) (maCons (mCall (f1 bLen) (maCons (mVar 4) (maNil))) (maNil)))) (maNil)))))
  (sNil)))))
def F_law_terms_here : Fn := ⟨false, 1, runFn 1 6 m_law_terms_here⟩
@[simp] theorem io_law_terms_here : F_law_terms_here.io = false := rfl
@[simp] theorem n_law_terms_here : F_law_terms_here.n = 1 := rfl
def m_is_told : MS :=
  sSeq (sSet 2 (mOwn F_heads_in (maCons (mVar 0) (maCons (mVar 1) (maNil)))))
  (sSeq (sIf (tB' (mBin cEq (mBin oIdx (mVar 1) (mC (.int 0))) (mC (.str "same"))))
  (sSeq (sRet (mBin cEq (mBin oIdx (mVar 2) (mC (.int 0))) (mBin oIdx (mVar 2) (mC (.int 1)))))
  (sNil))
  (sNil))
  (sSeq (sRet (mAnd (mBin cNe (mBin oIdx (mVar 2) (mC (.int 0))) (mBin oIdx (mVar 2) (mC (.int 1)))) (mOr (mOwn F_are_two_values (maCons (mVar 2) (maNil))) (mBin cIn (mVar 2) (mBin oIdx (mVar 0) (mC (.int 1)))))))
  (sNil)))
def F_is_told : Fn := ⟨false, 2, runFn 2 3 m_is_told⟩
@[simp] theorem io_is_told : F_is_told.io = false := rfl
@[simp] theorem n_is_told : F_is_told.n = 2 := rfl
def m_led : MS :=
  sSeq (sSet 3 (fun ρ => ov (.f (.dict [])) ρ))
  (sSeq (sFor (.nm 4) (mWalk (mVar 0))
  (sSeq (sUnp (.cons (.nm 5) (.cons (.nm 6) (.nil))) (mCall (f1 bSorted) (maCons (mComp [7] (.nm 7) (mWalk (mVar 4)) (mtYes) (mIf (tB' (mBin cEq (mVar 7) (mVar 2))) (mVar 1) (mVar 7))) (maNil))))
  (sSeq (sIf (mNot (mTru (mOwn F_are_two_values (maCons (mDisp szT (maCons (mVar 5) (maCons (mVar 6) (maNil)))) (maNil)))))
  (sSeq (sPut (mC (.bool true)) (mVar 3) (mDisp szT (maCons (mVar 5) (maCons (mVar 6) (maNil)))))
  (sNil))
  (sNil))
  (sNil))))
  (sSeq (sRet (mCall (f1 bTuple) (maCons (mCall (f1 bSorted) (maCons (mVar 3) (maNil))) (maNil))))
  (sNil)))
def F_led : Fn := ⟨false, 3, runFn 3 8 m_led⟩
@[simp] theorem io_led : F_led.io = false := rfl
@[simp] theorem n_led : F_led.n = 3 := rfl
def m_made_one : MS :=
  sSeq (sSet 3 (mComp [4, 5] (.tp (.cons (.nm 4) (.cons (.nm 5) (.nil)))) (mWalk (mBin oIdx (mVar 0) (mC (.int 0)))) (mtYes) (mDisp szT (maCons (mVar 4) (maCons (mIf (tB' (mBin cEq (mVar 5) (mVar 2))) (mVar 1) (mVar 5)) (maNil))))))
  (sSeq (sRet (mDisp szT (maCons (mCall (f1 bTuple) (maCons (mCall (f1 bSorted) (maCons (mBin oAdd (mVar 3) (mDisp szL (maCons (mDisp szT (maCons (mVar 2) (maCons (mVar 1) (maNil)))) (maNil)))) (maNil))) (maNil))) (maCons (mOwn F_led (maCons (mBin oIdx (mVar 0) (mC (.int 1))) (maCons (mVar 1) (maCons (mVar 2) (maNil))))) (maNil)))))
  (sNil))
def F_made_one : Fn := ⟨false, 3, runFn 3 6 m_made_one⟩
@[simp] theorem io_made_one : F_made_one.io = false := rfl
@[simp] theorem n_made_one : F_made_one.n = 3 := rfl
def m_told : MS :=
  sSeq (sIf (tB' (mBin cIs (mVar 0) (mC .none)))
  (sSeq (sRet (mC .none))
  (sNil))
  (sNil))
  (sSeq (sIf (mTru (mOwn F_is_told (maCons (mVar 0) (maCons (mVar 1) (maNil)))))
  (sSeq (sRet (mVar 0))
  (sNil))
  (sNil))
  (sSeq (sSet 2 (mOwn F_heads_in (maCons (mVar 0) (maCons (mVar 1) (maNil)))))
  (sSeq (sIf (tB' (mBin cEq (mBin oIdx (mVar 1) (mC (.int 0))) (mC (.str "unlike"))))
  (sSeq (sRet (mIf (tB' (mBin cEq (mBin oIdx (mVar 2) (mC (.int 0))) (mBin oIdx (mVar 2) (mC (.int 1))))) (mC .none) (mDisp szT (maCons (mBin oIdx (mVar 0) (mC (.int 0))) (maCons (mCall (f1 bTuple) (maCons (mCall (f1 bSorted) (maCons (mBin oAdd (mBin oIdx (mVar 0) (mC (.int 1))) (mDisp szT (maCons (mVar 2) (maNil)))) (maNil))) (maNil))) (maNil))))))
  (sNil))
  (sNil))
  (sSeq (sIf (mtOr (mTru (mOwn F_are_two_values (maCons (mVar 2) (maNil)))) (tB' (mBin cIn (mVar 2) (mBin oIdx (mVar 0) (mC (.int 1))))))
  (sSeq (sRet (mC .none))
  (sNil))
  (sNil))
  (sSeq (sRet (mOwn F_made_one (maCons (mVar 0) (maCons (mBin oIdx (mVar 2) (mC (.int 0))) (maCons (mBin oIdx (mVar 2) (mC (.int 1))) (maNil))))))
  (sNil))))))
def F_told : Fn := ⟨false, 2, runFn 2 3 m_told⟩
@[simp] theorem io_told : F_told.io = false := rfl
@[simp] theorem n_told : F_told.n = 2 := rfl
def m_law : MS :=
  sSeq (sFor (.nm 1) (mRange1 (mBin oAdd (mC (.int 1)) (mCall bMinA (maCons (mC (.int 4)) (maCons (mLenScr 0) (maNil))))))
  (sPenL 2 1
  (sSeq (sSet 3 (mOwn F_law_terms_here (maCons (mVar 2) (maNil))))
  (sSeq (sSet 4 (mOwn F_law_facts (maCons (mVar 2) (maCons (mVar 3) (maCons (mOwn F_law_draw (maCons (mVar 2) (maCons (mC (.int 13)) (maNil)))) (maNil))))))
  (sSeq (sSet 5 (mDisp szT (maCons (mDisp szT (maNil)) (maCons (mDisp szT (maNil)) (maNil)))))
  (sSeq (sFor (.nm 6) (mRange1 (mCall (f1 bLen) (maCons (mVar 4) (maNil))))
  (sSeq (sSet 7 (mOwn F_law_due (maCons (mSlice oSl (mVar 4) none (some (mBin oAdd (mVar 6) (mC (.int 1))))) (maNil))))
  (sSeq (sIf (tB' (mBin cIs (mVar 5) (mC .none)))
  (sSeq (sSet 7 (mC .none))
  (sNil))
  (sNil))
  (sSeq (sSet 8 (mCall (f1 bRepr) (maCons (mDisp szT (maCons (mVar 5) (maCons (mBin oIdx (mVar 4) (mVar 6)) (maNil)))) (maNil))))
  (sSeq (sSet 9 (mOwn F_told (maCons (mVar 5) (maCons (mBin oIdx (mVar 4) (mVar 6)) (maNil)))))
  (sSeq (sIf (mtOr (tB' (mBin cNe (mCall (f1 bRepr) (maCons (mVar 9) (maNil))) (mCall (f1 bRepr) (maCons (mVar 7) (maNil))))) (tB' (mBin cNe (mCall (f1 bRepr) (maCons (mDisp szT (maCons (mVar 5) (maCons (mBin oIdx (mVar 4) (mVar 6)) (maNil)))) (maNil))) (mVar 8))))
  (sSeq (sRet (mC (.bool false)))
  (sNil))
  (sNil))
  (sSeq (sSet 5 (mVar 9))
  (sNil))))))))
  (sSeq (sIf (tB' (mBin cIsNot (mOwn F_told (maCons (mC .none) (maCons (mDisp szT (maCons (mC (.str "same")) (maCons (mBin oIdx (mVar 3) (mC (.int 0))) (maCons (mBin oIdx (mVar 3) (mC (.int 0))) (maNil))))) (maNil)))) (mC .none)))
  (sSeq (sRet (mC (.bool false)))
  (sNil))
  (sNil))
  (sNil))))))))
  (sSeq (sRet (mC (.bool true)))
  (sNil))
end Wk

/-! Rv: values. -/
namespace Wk
open PySem PySem.Spec PyProof.Rows L2
set_option maxHeartbeats 1000000

def DIG : Str := "0123456789"
def LET : Str := "abcdefghijklmnopqrstuvwxyz"
def figs (s : Str) (n : Int) : Bool := !seq s "" && !decide (n < s.length) && allIn DIG s && (seq s "0" || !seq ⟨#[s.cps.toList.headD 0]⟩ "0")
theorem emp_cases (s : Str) : (seq s "" = true ∧ s.length = 0) ∨ (seq s "" = false ∧ 1 ≤ (s.length : Int) ∧ ∃ c, s.cps.toList.headD 0 = c ∧ atI s.cps.toList 0 = some c) := by
  cases h1 : seq s "" with
  | true =>
    refine .inl ⟨rfl, ?_⟩
    rw [seq_iff] at h1; rw [h1]; decide +kernel
  | false =>
    cases e : s.cps.toList with
    | nil => rw [(empty_iff s).mpr e] at h1; simp at h1
    | cons c r => exact .inr ⟨rfl, by have := len_cps s; rw [e] at this; simp at this; omega, c, rfl, atI0 c r⟩
theorem are_figs (s : Str) (n : Int) (hs : s.length ≤ sizeLine) : F_are_figures.sem [.val (.str s), .val (.int n)] = .ret ⟨.val (.bool (figs s n)), []⟩ := by
  have hall := bAll_signs "0123456789" s
  unfold figs DIG
  rcases emp_cases s with ⟨h1, h2⟩ | ⟨h1, hp, c, h0, ha⟩
  · simp [F_are_figures, m_are_figures, h1, h2]
  · by_cases h2 : n < s.length
    · have h2' : ¬ (s.length : Int) ≤ n := by omega
      simp [F_are_figures, m_are_figures, hs, hp, h2, h2']
    · have h2' : (s.length : Int) ≤ n := by omega
      rw [h0]
      cases h3 : allIn "0123456789" s <;> cases h4 : seq s "0" <;> cases h5 : seq ⟨#[c]⟩ "0" <;> simp [F_are_figures, m_are_figures, hs, h1, hp, h2, h2', comp_in hs, hall, h3, h4, h5, ha, szl0]
theorem is_valueS (s : Str) (hs : s.length ≤ sizeLine) : F_is_value.sem [.val (.str s)] = .ret ⟨.val (.bool (figs s 6)), []⟩ := by
  simp [F_is_value, m_is_value, are_figs s 6 hs]
end Wk

/-! Rk: what is known, as the program has it. -/
namespace Wk
open PySem PySem.Spec PyProof.Rows L2
set_option maxHeartbeats 1000000

structure Kn where
  l : List PS
  u : List PS
def knD (k : Kn) : D := .tuple [.tuple (k.l.map pairD), .tuple (k.u.map pairD)]
def knO : Option Kn → D
  | none => .none
  | some k => knD k
def wordS (b : Bool) : Str := if b then "same" else "unlike"
def factD3 (b : Bool) (x y : Str) : D := .tuple [.str (wordS b), .str x, .str y]
def findL (t : Str) : List PS → Option Str
  | [] => none
  | p :: r => if seq p.1 t then some p.2 else findL t r
def headK (k : Kn) (t : Str) : Str := (findL t k.l).getD t
def headsK (k : Kn) (x y : Str) : PS := sort2 (headK k x) (headK k y)
def twoV (p : PS) : Bool := figs p.1 6 && figs p.2 6
def inP (p : PS) (u : List PS) : Bool := inD (pairD p) (u.map pairD)
def isToldK (k : Kn) (b : Bool) (x y : Str) : Bool :=
  let p := headsK k x y
  if b then seq p.1 p.2 else !seq p.1 p.2 && (twoV p || inP p k.u)
def ren (h o t : Str) : Str := if seq t o then h else t
def ledP (h o : Str) (p : PS) : PS := sort2 (ren h o p.1) (ren h o p.2)
def addP (acc : List PS) (p : PS) : List PS := if inP p acc then acc else acc ++ [p]
def ledL (u : List PS) (h o : Str) : List PS := ((u.map (ledP h o)).filter fun p => !twoV p).foldl addP []
def madeK (k : Kn) (h o : Str) : Kn := ⟨((k.l.map fun p => (p.1, ren h o p.2)) ++ [(o, h)]).mergeSort leP, (ledL k.u h o).mergeSort leP⟩
def toldK (k : Kn) (b : Bool) (x y : Str) : Option Kn :=
  if isToldK k b x y then some k else
  let p := headsK k x y
  if b then (if twoV p || inP p k.u then none else some (madeK k p.1 p.2))
  else if seq p.1 p.2 then none else some ⟨k.l, (k.u ++ [p]).mergeSort leP⟩

/-! sizes -/
structure SK (n : Nat) (k : Kn) : Prop where
  l : ∀ p ∈ k.l, Sok 40 p.1 ∧ Sok 40 p.2
  u : ∀ p ∈ k.u, Sok 40 p.1 ∧ Sok 40 p.2
  nl : k.l.length ≤ n
  nu : k.u.length ≤ n
theorem findL_sok {t : Str} {l : List PS} (h : ∀ p ∈ l, Sok 40 p.1 ∧ Sok 40 p.2) {s : Str} (e : findL t l = some s) : Sok 40 s := by
  induction l with
  | nil => cases e
  | cons p r ih =>
    unfold findL at e
    split at e
    · cases e; exact (h p List.mem_cons_self).2
    · exact ih (fun q hq => h q (List.mem_cons_of_mem _ hq)) e
theorem head_sok {n : Nat} {k : Kn} (h : SK n k) {t : Str} (ht : Sok 40 t) : Sok 40 (headK k t) := by
  unfold headK
  cases e : findL t k.l with
  | none => exact ht
  | some s => exact findL_sok h.l e
theorem sort2_sok {a b : Str} (ha : Sok 40 a) (hb : Sok 40 b) : Sok 40 (sort2 a b).1 ∧ Sok 40 (sort2 a b).2 := by
  rcases sort2_or a b with e | e <;> rw [e] <;> exact ⟨by assumption, by assumption⟩
theorem heads_sok {n : Nat} {k : Kn} (h : SK n k) {x y : Str} (hx : Sok 40 x) (hy : Sok 40 y) : Sok 40 (headsK k x y).1 ∧ Sok 40 (headsK k x y).2 := sort2_sok (head_sok h hx) (head_sok h hy)

/-! the program's defs -/
abbrev hiG : Tg := .tp (.cons (.nm 2) (.cons (.nm 3) (.nil)))
abbrev hiB : MS := sSeq (sIf (tB' (mBin cEq (mVar 2) (mVar 1)))
  (sSeq (sRet (mVar 3))
  (sNil))
  (sNil))
  (sNil)
theorem head_loop (kd : D) (t : Str) : ∀ (l : List PS) (x y : Option Rv), ∃ x' y', fLoop hiG hiB (l.map pairD) ⟨[some (.val kd), some (.val (.str t)), x, y], []⟩ =
    (match findL t l with
    | some h => .ret (.rt (.val (.str h)), ⟨[some (.val kd), some (.val (.str t)), x', y'], []⟩)
    | none => .ret (.nx, ⟨[some (.val kd), some (.val (.str t)), x', y'], []⟩))
  | [], x, y => ⟨x, y, rfl⟩
  | p :: r, x, y => by
    cases e : seq p.1 t with
    | true =>
      refine ⟨some (.val (.str p.1)), some (.val (.str p.2)), ?_⟩
      simp [findL, e, fLoop, pairD]
    | false =>
      obtain ⟨x', y', h⟩ := head_loop kd t r (some (.val (.str p.1))) (some (.val (.str p.2)))
      refine ⟨x', y', ?_⟩
      simp [findL, e, fLoop, pairD]
      exact h
theorem head_eq (k : Kn) (t : Str) : F_head_in.sem [.val (knD k), .val (.str t)] = .ret ⟨.val (.str (headK k t)), []⟩ := by
  obtain ⟨x', y', h⟩ := head_loop (knD k) t k.l none none
  simp [F_head_in, m_head_in]
  unfold knD at h ⊢
  simp
  rw [h]
  unfold headK
  cases findL t k.l <;> simp
@[simp] theorem word_len (b : Bool) : (wordS b).length ≤ 6 := by cases b <;> decide +kernel
theorem word_same (b : Bool) : seq (wordS b) "same" = b := by cases b <;> decide +kernel
theorem word_unlike (b : Bool) : seq (wordS b) "unlike" = !b := by cases b <;> decide +kernel
theorem heads_eq {n : Nat} {k : Kn} (h : SK n k) (b : Bool) {x y : Str} (hx : Sok 40 x) (hy : Sok 40 y) : F_heads_in.sem [.val (knD k), .val (factD3 b x y)] = .ret ⟨.val (pairD (headsK k x y)), []⟩ := by
  have h1 := head_eq k x
  have h2 := head_eq k y
  have z2 : 2 ≤ sizeLine := sz_le (by decide)
  have so : sOk [.str (headK k x), .str (headK k y)] = true := sOk_strs (by simp)
  have st := sort_strs2 (headK k x) (headK k y)
  simp [F_heads_in, m_heads_in, factD3, h1, h2, z2, so, st]
  rfl
theorem two_eq {a b : Str} (ha : Sok 40 a) (hb : Sok 40 b) : F_are_two_values.sem [.val (pairD (a, b))] = .ret ⟨.val (.bool (twoV (a, b))), []⟩ := by
  have h1 := is_valueS a (sz_of ha (by decide))
  have h2 := is_valueS b (sz_of hb (by decide))
  cases e1 : figs a 6 <;> simp [F_are_two_values, m_are_two_values, pairD, h1, h2, twoV, e1]
theorem flat_ps {ps : List PS} (h : ∀ p ∈ ps, Sok 40 p.1 ∧ Sok 40 p.2) : (ps.map pairD).all tupOk = true := by
  rw [List.all_eq_true]
  intro d hd
  obtain ⟨p, hp, rfl⟩ := List.mem_map.mp hd
  have := h p hp
  simp [pairD, tupOk, flatOk, this.1.2, this.2.2]
theorem in_tt {es : List D} {ds : List D} (h : es.all flatOk = true) (h2 : ds.all tupOk = true) : cIn (.tuple es) (.tuple ds) = .v (.bool (inD (.tuple es) ds)) := by
  have a := shaped_tup h
  have b := shaped_tups h2
  have s1 : SeqAt.shaped (.tuple es) = true := by
    unfold SeqAt.shaped; rw [a.1]; simp; have := a.2; omega
  have s2 : SeqAt.shaped (.list ds) = true := by
    unfold SeqAt.shaped; rw [PyData.canLay0, b.1, PyData.depth]; simp; have := b.2; omega
  have : inOk (.tuple es) ds = true := by unfold inOk; rw [s1, s2]; simp
  show (if inOk (.tuple es) ds then _ else _) = _
  rw [this]; rfl
theorem in_pair {p : PS} {ps : List PS} (hp : Sok 40 p.1 ∧ Sok 40 p.2) (h : ∀ p ∈ ps, Sok 40 p.1 ∧ Sok 40 p.2) : cIn (.tuple [.str p.1, .str p.2]) (.tuple (ps.map pairD)) = .v (.bool (inP p ps)) :=
  in_tt (by simp [flatOk, hp.1.2, hp.2.2]) (flat_ps h)
theorem told_eq {n : Nat} {k : Kn} (h : SK n k) (b : Bool) {x y : Str} (hx : Sok 40 x) (hy : Sok 40 y) : F_is_told.sem [.val (knD k), .val (factD3 b x y)] = .ret ⟨.val (.bool (isToldK k b x y)), []⟩ := by
  have h1 := heads_eq h b hx hy
  have hs := heads_sok h hx hy
  have h2 := two_eq hs.1 hs.2
  have h3 := in_pair hs h.u
  unfold isToldK
  generalize headsK k x y = p at *
  obtain ⟨p1, p2⟩ := p
  have hw := word_same b
  cases b with
  | true => simp [F_is_told, m_is_told, h1]; simp [factD3, hw, pairD]
  | false =>
    simp [F_is_told, m_is_told, h1]
    simp [factD3, hw, pairD]
    cases e : seq p1 p2 with
    | true => simp
    | false =>
      simp
      have h2 : F_are_two_values.sem [.val (.tuple [.str p1, .str p2])] = _ := h2
      simp [h2]
      cases e2 : twoV (p1, p2) with
      | true => simp
      | false => simp [knD]; simp at h3; simp [h3]
end Wk

/-! Rl: known behind a fact, as the program has it. -/
namespace Wk
open PySem PySem.Spec PyProof.Rows L2
set_option maxHeartbeats 1000000
def trueOf (p : PS) : D × D := (pairD p, .bool true)
theorem keys_of (acc : List PS) : (acc.map trueOf).map (·.1) = acc.map pairD := by
  rw [List.map_map]; rfl
theorem inP_iff (p : PS) (acc : List PS) : inP p acc = (acc.map trueOf).any fun q => PyData.eqv q.1 (pairD p) := by
  unfold inP inD
  rw [List.any_map, List.any_map]; rfl
theorem dput_add (p : PS) (acc : List PS) : dPut (pairD p) (.bool true) (acc.map trueOf) = (addP acc p).map trueOf := by
  unfold dPut addP
  rw [← inP_iff]
  split
  · rw [List.map_map]
    refine List.map_congr_left fun q _ => ?_
    simp only [Function.comp]
    split <;> rfl
  · rw [List.map_append]; rfl
theorem tkm_true (acc : List PS) : tkm (acc.map trueOf) = true := by cases acc <;> rfl
theorem addP_len (acc : List PS) (p : PS) : (addP acc p).length ≤ acc.length + 1 := by
  unfold addP; split <;> simp
abbrev ledG : Tg := .nm 4
abbrev ledC : ME := mComp [7] (.nm 7) (mWalk (mVar 4)) (mtYes) (mIf (tB' (mBin cEq (mVar 7) (mVar 2))) (mVar 1) (mVar 7))
abbrev ledB : MS := sSeq (sUnp (.cons (.nm 5) (.cons (.nm 6) (.nil))) (mCall (f1 bSorted) (maCons ledC (maNil))))
  (sSeq (sIf (mNot (mTru (mOwn F_are_two_values (maCons (mDisp szT (maCons (mVar 5) (maCons (mVar 6) (maNil)))) (maNil)))))
  (sSeq (sPut (mC (.bool true)) (mVar 3) (mDisp szT (maCons (mVar 5) (maCons (mVar 6) (maNil)))))
  (sNil))
  (sNil))
  (sNil))
def renD (h o : Str) : D → D
  | .str s => .str (ren h o s)
  | d => d
theorem led_comp {h o a b : Str} {pv x3 x5 x6 x7 : Option Rv} {st : List (D × Bool)} :
    ledC ⟨[pv, some (.val (.str h)), some (.val (.str o)), x3, some (.val (.tuple [.str a, .str b])), x5, x6, x7], st⟩ = .ret (.res st.length, ⟨[pv, some (.val (.str h)), some (.val (.str o)), x3, some (.val (.tuple [.str a, .str b])), x5, x6, x7], st ++ [(.list [.str (ren h o a), .str (ren h o b)], false)]⟩) := by
  have := comp_same (own := [7]) (g := .nm 7) (mi := mWalk (mVar 4)) (tt := mtYes) (el := mIf (tB' (mBin cEq (mVar 7) (mVar 2))) (mVar 1) (mVar 7))
    (ρ := ⟨[pv, some (.val (.str h)), some (.val (.str o)), x3, some (.val (.tuple [.str a, .str b])), x5, x6, x7], st⟩) [.str a, .str b] (fun _ => true) (renD h o) (by simp) fun d hd => by
      obtain ⟨s, rfl⟩ : ∃ s, d = .str s := by
        simp only [List.mem_cons, List.not_mem_nil, or_false] at hd
        rcases hd with rfl | rfl <;> exact ⟨_, rfl⟩
      refine ⟨_, _, e_tg, by simp; rfl, fun _ => ?_⟩
      cases e : seq s o with
      | true => exact ⟨[pv, some (.val (.str h)), some (.val (.str o)), x3, some (.val (.tuple [.str a, .str b])), x5, x6, some (.val (.str s))], by simp [e, renD, ren]⟩
      | false => exact ⟨[pv, some (.val (.str h)), some (.val (.str o)), x3, some (.val (.tuple [.str a, .str b])), x5, x6, some (.val (.str s))], by simp [e, renD, ren]⟩
  exact this
theorem led_turn {h o : Str} {p : PS} {pv x5 x6 x7 : Option Rv} {st : List (D × Bool)} {acc : List PS} {m : Nat} (hp : Sok 40 p.1 ∧ Sok 40 p.2) (hh : Sok 40 h) (ho : Sok 40 o) (h0 : st[m]? = some (.dict (acc.map trueOf), false)) (hz : acc.length < 1000000) :
    ∃ y5 y6 st', ledB ⟨[pv, some (.val (.str h)), some (.val (.str o)), some (.res m), some (.val (pairD p)), x5, x6, x7], st⟩ = .ret (.nx, ⟨[pv, some (.val (.str h)), some (.val (.str o)), some (.res m), some (.val (pairD p)), y5, y6, x7], st'⟩) ∧
      st'[m]? = some (.dict ((if twoV (ledP h o p) then acc else addP acc (ledP h o p)).map trueOf), false) := by
  obtain ⟨a, b⟩ := p
  have hc := led_comp (h := h) (o := o) (a := a) (b := b) (pv := pv) (x3 := some (.res m)) (x5 := x5) (x6 := x6) (x7 := x7) (st := st)
  have so : sOk [.str (ren h o a), .str (ren h o b)] = true := sOk_strs (by simp)
  have ss := sort_strs2 (ren h o a) (ren h o b)
  have rs : ∀ {t : Str}, Sok 40 t → Sok 40 (ren h o t) := fun {t} ht => by unfold ren; split <;> assumption
  have hs := sort2_sok (rs hp.1) (rs hp.2)
  have h2 := two_eq hs.1 hs.2
  have z2 : 2 ≤ sizeLine := sz_le (by decide)
  have g0 : ∀ xs : List (D × Bool), (st ++ xs)[m]? = some (.dict (acc.map trueOf), false) := fun xs => by
    rw [List.getElem?_append_left (lt_get h0)]; exact h0
  have lt0 := lt_get h0
  unfold ledP
  simp only
  generalize sort2 (ren h o a) (ren h o b) = q at *
  obtain ⟨q1, q2⟩ := q
  simp only at ss h2
  have h2 : F_are_two_values.sem [.val (.tuple [.str q1, .str q2])] = _ := h2
  have tk := tkm_true acc
  have ks : keysOf [.str q1, .str q2] = some [.inr q1, .inr q2] := by simp [keysOf]
  have zl : (acc.map trueOf).length < sizeLine := by rw [List.length_map, sizeLine_eq]; omega
  have dp : dPut (.tuple [.str q1, .str q2]) (.bool true) (acc.map trueOf) = _ := dput_add (q1, q2) acc
  have zl2 : acc.length < sizeLine := by rw [sizeLine_eq]; omega
  cases e : twoV (q1, q2) with
  | true =>
    refine ⟨some (.val (.str q1)), some (.val (.str q2)), st ++ [(.list [.str (ren h o a), .str (ren h o b)], false), (.list [.str q1, .str q2], false)], ?_, ?_⟩
    · simp only [pairD]
      simp [hc, so, ss, z2, h2, e]
    · exact g0 _
  | false =>
    refine ⟨some (.val (.str q1)), some (.val (.str q2)), (st ++ [(PyData.list [.str (ren h o a), .str (ren h o b)], false), (PyData.list [.str q1, .str q2], false)]).set m (PyData.dict ((addP acc (q1, q2)).map trueOf), false), ?_, ?_⟩
    · simp only [pairD]
      simp [hc, so, ss, z2, h2, e, g0, ks, tk, zl, zl2, dp]
    · rw [List.getElem?_set_self (by rw [List.length_append]; omega)]; rfl
theorem led_loop {h o : Str} {pv : Option Rv} (hh : Sok 40 h) (ho : Sok 40 o) {m : Nat} : ∀ (u : List PS), (∀ p ∈ u, Sok 40 p.1 ∧ Sok 40 p.2) → ∀ (acc : List PS) (x4 x5 x6 x7 : Option Rv) (st : List (D × Bool)), st[m]? = some (.dict (acc.map trueOf), false) → acc.length + u.length < 1000000 →
    ∃ y4 y5 y6 st', fLoop ledG ledB (u.map pairD) ⟨[pv, some (.val (.str h)), some (.val (.str o)), some (.res m), x4, x5, x6, x7], st⟩ = .ret (.nx, ⟨[pv, some (.val (.str h)), some (.val (.str o)), some (.res m), y4, y5, y6, x7], st'⟩) ∧
      st'[m]? = some (.dict ((((u.map (ledP h o)).filter fun p => !twoV p).foldl addP acc).map trueOf), false)
  | [], _, acc, x4, x5, x6, x7, st, h0, _ => ⟨x4, x5, x6, st, rfl, h0⟩
  | p :: u, hu, acc, x4, x5, x6, x7, st, h0, hz => by
    rw [List.length_cons] at hz
    obtain ⟨y5, y6, st1, e1, h1⟩ := led_turn (pv := pv) (x5 := x5) (x6 := x6) (x7 := x7) (hu p List.mem_cons_self) hh ho h0 (by omega)
    have hl := addP_len acc (ledP h o p)
    obtain ⟨z4, z5, z6, st2, e2, h2⟩ := led_loop hh ho u (fun q hq => hu q (List.mem_cons_of_mem _ hq)) _ (some (.val (pairD p))) y5 y6 x7 st1 h1 (by split <;> omega)
    refine ⟨z4, z5, z6, st2, ?_, ?_⟩
    · simp only [List.map_cons, fLoop, e_tg, e_ens]
      show (ledB _).bind _ = _
      have : (⟨[pv, some (.val (.str h)), some (.val (.str o)), some (.res m), x4, x5, x6, x7].set 4 (some (.val (pairD p))), st⟩ : En) = ⟨[pv, some (.val (.str h)), some (.val (.str o)), some (.res m), some (.val (pairD p)), x5, x6, x7], st⟩ := rfl
      rw [this, e1]
      exact e2
    · rw [h2, List.map_cons, List.filter_cons]
      cases e : twoV (ledP h o p) <;> simp [e]
theorem led_eq {h o : Str} {u : List PS} (hh : Sok 40 h) (ho : Sok 40 o) (hu : ∀ p ∈ u, Sok 40 p.1 ∧ Sok 40 p.2) (hz : u.length < 1000000) :
    F_led.sem [.val (.tuple (u.map pairD)), .val (.str h), .val (.str o)] = .ret ⟨.val (.tuple (((ledL u h o).mergeSort leP).map pairD)), []⟩ := by
  obtain ⟨y4, y5, y6, st', e, h0⟩ := led_loop (pv := some (.val (.tuple (u.map pairD)))) hh ho (m := 0) u hu [] none none none none [(.dict [], false)] rfl (by simpa using hz)
  unfold ledL
  generalize hL : ((u.map (ledP h o)).filter fun p => !twoV p).foldl addP [] = L at h0 ⊢
  have so := sOk_pairs L
  have ks := keys_of L
  have sp := sort_pairs L
  have lt0 := lt_get h0
  generalize hm : 0 = m at h0 e lt0
  simp [F_led, m_led]
  rw [hm] at *
  simp [e, h0, ks, so, sp]
abbrev mdC : ME := mComp [4, 5] (.tp (.cons (.nm 4) (.cons (.nm 5) (.nil)))) (mWalk (mBin oIdx (mVar 0) (mC (.int 0)))) (mtYes) (mDisp szT (maCons (mVar 4) (maCons (mIf (tB' (mBin cEq (mVar 5) (mVar 2))) (mVar 1) (mVar 5)) (maNil))))
def mdF (h o : Str) : D → D
  | .tuple [a, .str b] => .tuple [a, .str (ren h o b)]
  | d => d
theorem md_comp (k : Kn) (h o : Str) : mdC ⟨[some (.val (knD k)), some (.val (.str h)), some (.val (.str o)), none, none, none], []⟩ = .ret (.res 0, ⟨[some (.val (knD k)), some (.val (.str h)), some (.val (.str o)), none, none, none], [(.list ((k.l.map fun p => (p.1, ren h o p.2)).map pairD), false)]⟩) := by
  have z2 : 2 ≤ sizeLine := sz_le (by decide)
  have := comp_same (own := [4, 5]) (g := .tp (.cons (.nm 4) (.cons (.nm 5) (.nil)))) (mi := mWalk (mBin oIdx (mVar 0) (mC (.int 0)))) (tt := mtYes) (el := mDisp szT (maCons (mVar 4) (maCons (mIf (tB' (mBin cEq (mVar 5) (mVar 2))) (mVar 1) (mVar 5)) (maNil))))
    (ρ := ⟨[some (.val (knD k)), some (.val (.str h)), some (.val (.str o)), none, none, none], []⟩) (k.l.map pairD) (fun _ => true) (mdF h o) (by unfold knD; simp) fun d hd => by
      obtain ⟨p, _, rfl⟩ := List.mem_map.mp hd
      refine ⟨⟨[some (.val (knD k)), some (.val (.str h)), some (.val (.str o)), none, some (.val (.str p.1)), some (.val (.str p.2))], []⟩, _, by simp [pairD], by simp; rfl, fun _ => ?_⟩
      cases e : seq p.2 o with
      | true => exact ⟨[some (.val (knD k)), some (.val (.str h)), some (.val (.str o)), none, some (.val (.str p.1)), some (.val (.str p.2))], by simp [e, mdF, pairD, ren, z2]⟩
      | false => exact ⟨[some (.val (knD k)), some (.val (.str h)), some (.val (.str o)), none, some (.val (.str p.1)), some (.val (.str p.2))], by simp [e, mdF, pairD, ren, z2]⟩
  have em : ((k.l.map pairD).filter fun _ => true).map (mdF h o) = (k.l.map fun p => (p.1, ren h o p.2)).map pairD := by
    rw [List.filter_eq_self.mpr fun _ _ => rfl, List.map_map, List.map_map]; rfl
  rw [em] at this
  exact this
theorem made_eq {n : Nat} {k : Kn} (hk : SK n k) {h o : Str} (hh : Sok 40 h) (ho : Sok 40 o) (hz : n < 1000000) : F_made_one.sem [.val (knD k), .val (.str h), .val (.str o)] = .ret ⟨.val (knD (madeK k h o)), []⟩ := by
  have hc := md_comp k h o
  have hl := led_eq hh ho hk.u (by have := hk.nu; omega)
  have z2 : 2 ≤ sizeLine := sz_le (by decide)
  have z1 : 1 ≤ sizeLine := sz_le (by decide)
  have zl : k.l.length + 1 ≤ sizeLine := sz_le (by have := hk.nl; omega)
  have em : (k.l.map fun p => (p.1, ren h o p.2)).map pairD ++ [.tuple [.str o, .str h]] = ((k.l.map fun p => (p.1, ren h o p.2)) ++ [(o, h)]).map pairD := by rw [List.map_append]; rfl
  have so := sOk_pairs ((k.l.map fun p => (p.1, ren h o p.2)) ++ [(o, h)])
  have sp := sort_pairs ((k.l.map fun p => (p.1, ren h o p.2)) ++ [(o, h)])
  unfold madeK knD at *
  simp only
  generalize hL : (k.l.map fun p => (p.1, ren h o p.2)) = L at *
  have lL : L.length = k.l.length := by rw [← hL, List.length_map]
  rw [← lL] at zl
  simp [F_made_one, m_made_one]
  have hc : mComp [4, 5] (.tp (.cons (.nm 4) (.cons (.nm 5) (.nil)))) (mWalk (mBin oIdx (mVar 0) (mC (.int 0)))) (mtYes) (mDisp szT (maCons (mVar 4) (maCons (mIf (tB' (mBin cEq (mVar 5) (mVar 2))) (mVar 1) (mVar 5)) (maNil)))) _ = _ := hc
  rw [hc]
  simp [z1, z2, zl]
  rw [em]
  simp [-List.map_append, so, sp, z2, hl]
theorem toldF_eq {n : Nat} {k : Kn} (hk : SK n k) (b : Bool) {x y : Str} (hx : Sok 40 x) (hy : Sok 40 y) (hz : n < 1000000) : F_told.sem [.val (knD k), .val (factD3 b x y)] = .ret ⟨.val (knO (toldK k b x y)), []⟩ := by
  have h1 := told_eq hk b hx hy
  have h2 := heads_eq hk b hx hy
  have hs := heads_sok hk hx hy
  have h3 := two_eq hs.1 hs.2
  have h4 := in_pair hs hk.u
  have h5 := made_eq hk hs.1 hs.2 hz
  have hw := word_unlike b
  have z2 : 2 ≤ sizeLine := sz_le (by decide)
  have z1 : 1 ≤ sizeLine := sz_le (by decide)
  have zu : k.u.length + 1 ≤ sizeLine := sz_le (by have := hk.nu; omega)
  have em : k.u.map pairD ++ [pairD (headsK k x y)] = (k.u ++ [headsK k x y]).map pairD := by rw [List.map_append]; rfl
  have so := sOk_pairs (k.u ++ [headsK k x y])
  have sp := sort_pairs (k.u ++ [headsK k x y])
  have isn : cIs (knD k) .none = .v (.bool false) := rfl
  unfold toldK
  cases e1 : isToldK k b x y with
  | true => rw [e1] at h1; simp [F_told, m_told, h1, knO, isn]
  | false =>
    rw [e1] at h1
    generalize headsK k x y = p at *
    obtain ⟨p1, p2⟩ := p
    simp [F_told, m_told, h1, knO, isn, h2]
    simp only [factD3] at *
    cases b with
    | false =>
      simp [hw]
      cases e2 : seq p1 p2 with
      | true => simp [pairD, e2, knO]
      | false =>
        simp [pairD, e2]
        unfold knD
        have em : k.u.map pairD ++ [.tuple [.str p1, .str p2]] = _ := em
        simp [z1, z2, zu]
        rw [em]
        simp [-List.map_append, so, sp, z2, knO, knD]
    | true =>
      simp [hw, h3]
      cases e2 : twoV (p1, p2) with
      | true => simp [knO]
      | false =>
        simp
        have h4 : cIn (pairD (p1, p2)) (.tuple (k.u.map pairD)) = _ := h4
        have i1 : oIdx (knD k) (.int 1) = .v (.tuple (k.u.map pairD)) := rfl
        have i2 : oIdx (pairD (p1, p2)) (.int 0) = .v (.str p1) := rfl
        have i3 : oIdx (pairD (p1, p2)) (.int 1) = .v (.str p2) := rfl
        cases e3 : inP (p1, p2) k.u with
        | true => simp [i1, h4, e3, knO]
        | false => simp [i1, i2, i3, h4, e3, knO, h5]
end Wk

/-! Rs: what is known, by worlds. -/
namespace Wk
open PySem PySem.Spec PyProof.Rows L2
set_option maxHeartbeats 1000000
/-- above the figures -/
def hi (t : Str) : Prop := ∃ c r, t.cps.toList = c :: r ∧ 97 ≤ c
theorem figs_first {t : Str} {n : Int} (h : figs t n = true) : ∃ c r, t.cps.toList = c :: r ∧ c ≤ 57 := by
  unfold figs at h
  simp only [Bool.and_eq_true] at h
  obtain ⟨⟨⟨h1, _⟩, h2⟩, _⟩ := h
  cases e : t.cps.toList with
  | nil => rw [(empty_iff t).mpr e] at h1; simp at h1
  | cons c r =>
    refine ⟨c, r, rfl, ?_⟩
    have := List.all_eq_true.mp h2 c (by rw [e]; exact List.mem_cons_self)
    have := of_decide_eq_true this
    have hd : ∀ x ∈ DIG.cps.toList, x ≤ 57 := by decide +kernel
    exact hd c this
theorem hi_not {t : Str} {n : Int} (h : hi t) : figs t n = false := by
  cases e : figs t n with
  | false => rfl
  | true =>
    obtain ⟨c, r, e1, h1⟩ := h
    obtain ⟨c', r', e2, h2⟩ := figs_first e
    rw [e1] at e2
    cases e2
    omega
/-- values stand ahead of names -/
theorem le_value {a b : Str} {n : Int} (h : leS a b = true) (hb : figs b n = true) (ha : hi a) : False := by
  obtain ⟨c, r, e1, h1⟩ := ha
  obtain ⟨c', r', e2, h2⟩ := figs_first hb
  rw [leS_iff, e1, e2] at h
  exact h (List.Lex.rel (by omega))
theorem pair_eqv (p q : PS) : PyData.eqv (pairD p) (pairD q) = true ↔ p = q := by
  unfold pairD
  rw [eqv_tup, eqvAll_c, eqvAll_c, eqvAll_n, eqv_seq, eqv_seq]
  simp only [Bool.and_true, Bool.and_eq_true, seq_iff]
  exact ⟨fun h => Prod.ext h.1 h.2, fun h => by rw [h]; exact ⟨rfl, rfl⟩⟩
theorem inP_mem (p : PS) (u : List PS) : inP p u = true ↔ p ∈ u := by
  unfold inP inD
  rw [List.any_eq_true]
  constructor
  · rintro ⟨d, hd, e⟩
    obtain ⟨q, hq, rfl⟩ := List.mem_map.mp hd
    rw [← (pair_eqv q p).mp e]; exact hq
  · intro h
    exact ⟨_, List.mem_map.mpr ⟨p, h, rfl⟩, (pair_eqv p p).mpr rfl⟩
/-- terms: values, names -/
structure Tms where
  ns : List Str
  vs : List Str
structure TmOk (Z : Tms) : Prop where
  ns : ∀ t ∈ Z.ns, hi t
  vs : ∀ t ∈ Z.vs, figs t 6 = true
def Tms.T (Z : Tms) (t : Str) : Prop := t ∈ Z.ns ∨ t ∈ Z.vs
/-- what is known stands rightly -/
structure WF (Z : Tms) (k : Kn) : Prop where
  tl : ∀ p ∈ k.l, Z.T p.1 ∧ Z.T p.2
  tu : ∀ p ∈ k.u, Z.T p.1 ∧ Z.T p.2
  flat : ∀ p ∈ k.l, ∀ q ∈ k.l, q.1 ≠ p.2
  one : ∀ p ∈ k.l, ∀ q ∈ k.l, p.1 = q.1 → p.2 = q.2
  nov : ∀ p ∈ k.l, figs p.1 6 = false
  uh : ∀ p ∈ k.u, ∀ q ∈ k.l, q.1 ≠ p.1 ∧ q.1 ≠ p.2
  ul : ∀ p ∈ k.u, leS p.1 p.2 = true ∧ p.1 ≠ p.2 ∧ twoV p = false
theorem wf_nil (Z : Tms) : WF Z ⟨[], []⟩ := ⟨nofun, nofun, nofun, nofun, nofun, nofun, nofun⟩
def sat (f : Str → Str) (k : Kn) : Prop := (∀ p ∈ k.l, f p.1 = f p.2) ∧ ∀ p ∈ k.u, f p.1 ≠ f p.2
def satF (f : Str → Str) (b : Bool) (x y : Str) : Prop := if b then f x = f y else f x ≠ f y
theorem findL_some {t : Str} {l : List PS} {s : Str} (e : findL t l = some s) : (t, s) ∈ l := by
  induction l with
  | nil => cases e
  | cons p r ih =>
    unfold findL at e
    split at e
    · rename_i h
      cases e
      rw [seq_iff] at h
      rw [← h]; exact List.mem_cons_self
    · exact List.mem_cons_of_mem _ (ih e)
theorem findL_none {t : Str} {l : List PS} : findL t l = none ↔ ∀ p ∈ l, p.1 ≠ t := by
  induction l with
  | nil => simp [findL]
  | cons p r ih =>
    unfold findL
    split
    · rename_i h
      rw [seq_iff] at h
      simp [h]
    · rename_i h
      have h : p.1 ≠ t := fun z => h (seq_iff.mpr z)
      rw [ih, List.forall_mem_cons]
      exact ⟨fun z => ⟨h, z⟩, fun z => z.2⟩
theorem headK_cases (k : Kn) (t : Str) : ((t, headK k t) ∈ k.l) ∨ (headK k t = t ∧ ∀ p ∈ k.l, p.1 ≠ t) := by
  unfold headK
  cases e : findL t k.l with
  | some s => exact .inl (findL_some e)
  | none => exact .inr ⟨rfl, findL_none.mp e⟩
theorem headK_head {k : Kn} {t : Str} (h : ∀ p ∈ k.l, p.1 ≠ t) : headK k t = t := by
  unfold headK
  rw [findL_none.mpr h]; rfl
theorem headK_led {Z : Tms} {k : Kn} (W : WF Z k) {p : PS} (hp : p ∈ k.l) : headK k p.1 = p.2 := by
  rcases headK_cases k p.1 with h | ⟨_, h⟩
  · exact W.one _ h _ hp rfl
  · exact absurd rfl (h p hp)
/-- a head isn't led -/
theorem head_free {Z : Tms} {k : Kn} (W : WF Z k) (t : Str) : ∀ q ∈ k.l, q.1 ≠ headK k t := fun q hq => by
  rcases headK_cases k t with h | ⟨e, h⟩
  · exact W.flat _ h q hq
  · rw [e]; exact h q hq
theorem head_T {Z : Tms} {k : Kn} (W : WF Z k) {t : Str} (ht : Z.T t) : Z.T (headK k t) := by
  rcases headK_cases k t with h | ⟨e, h⟩
  · exact (W.tl _ h).2
  · rw [e]; exact ht
section
variable {Z : Tms} {k : Kn} {f : Str → Str} {b : Bool} {x y : Str}
theorem head_sat (S : sat f k) (t : Str) : f (headK k t) = f t := by
  rcases headK_cases k t with h | ⟨e, h⟩
  · exact (S.1 _ h).symm
  · rw [e]
/-- the heads' values are the terms' -/
theorem heads_sat (S : sat f k) (x y : Str) : (f (headsK k x y).1 = f (headsK k x y).2 ↔ f x = f y) := by
  unfold headsK
  rcases sort2_or (headK k x) (headK k y) with e | e <;> rw [e] <;> simp only [head_sat S]
  exact eq_comm
theorem told_sound (hv : ∀ t ∈ Z.vs, f t = t) (O : TmOk Z) (W : WF Z k) (hx : Z.T x) (hy : Z.T y) (S : sat f k) (h : isToldK k b x y = true) : satF f b x y := by
  unfold isToldK at h
  have hh := heads_sat S x y
  have t1 : Z.T (headsK k x y).1 ∧ Z.T (headsK k x y).2 := by
    unfold headsK
    rcases sort2_or (headK k x) (headK k y) with e | e <;> rw [e] <;> exact ⟨head_T W (by assumption), head_T W (by assumption)⟩
  unfold satF
  generalize headsK k x y = p at *
  cases b with
  | true =>
    simp only [if_true, seq_iff] at h ⊢
    exact hh.mp (by rw [h])
  | false =>
    simp only [Bool.false_eq_true, if_false, Bool.and_eq_true, Bool.not_eq_true', Bool.or_eq_true] at h ⊢
    obtain ⟨h1, h2⟩ := h
    have h1 : p.1 ≠ p.2 := fun z => by rw [seq_iff.mpr z] at h1; cases h1
    intro hxy
    have e := hh.mpr hxy
    rcases h2 with h2 | h2
    · unfold twoV at h2
      rw [Bool.and_eq_true] at h2
      have v : ∀ {t}, Z.T t → figs t 6 = true → t ∈ Z.vs := fun {t} ht hf => by
        rcases ht with z | z
        · rw [hi_not (O.ns t z)] at hf; cases hf
        · exact z
      rw [hv _ (v t1.1 h2.1), hv _ (v t1.2 h2.2)] at e
      exact h1 e
    · exact S.2 p ((inP_mem p k.u).mp h2) e
theorem hp_T (W : WF Z k) (hx : Z.T x) (hy : Z.T y) : Z.T (headsK k x y).1 ∧ Z.T (headsK k x y).2 := by
  unfold headsK
  rcases sort2_or (headK k x) (headK k y) with e | e <;> rw [e] <;> exact ⟨head_T W (by assumption), head_T W (by assumption)⟩
theorem hp_free (W : WF Z k) (x y : Str) : ∀ q ∈ k.l, q.1 ≠ (headsK k x y).1 ∧ q.1 ≠ (headsK k x y).2 := fun q hq => by
  unfold headsK
  rcases sort2_or (headK k x) (headK k y) with e | e <;> rw [e] <;> exact ⟨head_free W _ q hq, head_free W _ q hq⟩
theorem hp_le (k : Kn) (x y : Str) : leS (headsK k x y).1 (headsK k x y).2 = true := sort2_le _ _
theorem val_T (O : TmOk Z) {t : Str} (ht : Z.T t) (hf : figs t 6 = true) : t ∈ Z.vs := by
  rcases ht with z | z
  · rw [hi_not (O.ns t z)] at hf; cases hf
  · exact z
theorem two_apart (hv : ∀ t ∈ Z.vs, f t = t) (O : TmOk Z) {p : PS} (h1 : Z.T p.1) (h2 : Z.T p.2) (hn : p.1 ≠ p.2) (h : twoV p = true) : f p.1 ≠ f p.2 := by
  unfold twoV at h
  rw [Bool.and_eq_true] at h
  rw [hv _ (val_T O h1 h.1), hv _ (val_T O h2 h.2)]; exact hn
theorem told_none (hv : ∀ t ∈ Z.vs, f t = t) (O : TmOk Z) (W : WF Z k) (hx : Z.T x) (hy : Z.T y) (S : sat f k) (h : toldK k b x y = none) : ¬ satF f b x y := by
  unfold toldK at h
  have hh := heads_sat S x y
  have hT := hp_T W hx hy
  split at h
  · cases h
  · rename_i ht
    unfold isToldK at ht
    unfold satF
    generalize headsK k x y = p at *
    cases b with
    | true =>
      simp only [if_true] at h ht ⊢
      have hn : p.1 ≠ p.2 := fun z => ht (seq_iff.mpr z)
      split at h
      · rename_i h2
        rw [Bool.or_eq_true] at h2
        intro hxy
        have e := hh.mpr hxy
        rcases h2 with h2 | h2
        · exact two_apart hv O hT.1 hT.2 hn h2 e
        · exact S.2 p ((inP_mem p k.u).mp h2) e
      · cases h
    | false =>
      simp only [Bool.false_eq_true, if_false] at h ⊢
      split at h
      · rename_i h2
        rw [seq_iff] at h2
        exact fun z => z (hh.mp (by rw [h2]))
      · cases h
theorem ren_ne {h o t : Str} (hn : h ≠ o) : ren h o t ≠ o := by
  unfold ren
  split
  · exact hn
  · rename_i z; exact fun e => z (seq_iff.mpr e)
theorem ren_self {h o : Str} : ren h o o = h := by unfold ren; rw [if_pos (seq_self o)]
theorem ren_other {h o t : Str} (n : t ≠ o) : ren h o t = t := by unfold ren; rw [if_neg (fun z => n (seq_iff.mp z))]
theorem ren_val {h o t : Str} (e : f o = f h) : f (ren h o t) = f t := by
  by_cases z : t = o
  · rw [z, ren_self, e]
  · rw [ren_other z]
theorem ren_T {h o t : Str} (hh : Z.T h) (ht : Z.T t) : Z.T (ren h o t) := by unfold ren; split <;> assumption
theorem mem_fold (p : PS) : ∀ (l acc : List PS), p ∈ l.foldl addP acc ↔ p ∈ acc ∨ p ∈ l
  | [], acc => by simp
  | q :: l, acc => by
    rw [List.foldl_cons, mem_fold p l]
    unfold addP
    split
    · rename_i h
      rw [inP_mem] at h
      simp only [List.mem_cons]
      constructor
      · rintro (z | z)
        · exact .inl z
        · exact .inr (.inr z)
      · rintro (z | rfl | z)
        · exact .inl z
        · exact .inl h
        · exact .inr z
    · simp only [List.mem_append, List.mem_cons, List.not_mem_nil, or_false]
      constructor
      · rintro ((z | z) | z)
        · exact .inl z
        · exact .inr (.inl z)
        · exact .inr (.inr z)
      · rintro (z | z | z)
        · exact .inl (.inl z)
        · exact .inl (.inr z)
        · exact .inr z
theorem mem_led {p : PS} {u : List PS} {h o : Str} : p ∈ ledL u h o ↔ ∃ q ∈ u, ledP h o q = p ∧ twoV p = false := by
  unfold ledL
  rw [mem_fold]
  simp only [List.not_mem_nil, false_or, List.mem_filter, List.mem_map, Bool.not_eq_true']
  constructor
  · rintro ⟨⟨q, hq, e⟩, h2⟩; exact ⟨q, hq, e, h2⟩
  · rintro ⟨q, hq, e, h2⟩; exact ⟨⟨q, hq, e⟩, h2⟩
theorem mem_sort {p : PS} {l : List PS} : p ∈ l.mergeSort leP ↔ p ∈ l := (List.mergeSort_perm l leP).mem_iff
/-- two heads that become one don't part others -/
theorem ren_apart {h o : Str} (W : WF Z k) (hle : leS h o = true) (hn : h ≠ o) (hu : ¬ (h, o) ∈ k.u) {q : PS} (hq : q ∈ k.u) : ren h o q.1 ≠ ren h o q.2 := by
  obtain ⟨l1, n1, _⟩ := W.ul q hq
  intro e
  by_cases z1 : q.1 = o
  · by_cases z2 : q.2 = o
    · exact n1 (z1.trans z2.symm)
    · rw [z1, ren_self, ren_other z2] at e
      rw [z1, ← e] at l1
      exact hn (leS_antisymm hle l1)
  · by_cases z2 : q.2 = o
    · rw [z2, ren_self, ren_other z1] at e
      exact hu (by rw [← e, ← z2]; exact hq)
    · rw [ren_other z1, ren_other z2] at e
      exact n1 e
theorem sort2_f (g : Str → Str) (a b : Str) : g (sort2 a b).1 ≠ g (sort2 a b).2 ↔ g a ≠ g b := by
  rcases sort2_or a b with e | e <;> rw [e]
  exact ⟨fun h z => h z.symm, fun h z => h z.symm⟩
theorem sort2_T {a b : Str} (ha : Z.T a) (hb : Z.T b) : Z.T (sort2 a b).1 ∧ Z.T (sort2 a b).2 := by
  rcases sort2_or a b with e | e <;> rw [e] <;> exact ⟨by assumption, by assumption⟩
theorem made_sat (hv : ∀ t ∈ Z.vs, f t = t) (O : TmOk Z) (W : WF Z k) {h o : Str} (hh : Z.T h) (ho : Z.T o) (hle : leS h o = true) (hn : h ≠ o) (hu : ¬ (h, o) ∈ k.u) : sat f (madeK k h o) ↔ sat f k ∧ f h = f o := by
  unfold madeK sat
  simp only [mem_sort]
  constructor
  · rintro ⟨h1, h2⟩
    have e : f o = f h := h1 (o, h) (List.mem_append_right _ (List.mem_singleton.mpr rfl))
    refine ⟨⟨fun p hp => ?_, fun q hq => ?_⟩, e.symm⟩
    · have := h1 (p.1, ren h o p.2) (List.mem_append_left _ (List.mem_map.mpr ⟨p, hp, rfl⟩))
      have this : f p.1 = f (ren h o p.2) := this
      rw [this, ren_val e]
    · have ra := ren_apart W hle hn hu hq
      have key : f (ren h o q.1) ≠ f (ren h o q.2) := by
        have hT := W.tu q hq
        have hS := sort2_T (ren_T (o := o) hh hT.1) (ren_T (o := o) hh hT.2)
        refine (sort2_f f _ _).mp ?_
        cases e2 : twoV (ledP h o q) with
        | false => exact h2 _ (mem_led.mpr ⟨q, hq, rfl, e2⟩)
        | true => exact two_apart hv O hS.1 hS.2 ((sort2_f id _ _).mpr ra) e2
      rw [ren_val e, ren_val e] at key
      exact key
  · rintro ⟨⟨h1, h2⟩, e⟩
    refine ⟨fun p hp => ?_, fun p hp => ?_⟩
    · rcases List.mem_append.mp hp with z | z
      · obtain ⟨q, hq, rfl⟩ := List.mem_map.mp z
        show f q.1 = f (ren h o q.2)
        rw [ren_val e.symm]; exact h1 q hq
      · rw [List.mem_singleton.mp z]; exact e.symm
    · obtain ⟨q, hq, rfl, _⟩ := mem_led.mp hp
      refine (sort2_f f _ _).mpr ?_
      rw [ren_val e.symm, ren_val e.symm]
      exact h2 q hq
theorem o_name (O : TmOk Z) {h o : Str} (hh : Z.T h) (ho : Z.T o) (hle : leS h o = true) (h2 : twoV (h, o) = false) : figs o 6 = false := by
  cases e : figs o 6 with
  | false => rfl
  | true =>
    rcases hh with z | z
    · exact (le_value hle e (O.ns h z)).elim
    · have := O.vs h z
      simp [twoV, this, e] at h2
theorem made_wf (O : TmOk Z) (W : WF Z k) {h o : Str} (hh : Z.T h) (ho : Z.T o) (fh : ∀ q ∈ k.l, q.1 ≠ h ∧ q.1 ≠ o) (hle : leS h o = true) (hn : h ≠ o) (hu : ¬ (h, o) ∈ k.u) (h2 : twoV (h, o) = false) : WF Z (madeK k h o) := by
  have ml : ∀ p, p ∈ (madeK k h o).l ↔ (∃ q ∈ k.l, p = (q.1, ren h o q.2)) ∨ p = (o, h) := fun p => by
    unfold madeK
    simp only [mem_sort, List.mem_append, List.mem_map, List.mem_singleton]
    constructor
    · rintro (⟨q, hq, rfl⟩ | z)
      · exact .inl ⟨q, hq, rfl⟩
      · exact .inr z
    · rintro (⟨q, hq, rfl⟩ | z)
      · exact .inl ⟨q, hq, rfl⟩
      · exact .inr z
  have mu : ∀ p, p ∈ (madeK k h o).u ↔ ∃ q ∈ k.u, ledP h o q = p ∧ twoV p = false := fun p => by
    unfold madeK
    simp only [mem_sort]
    exact mem_led
  have rf : ∀ {t : Str}, (∀ q ∈ k.l, q.1 ≠ t) → ∀ q ∈ (madeK k h o).l, q.1 ≠ ren h o t := fun {t} ht q hq => by
    rcases (ml q).mp hq with ⟨q0, hq0, rfl⟩ | rfl
    · show q0.1 ≠ ren h o t
      by_cases z : t = o
      · rw [z, ren_self]; exact (fh q0 hq0).1
      · rw [ren_other z]; exact ht q0 hq0
    · exact fun e => ren_ne hn e.symm
  refine ⟨fun p hp => ?_, fun p hp => ?_, fun p hp q hq => ?_, fun p hp q hq e => ?_, fun p hp => ?_, fun p hp q hq => ?_, fun p hp => ?_⟩
  · rcases (ml p).mp hp with ⟨q, hq, rfl⟩ | rfl
    · exact ⟨(W.tl q hq).1, ren_T hh (W.tl q hq).2⟩
    · exact ⟨ho, hh⟩
  · obtain ⟨q, hq, rfl, _⟩ := (mu p).mp hp
    exact sort2_T (ren_T hh (W.tu q hq).1) (ren_T hh (W.tu q hq).2)
  · rcases (ml p).mp hp with ⟨p0, hp0, rfl⟩ | rfl
    · exact rf (fun r hr => W.flat p0 hp0 r hr) q hq
    · rcases (ml q).mp hq with ⟨q0, hq0, rfl⟩ | rfl
      · exact (fh q0 hq0).1
      · exact fun e => hn e.symm
  · rcases (ml p).mp hp with ⟨p0, hp0, rfl⟩ | rfl
    · rcases (ml q).mp hq with ⟨q0, hq0, rfl⟩ | rfl
      · show ren h o p0.2 = ren h o q0.2
        rw [W.one p0 hp0 q0 hq0 e]
      · exact absurd e (fh p0 hp0).2
    · rcases (ml q).mp hq with ⟨q0, hq0, rfl⟩ | rfl
      · exact absurd e.symm (fh q0 hq0).2
      · rfl
  · rcases (ml p).mp hp with ⟨p0, hp0, rfl⟩ | rfl
    · exact W.nov p0 hp0
    · exact o_name O hh ho hle h2
  · obtain ⟨r, hr, rfl, _⟩ := (mu p).mp hp
    have a1 := rf (fun s hs => (W.uh r hr s hs).1) q hq
    have a2 := rf (fun s hs => (W.uh r hr s hs).2) q hq
    unfold ledP
    rcases sort2_or (ren h o r.1) (ren h o r.2) with e | e <;> rw [e]
    · exact ⟨a1, a2⟩
    · exact ⟨a2, a1⟩
  · obtain ⟨r, hr, rfl, h3⟩ := (mu p).mp hp
    exact ⟨sort2_le _ _, (sort2_f id _ _).mpr (ren_apart W hle hn hu hr), h3⟩
theorem told_some (hv : ∀ t ∈ Z.vs, f t = t) (O : TmOk Z) (W : WF Z k) (hx : Z.T x) (hy : Z.T y) {k' : Kn} (h : toldK k b x y = some k') : sat f k' ↔ sat f k ∧ satF f b x y := by
  unfold toldK at h
  have hT := hp_T W hx hy
  split at h
  · rename_i ht
    cases h
    exact ⟨fun S => ⟨S, told_sound hv O W hx hy S ht⟩, fun z => z.1⟩
  · rename_i ht
    unfold isToldK at ht
    have hh := fun S : sat f k => heads_sat S x y
    have hle := hp_le k x y
    unfold satF
    generalize headsK k x y = p at *
    cases b with
    | true =>
      simp only [if_true] at h ht ⊢
      have hn : p.1 ≠ p.2 := fun z => ht (seq_iff.mpr z)
      split at h
      · cases h
      · rename_i h2
        cases h
        rw [Bool.or_eq_true, inP_mem] at h2
        rw [made_sat hv O W hT.1 hT.2 hle hn fun z => h2 (.inr z)]
        exact ⟨fun ⟨S, e⟩ => ⟨S, (hh S).mp e⟩, fun ⟨S, e⟩ => ⟨S, (hh S).mpr e⟩⟩
    | false =>
      simp only [Bool.false_eq_true, if_false] at h ⊢
      split at h
      · cases h
      · cases h
        unfold sat
        simp only [mem_sort]
        constructor
        · rintro ⟨h1, h2⟩
          have S : sat f k := ⟨h1, fun q hq => h2 q (List.mem_append_left _ hq)⟩
          refine ⟨S, fun e => ?_⟩
          exact h2 p (List.mem_append_right _ (List.mem_singleton.mpr rfl)) ((hh S).mpr e)
        · rintro ⟨S, e⟩
          refine ⟨S.1, fun q hq => ?_⟩
          rcases List.mem_append.mp hq with z | z
          · exact S.2 q z
          · rw [List.mem_singleton.mp z]; exact fun z => e ((hh S).mp z)
theorem told_wf (O : TmOk Z) (W : WF Z k) (hx : Z.T x) (hy : Z.T y) {k' : Kn} (h : toldK k b x y = some k') : WF Z k' := by
  unfold toldK at h
  have hT := hp_T W hx hy
  split at h
  · cases h; exact W
  · rename_i ht
    unfold isToldK at ht
    have hf := hp_free W x y
    have hle := hp_le k x y
    generalize headsK k x y = p at *
    cases b with
    | true =>
      simp only [if_true] at h ht
      have hn : p.1 ≠ p.2 := fun z => ht (seq_iff.mpr z)
      split at h
      · cases h
      · rename_i h2
        cases h
        rw [Bool.or_eq_true, inP_mem] at h2
        exact made_wf O W hT.1 hT.2 hf hle hn (fun z => h2 (.inr z)) (Bool.eq_false_iff.mpr fun z => h2 (.inl z))
    | false =>
      simp only [Bool.false_eq_true, if_false] at h ht
      split at h
      · cases h
      · rename_i hn
        cases h
        have hn' : p.1 ≠ p.2 := fun z => hn (seq_iff.mpr z)
        have h2 : twoV p = false := by
          cases e : twoV p with
          | false => rfl
          | true => simp [e, hn] at ht
        have mu : ∀ q, q ∈ (k.u ++ [p]).mergeSort leP ↔ q ∈ k.u ∨ q = p := fun q => by
          rw [mem_sort, List.mem_append, List.mem_singleton]
        refine ⟨W.tl, fun q hq => ?_, W.flat, W.one, W.nov, fun q hq => ?_, fun q hq => ?_⟩
        · rcases (mu q).mp hq with z | rfl
          · exact W.tu q z
          · exact hT
        · rcases (mu q).mp hq with z | rfl
          · exact W.uh q z
          · exact hf
        · rcases (mu q).mp hq with z | rfl
          · exact W.ul q z
          · exact ⟨hle, hn', h2⟩
end
end Wk

/-! K07w: what isn't told is so in some world, not so in another; all ways. -/
namespace Wk
open PySem PySem.Spec PyProof.Rows L2
set_option maxHeartbeats 1000000
section
variable {Z : Tms} {k : Kn} {b : Bool} {x y : Str} {g : Str → Str}
theorem headK_val (O : TmOk Z) (W : WF Z k) {v : Str} (hv : v ∈ Z.vs) : headK k v = v := headK_head fun p hp e => by
  have := W.nov p hp
  rw [e, O.vs v hv] at this; cases this
theorem full_sat (W : WF Z k) (hg : ∀ a b, Z.T a → Z.T b → g a = g b → a = b) : sat (fun t => g (headK k t)) k := by
  refine ⟨fun p hp => ?_, fun p hp e => ?_⟩
  · show g (headK k p.1) = g (headK k p.2)
    rw [headK_led W hp, headK_head (W.flat p hp)]
  · have e : g (headK k p.1) = g (headK k p.2) := e
    rw [headK_head fun q hq => (W.uh p hp q hq).1, headK_head fun q hq => (W.uh p hp q hq).2] at e
    exact (W.ul p hp).2.1 (hg _ _ (W.tu p hp).1 (W.tu p hp).2 e)
theorem one_sat (W : WF Z k) (hg : ∀ a b, Z.T a → Z.T b → g a = g b → a = b) {h o : Str} (hh : Z.T h) (hle : leS h o = true) (hn : h ≠ o) (hu : ¬ (h, o) ∈ k.u) : sat (fun t => g (ren h o (headK k t))) k := by
  refine ⟨fun p hp => ?_, fun p hp e => ?_⟩
  · show g (ren h o (headK k p.1)) = g (ren h o (headK k p.2))
    rw [headK_led W hp, headK_head (W.flat p hp)]
  · have e : g (ren h o (headK k p.1)) = g (ren h o (headK k p.2)) := e
    rw [headK_head fun q hq => (W.uh p hp q hq).1, headK_head fun q hq => (W.uh p hp q hq).2] at e
    exact ren_apart W hle hn hu hp (hg _ _ (ren_T hh (W.tu p hp).1) (ren_T hh (W.tu p hp).2) e)
/-- what isn't told is not so in some world -/
theorem told_complete (O : TmOk Z) (W : WF Z k) (hg : ∀ a b, Z.T a → Z.T b → g a = g b → a = b) (hx : Z.T x) (hy : Z.T y) (h : isToldK k b x y = false) :
    ∃ r : Str → Str, (∀ t, Z.T t → Z.T (r t)) ∧ (∀ v ∈ Z.vs, r v = v) ∧ sat (fun t => g (r t)) k ∧ ¬ satF (fun t => g (r t)) b x y := by
  have hT := hp_T W hx hy
  have hle := hp_le k x y
  have base := fun (q : ¬ satF (fun t => g (headK k t)) b x y) => (⟨headK k, fun t ht => head_T W ht, fun v hv => headK_val O W hv, full_sat W hg, q⟩ : ∃ r : Str → Str, (∀ t, Z.T t → Z.T (r t)) ∧ (∀ v ∈ Z.vs, r v = v) ∧ sat (fun t => g (r t)) k ∧ ¬ satF (fun t => g (r t)) b x y)
  unfold isToldK at h
  cases b with
  | true =>
    simp only [if_true] at h
    refine base fun e => ?_
    have e : g (headK k x) = g (headK k y) := e
    have e := hg _ _ (head_T W hx) (head_T W hy) e
    unfold headsK at h
    rw [e] at h
    rcases sort2_or (headK k y) (headK k y) with z | z <;> rw [z] at h <;> simp at h
  | false =>
    simp only [Bool.false_eq_true, if_false] at h
    by_cases hn : (headsK k x y).1 = (headsK k x y).2
    · refine base fun e => e ?_
      show g (headK k x) = g (headK k y)
      unfold headsK at hn
      rcases sort2_or (headK k x) (headK k y) with z | z <;> rw [z] at hn
      · exact congrArg g hn
      · exact congrArg g hn.symm
    · have hs : seq (headsK k x y).1 (headsK k x y).2 = false := Bool.eq_false_iff.mpr fun z => hn (seq_iff.mp z)
      rw [hs] at h
      simp only [Bool.not_false, Bool.true_and, Bool.or_eq_false_iff] at h
      have hu : ¬ ((headsK k x y).1, (headsK k x y).2) ∈ k.u := fun z => by
        have := (inP_mem (headsK k x y) k.u).mpr z
        rw [h.2] at this; cases this
      have ho := o_name O hT.1 hT.2 hle h.1
      refine ⟨fun t => ren (headsK k x y).1 (headsK k x y).2 (headK k t), fun t ht => ren_T hT.1 (head_T W ht), fun v hv => ?_, one_sat W hg hT.1 hle hn hu, fun e => e ?_⟩
      · show ren _ _ (headK k v) = v
        rw [headK_val O W hv]
        exact ren_other fun e => by rw [← e, O.vs v hv] at ho; cases ho
      · show g (ren _ _ (headK k x)) = g (ren _ _ (headK k y))
        have : ren (headsK k x y).1 (headsK k x y).2 (headK k x) = ren (headsK k x y).1 (headsK k x y).2 (headK k y) := by
          unfold headsK at hn ⊢
          rcases sort2_or (headK k x) (headK k y) with z | z <;> rw [z] at hn ⊢
          · rw [ren_self, ren_other hn]
          · rw [ren_self, ren_other hn]
        rw [this]
end
/-! ### all ways -/
abbrev Way := List PS
def putA (w : Way) (n v : Str) : Way := if (w.any fun p => seq p.1 n) = true then w.map (fun p => if seq p.1 n = true then (p.1, v) else p) else w ++ [(n, v)]
def wv (w : Way) (t : Str) : Str := (findL t w).getD t
theorem findL_put (w : Way) (n v t : Str) : findL t (putA w n v) = if seq n t then some v else findL t w := by
  unfold putA
  split
  · rename_i h
    induction w with
    | nil => simp at h
    | cons p r ih =>
      rw [List.map_cons]
      cases e : seq p.1 n with
      | true =>
        have ep : p.1 = n := seq_iff.mp e
        simp only [if_true, findL, ep]
        cases e2 : seq n t with
        | true => rfl
        | false =>
          simp only [Bool.false_eq_true, if_false]
          -- the rest is as it is
          have : ∀ r : Way, findL t (r.map fun p => if seq p.1 n = true then (p.1, v) else p) = findL t r := fun r => by
            induction r with
            | nil => rfl
            | cons q r ih =>
              rw [List.map_cons]
              cases e3 : seq q.1 n with
              | true =>
                have eq : q.1 = n := seq_iff.mp e3
                simp only [if_true, findL, eq, e2, Bool.false_eq_true, if_false]
                exact ih
              | false => simp only [Bool.false_eq_true, if_false, findL, ih]
          exact this r
      | false =>
        rw [List.any_cons, e, Bool.false_or] at h
        simp only [Bool.false_eq_true, if_false, findL]
        rw [ih h]
        cases e2 : seq n t with
        | true =>
          have et : n = t := seq_iff.mp e2
          rw [← et, e]; simp
        | false => simp
  · rename_i h
    have hno : ∀ p ∈ w, seq p.1 n = false := fun p hp => by
      cases e : seq p.1 n with
      | false => rfl
      | true => exact absurd (List.any_eq_true.mpr ⟨p, hp, e⟩) h
    clear h
    induction w with
    | nil => simp [findL]
    | cons p r ih =>
      rw [List.cons_append]
      simp only [findL]
      rw [ih fun q hq => hno q (List.mem_cons_of_mem _ hq)]
      have e := hno p List.mem_cons_self
      cases e2 : seq n t with
      | true =>
        have et : n = t := seq_iff.mp e2
        rw [← et, e]; simp
      | false => simp
theorem wv_put (w : Way) (n v t : Str) : wv (putA w n v) t = if t = n then v else wv w t := by
  unfold wv
  rw [findL_put]
  by_cases e : t = n
  · rw [if_pos e, e, seq_self]; rfl
  · have : seq n t = false := Bool.eq_false_iff.mpr fun z => e (seq_iff.mp z).symm
    rw [if_neg e, this]; rfl
def stepW (vals : List Str) (ws : List Way) (n : Str) : List Way := ws.flatMap fun w => vals.map (putA w n)
def waysL (ns vals : List Str) : List Way := ns.foldl (stepW vals) [[]]
theorem ways_in (vals : List Str) : ∀ (ns : List Str) (acc : List Way), ∀ w ∈ ns.foldl (stepW vals) acc, ∃ w0 ∈ acc, ∀ t, (t ∈ ns → wv w t ∈ vals) ∧ (t ∉ ns → wv w t = wv w0 t)
  | [], acc, w, hw => ⟨w, hw, fun t => ⟨nofun, fun _ => rfl⟩⟩
  | n :: ns, acc, w, hw => by
    obtain ⟨w1, h1, q⟩ := ways_in vals ns _ w hw
    unfold stepW at h1
    obtain ⟨w0, h0, h2⟩ := List.mem_flatMap.mp h1
    obtain ⟨v, hv, rfl⟩ := List.mem_map.mp h2
    refine ⟨w0, h0, fun t => ⟨fun ht => ?_, fun ht => ?_⟩⟩
    · by_cases hm : t ∈ ns
      · exact (q t).1 hm
      · rw [(q t).2 hm, wv_put]
        rcases List.mem_cons.mp ht with rfl | z
        · rw [if_pos rfl]; exact hv
        · exact absurd z hm
    · rw [(q t).2 fun z => ht (List.mem_cons_of_mem _ z), wv_put, if_neg fun z => ht (by rw [z]; exact List.mem_cons_self)]
theorem ways_all (vals : List Str) (φ : Str → Str) : ∀ (ns : List Str), (∀ n ∈ ns, φ n ∈ vals) → ∀ (acc : List Way), ∀ w0 ∈ acc, ∃ w ∈ ns.foldl (stepW vals) acc, ∀ t, (t ∈ ns → wv w t = φ t) ∧ (t ∉ ns → wv w t = wv w0 t)
  | [], _, acc, w0, h0 => ⟨w0, h0, fun t => ⟨nofun, fun _ => rfl⟩⟩
  | n :: ns, hn, acc, w0, h0 => by
    have h1 : putA w0 n (φ n) ∈ stepW vals acc n := List.mem_flatMap.mpr ⟨w0, h0, List.mem_map.mpr ⟨_, hn n List.mem_cons_self, rfl⟩⟩
    obtain ⟨w, hw, q⟩ := ways_all vals φ ns (fun m hm => hn m (List.mem_cons_of_mem _ hm)) _ _ h1
    refine ⟨w, hw, fun t => ⟨fun ht => ?_, fun ht => ?_⟩⟩
    · by_cases hm : t ∈ ns
      · exact (q t).1 hm
      · rw [(q t).2 hm, wv_put]
        rcases List.mem_cons.mp ht with rfl | z
        · rw [if_pos rfl]
        · exact absurd z hm
    · rw [(q t).2 fun z => ht (List.mem_cons_of_mem _ z), wv_put, if_neg fun z => ht (by rw [z]; exact List.mem_cons_self)]
theorem sat_congr {Z : Tms} {k : Kn} (W : WF Z k) {f g : Str → Str} (h : ∀ t, Z.T t → f t = g t) : sat f k ↔ sat g k := by
  unfold sat
  constructor
  · rintro ⟨h1, h2⟩
    exact ⟨fun p hp => by rw [← h _ (W.tl p hp).1, ← h _ (W.tl p hp).2]; exact h1 p hp, fun p hp => by rw [← h _ (W.tu p hp).1, ← h _ (W.tu p hp).2]; exact h2 p hp⟩
  · rintro ⟨h1, h2⟩
    exact ⟨fun p hp => by rw [h _ (W.tl p hp).1, h _ (W.tl p hp).2]; exact h1 p hp, fun p hp => by rw [h _ (W.tu p hp).1, h _ (W.tu p hp).2]; exact h2 p hp⟩
/-- the worlds of the law: as many other values as there are names -/
structure World1 (Z : Tms) (els : List Str) : Prop where
  ok : TmOk Z
  nd : els.Nodup
  len : els.length = Z.ns.length
  hi : ∀ e ∈ els, Wk.hi e
section
variable {Z : Tms} {els : List Str} (Q : World1 Z els)
include Q
theorem world_g : ∃ g : Str → Str, (∀ a b, Z.T a → Z.T b → g a = g b → a = b) ∧ (∀ v ∈ Z.vs, g v = v) ∧ ∀ t, Z.T t → g t ∈ Z.vs ++ els := by
  classical
  have hidx : ∀ t ∈ Z.ns, Z.ns.idxOf t < els.length := fun t ht => by rw [Q.len]; exact List.idxOf_lt_length_of_mem ht
  refine ⟨fun t => if t ∈ Z.ns then els.getD (Z.ns.idxOf t) "" else t, fun a b ha hb e => ?_, fun v hv => ?_, fun t ht => ?_⟩
  · have e : (if a ∈ Z.ns then els.getD (Z.ns.idxOf a) "" else a) = (if b ∈ Z.ns then els.getD (Z.ns.idxOf b) "" else b) := e
    have em : ∀ t ∈ Z.ns, els.getD (Z.ns.idxOf t) "" ∈ els := fun t ht => by
      rw [List.getD_eq_getElem?_getD, List.getElem?_eq_getElem (hidx t ht)]
      exact List.getElem_mem _
    have mix : ∀ s t, s ∈ Z.ns → t ∉ Z.ns → Z.T t → els.getD (Z.ns.idxOf s) "" ≠ t := fun s t hs ht hT e => by
      have h1 := Q.hi _ (em s hs)
      rw [e] at h1
      have h2 := Q.ok.vs t (hT.resolve_left ht)
      rw [hi_not h1] at h2; cases h2
    by_cases h1 : a ∈ Z.ns
    · by_cases h2 : b ∈ Z.ns
      · rw [if_pos h1, if_pos h2, List.getD_eq_getElem?_getD, List.getD_eq_getElem?_getD, List.getElem?_eq_getElem (hidx a h1), List.getElem?_eq_getElem (hidx b h2)] at e
        have := (List.getElem_inj Q.nd).mp e
        have ga := List.getElem_idxOf (List.idxOf_lt_length_of_mem h1)
        have gb := List.getElem_idxOf (List.idxOf_lt_length_of_mem h2)
        rw [← ga, ← gb]
        congr 1
      · rw [if_pos h1, if_neg h2] at e
        exact absurd e (mix a b h1 h2 hb)
    · by_cases h2 : b ∈ Z.ns
      · rw [if_neg h1, if_pos h2] at e
        exact absurd e.symm (mix b a h2 h1 ha)
      · rw [if_neg h1, if_neg h2] at e; exact e
  · show (if v ∈ Z.ns then _ else v) = v
    rw [if_neg]
    intro z
    have := Q.ok.vs v hv
    rw [hi_not (Q.ok.ns v z)] at this; cases this
  · show (if t ∈ Z.ns then els.getD (Z.ns.idxOf t) "" else t) ∈ _
    by_cases h : t ∈ Z.ns
    · rw [if_pos h, List.getD_eq_getElem?_getD, List.getElem?_eq_getElem (hidx t h)]
      exact List.mem_append_right _ (List.getElem_mem _)
    · rw [if_neg h]
      exact List.mem_append_left _ (ht.resolve_left h)
/-- a way's terms: values are themselves -/
theorem way_val {w : Way} (hw : w ∈ waysL Z.ns (Z.vs ++ els)) : ∀ v ∈ Z.vs, wv w v = v := fun v hv => by
  obtain ⟨w0, h0, q⟩ := ways_in _ _ _ w hw
  have : v ∉ Z.ns := fun z => by
    have := Q.ok.vs v hv
    rw [hi_not (Q.ok.ns v z)] at this; cases this
  rw [(q v).2 this]
  rw [List.mem_singleton.mp h0]; rfl
theorem way_of {r : Str → Str} {g : Str → Str} (hr : ∀ t, Z.T t → Z.T (r t)) (hv : ∀ v ∈ Z.vs, r v = v) (gv : ∀ v ∈ Z.vs, g v = v) (gm : ∀ t, Z.T t → g t ∈ Z.vs ++ els) : ∃ w ∈ waysL Z.ns (Z.vs ++ els), ∀ t, Z.T t → wv w t = g (r t) := by
  obtain ⟨w, hw, q⟩ := ways_all (Z.vs ++ els) (fun t => g (r t)) Z.ns (fun n hn => gm _ (hr n (.inl hn))) [[]] [] (by simp)
  refine ⟨w, hw, fun t ht => ?_⟩
  by_cases h : t ∈ Z.ns
  · exact (q t).1 h
  · have htv := ht.resolve_left h
    rw [(q t).2 h, hv t htv, gv t htv]; rfl
theorem some_way {k : Kn} (W : WF Z k) : ∃ w ∈ waysL Z.ns (Z.vs ++ els), sat (wv w) k := by
  obtain ⟨g, g1, g2, g3⟩ := world_g Q
  obtain ⟨w, hw, q⟩ := way_of Q (r := headK k) (fun t ht => head_T W ht) (fun v hv => headK_val Q.ok W hv) g2 g3
  exact ⟨w, hw, (sat_congr W q).mpr (full_sat W g1)⟩
theorem other_way {k : Kn} (W : WF Z k) {b : Bool} {x y : Str} (hx : Z.T x) (hy : Z.T y) (h : isToldK k b x y = false) : ∃ w ∈ waysL Z.ns (Z.vs ++ els), sat (wv w) k ∧ ¬ satF (wv w) b x y := by
  obtain ⟨g, g1, g2, g3⟩ := world_g Q
  obtain ⟨r, r1, r2, r3, r4⟩ := told_complete Q.ok W g1 hx hy h
  obtain ⟨w, hw, q⟩ := way_of Q r1 r2 g2 g3
  refine ⟨w, hw, (sat_congr W q).mpr r3, fun z => r4 ?_⟩
  unfold satF at z ⊢
  rw [q x hx, q y hy] at z; exact z
end
end Wk

/-! Ru: what is known is told by what it allows: one form for each. -/
namespace Wk
open PySem PySem.Spec PyProof.Rows L2
set_option maxHeartbeats 1000000
/-- rising, each once, heads least -/
structure Srt (k : Kn) : Prop where
  sl : k.l.Pairwise fun a b => leP a b = true
  nl : (k.l.map (·.1)).Nodup
  su : k.u.Pairwise fun a b => leP a b = true
  nu : k.u.Nodup
  lh : ∀ p ∈ k.l, leS p.2 p.1 = true
theorem leP_trans (a b c : PS) (h1 : leP a b = true) (h2 : leP b c = true) : leP a c = true := leD_trans _ _ _ h1 h2
theorem leP_total (a b : PS) : (leP a b || leP b a) = true := leD_total _ _
theorem leP_anti {a b : PS} (h1 : leP a b = true) (h2 : leP b a = true) : a = b := by
  unfold leP at h1 h2
  rw [pairD_K, pairD_K] at *
  have e := leD_anti h1 h2
  unfold pairK at e
  simp only [List.cons.injEq, Sum.inr.injEq, and_true] at e
  exact Prod.ext e.1 e.2
theorem srt_pw (l : List PS) : (l.mergeSort leP).Pairwise fun a b => leP a b = true := List.pairwise_mergeSort leP_trans leP_total l
theorem srt_nd {l : List PS} (h : l.Nodup) : (l.mergeSort leP).Nodup := (List.mergeSort_perm l leP).nodup_iff.mpr h
/-- the same members in the same order -/
theorem srt_eq {l m : List PS} (h1 : l.Pairwise fun a b => leP a b = true) (h2 : m.Pairwise fun a b => leP a b = true) (n1 : l.Nodup) (n2 : m.Nodup) (e : ∀ p, p ∈ l ↔ p ∈ m) : l = m :=
  List.Perm.eq_of_pairwise (le := fun a b => leP a b = true) (fun a b _ _ h1 h2 => leP_anti h1 h2) h1 h2 ((List.perm_ext_iff_of_nodup n1 n2).mpr e)
theorem nd_of_keys {l : List PS} (h : (l.map (·.1)).Nodup) : l.Nodup := List.Pairwise.of_map (fun p : PS => p.1) (fun _ _ hne e => hne (congrArg _ e)) h
theorem srt_nil : Srt ⟨[], []⟩ := ⟨.nil, List.nodup_nil, .nil, List.nodup_nil, nofun⟩
theorem addP_nd {acc : List PS} {p : PS} (h : acc.Nodup) : (addP acc p).Nodup := by
  unfold addP
  split
  · exact h
  · rename_i n
    exact List.nodup_append.mpr ⟨h, by simp, fun a ha b hb => by rw [List.mem_singleton.mp hb]; exact fun z => n ((inP_mem p acc).mpr (z ▸ ha))⟩
theorem foldP_nd : ∀ (l acc : List PS), acc.Nodup → (l.foldl addP acc).Nodup
  | [], _, h => h
  | p :: l, acc, h => foldP_nd l _ (addP_nd h)
theorem ledL_nd (u : List PS) (h o : Str) : (ledL u h o).Nodup := foldP_nd _ _ List.nodup_nil
theorem made_srt {Z : Tms} {k : Kn} (W : WF Z k) (S : Srt k) {h o : Str} (fo : ∀ q ∈ k.l, q.1 ≠ o) (hle : leS h o = true) : Srt (madeK k h o) := by
  refine ⟨srt_pw _, ?_, srt_pw _, srt_nd (ledL_nd _ _ _), fun p hp => ?_⟩
  · unfold madeK
    refine ((List.mergeSort_perm _ leP).map (·.1)).nodup_iff.mpr ?_
    rw [List.map_append, List.map_map]
    refine List.nodup_append.mpr ⟨S.nl, by simp, fun a ha b hb => ?_⟩
    obtain ⟨q, hq, rfl⟩ := List.mem_map.mp ha
    have hb : b = o := by simpa using hb
    rw [hb]; exact fo q hq
  · unfold madeK at hp
    rcases List.mem_append.mp ((mem_sort).mp hp) with z | z
    · obtain ⟨q, hq, rfl⟩ := List.mem_map.mp z
      show leS (ren h o q.2) q.1 = true
      by_cases e : q.2 = o
      · rw [e, ren_self]
        have := S.lh q hq
        rw [e] at this
        exact leS_trans hle this
      · rw [ren_other e]; exact S.lh q hq
    · rw [List.mem_singleton.mp z]; exact hle
theorem told_srt {Z : Tms} {k : Kn} {b : Bool} {x y : Str} (W : WF Z k) (S : Srt k) {k' : Kn} (h : toldK k b x y = some k') : Srt k' := by
  unfold toldK at h
  split at h
  · cases h; exact S
  · rename_i ht
    unfold isToldK at ht
    have hf := hp_free W x y
    have hle := hp_le k x y
    generalize headsK k x y = p at *
    cases b with
    | true =>
      simp only [if_true] at h ht
      split at h
      · cases h
      · cases h
        exact made_srt W S (fun q hq => (hf q hq).2) hle
    | false =>
      simp only [Bool.false_eq_true, if_false] at h ht
      split at h
      · cases h
      · rename_i hn
        cases h
        refine ⟨S.sl, S.nl, srt_pw _, srt_nd (List.nodup_append.mpr ⟨S.nu, by simp, fun a ha b hb => ?_⟩), S.lh⟩
        rw [List.mem_singleton.mp hb]
        rintro rfl
        have : inP a k.u = true := (inP_mem a k.u).mpr ha
        simp [this, hn] at ht
/-- worlds: each value is itself -/
abbrev Wld (Z : Tms) (f : Str → Str) : Prop := ∀ t ∈ Z.vs, f t = t
/-- what is told is what holds in each world that it allows -/
theorem told_iff {Z : Tms} {k : Kn} {b : Bool} {x y : Str} (O : TmOk Z) (W : WF Z k) (hx : Z.T x) (hy : Z.T y) : isToldK k b x y = true ↔ ∀ f, Wld Z f → sat f k → satF f b x y := by
  constructor
  · exact fun h f hv S => told_sound hv O W hx hy S h
  · intro h
    cases e : isToldK k b x y with
    | true => rfl
    | false =>
      obtain ⟨r, _, r2, r3, r4⟩ := told_complete (g := id) O W (fun _ _ _ _ e => e) hx hy e
      exact absurd (h _ (fun t ht => r2 t ht) r3) r4
/-- some world is allowed -/
theorem world_of {Z : Tms} {k : Kn} (O : TmOk Z) (W : WF Z k) : Wld Z (headK k) ∧ sat (headK k) k := ⟨fun v hv => headK_val O W hv, full_sat (g := id) W fun _ _ _ _ e => e⟩
theorem head_le {k : Kn} (S : Srt k) (t : Str) : leS (headK k t) t = true := by
  rcases headK_cases k t with h | ⟨e, _⟩
  · exact S.lh _ h
  · rw [e]; exact leS_refl t
theorem told_same {k : Kn} {x y : Str} : isToldK k true x y = true ↔ headK k x = headK k y := by
  unfold isToldK headsK
  simp only [if_true, seq_iff]
  rcases sort2_or (headK k x) (headK k y) with e | e <;> rw [e]
  exact eq_comm
theorem head_head {Z : Tms} {k : Kn} (W : WF Z k) (t : Str) : headK k (headK k t) = headK k t := headK_head (head_free W t)
theorem mem_lead {Z : Tms} {k : Kn} (W : WF Z k) (S : Srt k) (O : TmOk Z) (p : PS) : p ∈ k.l ↔ headK k p.1 = p.2 ∧ p.1 ≠ p.2 := by
  constructor
  · exact fun h => ⟨headK_led W h, W.flat p h p h⟩
  · rintro ⟨h1, h2⟩
    rcases headK_cases k p.1 with h | ⟨e, _⟩
    · rw [h1] at h; exact h
    · exact absurd (e.symm.trans h1) h2
theorem mem_apart {Z : Tms} {k : Kn} (W : WF Z k) (p : PS) : p ∈ k.u ↔ headK k p.1 = p.1 ∧ headK k p.2 = p.2 ∧ leS p.1 p.2 = true ∧ p.1 ≠ p.2 ∧ twoV p = false ∧ isToldK k false p.1 p.2 = true := by
  have key : headK k p.1 = p.1 → headK k p.2 = p.2 → leS p.1 p.2 = true → p.1 ≠ p.2 → (isToldK k false p.1 p.2 = true ↔ twoV p = true ∨ p ∈ k.u) := fun h1 h2 h3 h4 => by
    unfold isToldK headsK
    rw [h1, h2, sort2_of h3]
    have : seq p.1 p.2 = false := Bool.eq_false_iff.mpr fun z => h4 (seq_iff.mp z)
    simp only [Bool.false_eq_true, if_false, this, Bool.not_false, Bool.true_and, Bool.or_eq_true, inP_mem]
  constructor
  · intro h
    have h1 := headK_head fun q hq => (W.uh p h q hq).1
    have h2 := headK_head fun q hq => (W.uh p h q hq).2
    obtain ⟨a, b, c⟩ := W.ul p h
    exact ⟨h1, h2, a, b, c, (key h1 h2 a b).mpr (.inr h)⟩
  · rintro ⟨h1, h2, a, b, c, d⟩
    rcases (key h1 h2 a b).mp d with z | z
    · rw [c] at z; cases z
    · exact z
/-- what allows the same worlds is the same -/
theorem kn_ext {Z : Tms} {k k' : Kn} (O : TmOk Z) (W : WF Z k) (S : Srt k) (W' : WF Z k') (S' : Srt k') (h : ∀ f, Wld Z f → (sat f k ↔ sat f k')) : k = k' := by
  have it : ∀ b x y, Z.T x → Z.T y → isToldK k b x y = isToldK k' b x y := fun b x y hx hy => by
    have : isToldK k b x y = true ↔ isToldK k' b x y = true := by
      rw [told_iff O W hx hy, told_iff O W' hx hy]
      exact ⟨fun q f hv s => q f hv ((h f hv).mpr s), fun q f hv s => q f hv ((h f hv).mp s)⟩
    cases e : isToldK k b x y <;> cases e2 : isToldK k' b x y <;> simp_all
  have hd : ∀ t, Z.T t → headK k t = headK k' t := fun t ht => by
    have a : headK k' (headK k t) = headK k' t := by
      have := (told_same (k := k') (x := headK k t) (y := t)).mp (by rw [← it true _ _ (head_T W ht) ht]; exact told_same.mpr (head_head W t))
      exact this
    have b : headK k (headK k' t) = headK k t := by
      have := (told_same (k := k) (x := headK k' t) (y := t)).mp (by rw [it true _ _ (head_T W' ht) ht]; exact told_same.mpr (head_head W' t))
      exact this
    refine leS_antisymm ?_ ?_
    · rw [← b]; exact head_le S _
    · rw [← a]; exact head_le S' _
  have el : k.l = k'.l := srt_eq S.sl S'.sl (nd_of_keys S.nl) (nd_of_keys S'.nl) fun p => by
    constructor
    · intro hp
      have := (mem_lead W S O p).mp hp
      rw [hd _ (W.tl p hp).1] at this
      exact (mem_lead W' S' O p).mpr this
    · intro hp
      have := (mem_lead W' S' O p).mp hp
      rw [← hd _ (W'.tl p hp).1] at this
      exact (mem_lead W S O p).mpr this
  have eu : k.u = k'.u := srt_eq S.su S'.su S.nu S'.nu fun p => by
    constructor
    · intro hp
      obtain ⟨a, b, c, d, e, g⟩ := (mem_apart W p).mp hp
      have hT := W.tu p hp
      exact (mem_apart W' p).mpr ⟨by rw [← hd _ hT.1]; exact a, by rw [← hd _ hT.2]; exact b, c, d, e, by rw [← it _ _ _ hT.1 hT.2]; exact g⟩
    · intro hp
      obtain ⟨a, b, c, d, e, g⟩ := (mem_apart W' p).mp hp
      have hT := W'.tu p hp
      exact (mem_apart W p).mpr ⟨by rw [hd _ hT.1]; exact a, by rw [hd _ hT.2]; exact b, c, d, e, by rw [it _ _ _ hT.1 hT.2]; exact g⟩
  cases k; cases k'
  simp only at el eu
  rw [el, eu]
/-! ### facts told one by one -/
structure Fc where
  b : Bool
  x : Str
  y : Str
def fcD (f : Fc) : D := factD3 f.b f.x f.y
def toldO (k : Option Kn) (f : Fc) : Option Kn := k.bind fun k => toldK k f.b f.x f.y
def runO (k : Option Kn) (fs : List Fc) : Option Kn := fs.foldl toldO k
abbrev runK (fs : List Fc) : Option Kn := runO (some ⟨[], []⟩) fs
def satL (f : Str → Str) (fs : List Fc) : Prop := ∀ c ∈ fs, satF f c.b c.x c.y
abbrev FcT (Z : Tms) (fs : List Fc) : Prop := ∀ c ∈ fs, Z.T c.x ∧ Z.T c.y
theorem run_none : ∀ fs : List Fc, runO none fs = none
  | [] => rfl
  | f :: fs => run_none fs
/-- k stands for the facts -/
structure Stands (Z : Tms) (k : Option Kn) (fs : List Fc) : Prop where
  some : ∀ k', k = some k' → WF Z k' ∧ Srt k' ∧ ∀ f, Wld Z f → (sat f k' ↔ satL f fs)
  none : k = none → ∀ f, Wld Z f → ¬ satL f fs
theorem stands_nil (Z : Tms) : Stands Z (some ⟨[], []⟩) [] :=
  ⟨fun k' e => by cases e; exact ⟨wf_nil Z, srt_nil, fun f _ => ⟨fun _ => nofun, fun _ => ⟨nofun, nofun⟩⟩⟩, nofun⟩
theorem satL_snoc {f : Str → Str} {fs : List Fc} {c : Fc} : satL f (fs ++ [c]) ↔ satL f fs ∧ satF f c.b c.x c.y := by
  unfold satL
  simp only [List.mem_append, List.mem_singleton]
  exact ⟨fun h => ⟨fun d hd => h d (.inl hd), h c (.inr rfl)⟩, fun h d hd => hd.elim (h.1 d) fun e => e ▸ h.2⟩
theorem stands_told {Z : Tms} {k : Option Kn} {fs : List Fc} (O : TmOk Z) (I : Stands Z k fs) {c : Fc} (hx : Z.T c.x) (hy : Z.T c.y) : Stands Z (toldO k c) (fs ++ [c]) := by
  cases k with
  | none => exact ⟨nofun, fun _ f hv z => I.none rfl f hv (satL_snoc.mp z).1⟩
  | some k =>
    obtain ⟨W, S, q⟩ := I.some k rfl
    refine ⟨fun k' e => ?_, fun e f hv z => ?_⟩
    · have e : toldK k c.b c.x c.y = some k' := e
      refine ⟨told_wf O W hx hy e, told_srt W S e, fun f hv => ?_⟩
      rw [told_some hv O W hx hy e, satL_snoc, q f hv]
    · have e : toldK k c.b c.x c.y = none := e
      obtain ⟨z1, z2⟩ := satL_snoc.mp z
      exact told_none hv O W hx hy ((q f hv).mpr z1) e z2
theorem stands_run {Z : Tms} (O : TmOk Z) : ∀ (fs gs : List Fc) (k : Option Kn), Stands Z k gs → FcT Z fs → Stands Z (runO k fs) (gs ++ fs)
  | [], gs, k, I, _ => by rw [List.append_nil]; exact I
  | c :: fs, gs, k, I, h => by
    have := stands_run O fs (gs ++ [c]) (toldO k c) (stands_told O I (h c (.head _)).1 (h c (.head _)).2) fun d hd => h d (.tail _ hd)
    rw [List.append_assoc] at this
    exact this
theorem stands_runK {Z : Tms} (O : TmOk Z) {fs : List Fc} (h : FcT Z fs) : Stands Z (runK fs) fs := by
  have := stands_run O fs [] _ (stands_nil Z) h
  rwa [List.nil_append] at this
/-- two that stand for facts that allow the same worlds are the same -/
theorem stands_eq {Z : Tms} {k k' : Option Kn} {fs gs : List Fc} (O : TmOk Z) (I : Stands Z k fs) (J : Stands Z k' gs) (h : ∀ f, Wld Z f → (satL f fs ↔ satL f gs)) : k = k' := by
  cases k with
  | none =>
    cases k' with
    | none => rfl
    | some k' =>
      obtain ⟨W, S, q⟩ := J.some k' rfl
      obtain ⟨w1, w2⟩ := world_of O W
      exact absurd ((h _ w1).mpr ((q _ w1).mp w2)) (I.none rfl _ w1)
  | some k =>
    obtain ⟨W, S, q⟩ := I.some k rfl
    cases k' with
    | none =>
      obtain ⟨w1, w2⟩ := world_of O W
      exact absurd ((h _ w1).mp ((q _ w1).mp w2)) (J.none rfl _ w1)
    | some k' =>
      obtain ⟨W', S', q'⟩ := J.some k' rfl
      rw [kn_ext O W S W' S' fun f hv => by rw [q f hv, q' f hv]; exact h f hv]
end Wk

/-! Rt7: lots of facts, what is due by them: plain. -/
namespace Wk
open PySem PySem.Spec PyProof.Rows L2
set_option maxHeartbeats 1000000
abbrev Lots := List (List Str)
def addT (L : Lots) (t : Str) : Lots := if L.filter (fun l => decide (t ∈ l)) = [] then L ++ [[t]] else L
def withL (x y : Str) (l : List Str) : Bool := decide (x ∈ l) || decide (y ∈ l)
def joinL (L : Lots) (x y : Str) : Lots := (L.filter fun l => !decide (l ∈ L.filter (withL x y))) ++ [(L.filter (withL x y)).flatten]
def stepL (L : Lots) (c : Fc) : Lots := if c.b then joinL (addT (addT L c.x) c.y) c.x c.y else addT (addT L c.x) c.y
def lotsL (fs : List Fc) : Lots := fs.foldl stepL []
/-- the lots are apart, none is empty -/
structure LI (L : Lots) : Prop where
  nd : L.flatten.Nodup
  ne : ∀ l ∈ L, l ≠ []
def Tog (L : Lots) (s t : Str) : Prop := ∃ l ∈ L, s ∈ l ∧ t ∈ l
theorem li_nil : LI [] := ⟨List.nodup_nil, nofun⟩
theorem addT_cases (L : Lots) (t : Str) : (addT L t = L ++ [[t]] ∧ t ∉ L.flatten) ∨ (addT L t = L ∧ t ∈ L.flatten) := by
  unfold addT
  split
  · rename_i h
    refine .inl ⟨rfl, fun z => ?_⟩
    obtain ⟨l, hl, ht⟩ := List.mem_flatten.mp z
    have : l ∈ L.filter fun l => decide (t ∈ l) := List.mem_filter.mpr ⟨hl, decide_eq_true ht⟩
    rw [h] at this; cases this
  · rename_i h
    refine .inr ⟨rfl, ?_⟩
    obtain ⟨l, hl⟩ := List.exists_mem_of_ne_nil _ h
    obtain ⟨h1, h2⟩ := List.mem_filter.mp hl
    exact List.mem_flatten.mpr ⟨l, h1, of_decide_eq_true h2⟩
theorem addT_in (L : Lots) (t : Str) : t ∈ (addT L t).flatten := by
  rcases addT_cases L t with ⟨e, _⟩ | ⟨e, h⟩
  · rw [e]; simp
  · rw [e]; exact h
theorem addT_tog {L : Lots} {t a b : Str} (h : Tog L a b) : Tog (addT L t) a b := by
  obtain ⟨l, h1, h2⟩ := h
  rcases addT_cases L t with ⟨e, _⟩ | ⟨e, _⟩ <;> rw [e]
  · exact ⟨l, List.mem_append_left _ h1, h2⟩
  · exact ⟨l, h1, h2⟩
theorem addT_li {L : Lots} {t : Str} (I : LI L) : LI (addT L t) := by
  rcases addT_cases L t with ⟨e, h⟩ | ⟨e, _⟩ <;> rw [e]
  · refine ⟨?_, fun l hl => ?_⟩
    · rw [List.flatten_append]
      refine List.nodup_append.mpr ⟨I.nd, by simp, fun a ha b hb => ?_⟩
      have hb : b = t := by simpa using hb
      rw [hb]; rintro rfl; exact h ha
    · rcases List.mem_append.mp hl with z | z
      · exact I.ne l z
      · rw [List.mem_singleton.mp z]; simp
  · exact I
theorem mem_addT {L : Lots} {t : Str} {l : List Str} (h : l ∈ addT L t) : l ∈ L ∨ l = [t] := by
  rcases addT_cases L t with ⟨e, _⟩ | ⟨e, _⟩ <;> rw [e] at h
  · exact (List.mem_append.mp h).imp id List.mem_singleton.mp
  · exact .inl h
theorem join_eq (L : Lots) (x y : Str) : joinL L x y = (L.filter fun l => !withL x y l) ++ [(L.filter (withL x y)).flatten] := by
  unfold joinL
  congr 1
  refine List.filter_congr fun l hl => ?_
  congr 1
  cases e : withL x y l with
  | true => exact decide_eq_true (List.mem_filter.mpr ⟨hl, e⟩)
  | false => exact decide_eq_false fun z => by rw [(List.mem_filter.mp z).2] at e; cases e
theorem flat_split (p : List Str → Bool) : ∀ L : Lots, L.flatten.Perm ((L.filter fun l => !p l).flatten ++ (L.filter p).flatten)
  | [] => .refl _
  | l :: L => by
    have ih := flat_split p L
    cases e : p l with
    | true =>
      have e1 : (l :: L).filter (fun l => !p l) = L.filter fun l => !p l := by simp [List.filter_cons, e]
      have e2 : (l :: L).filter p = l :: L.filter p := by simp [List.filter_cons, e]
      rw [e1, e2, List.flatten_cons, List.flatten_cons]
      refine (ih.append_left l).trans ?_
      rw [← List.append_assoc, ← List.append_assoc]
      exact List.perm_append_comm.append_right _
    | false =>
      have e1 : (l :: L).filter (fun l => !p l) = l :: L.filter fun l => !p l := by simp [List.filter_cons, e]
      have e2 : (l :: L).filter p = L.filter p := by simp [List.filter_cons, e]
      rw [e1, e2, List.flatten_cons, List.flatten_cons, List.append_assoc]
      exact ih.append_left l
theorem join_perm (L : Lots) (x y : Str) : (joinL L x y).flatten.Perm L.flatten := by
  rw [join_eq, List.flatten_append]
  simp only [List.flatten_cons, List.flatten_nil, List.append_nil]
  exact (flat_split (withL x y) L).symm
theorem join_li {L : Lots} {x y : Str} (I : LI L) (hx : x ∈ L.flatten) : LI (joinL L x y) := by
  refine ⟨(join_perm L x y).nodup_iff.mpr I.nd, fun l hl => ?_⟩
  rw [join_eq] at hl
  rcases List.mem_append.mp hl with z | z
  · exact I.ne l (List.mem_filter.mp z).1
  · rw [List.mem_singleton.mp z]
    obtain ⟨m, hm, hx⟩ := List.mem_flatten.mp hx
    exact List.ne_nil_of_mem (List.mem_flatten.mpr ⟨m, List.mem_filter.mpr ⟨hm, by simp [withL, hx]⟩, hx⟩)
theorem join_tog {L : Lots} {x y a b : Str} (h : Tog L a b) : Tog (joinL L x y) a b := by
  obtain ⟨l, h1, h2, h3⟩ := h
  rw [join_eq]
  cases e : withL x y l with
  | true => exact ⟨_, List.mem_append_right _ (.head _), List.mem_flatten.mpr ⟨l, List.mem_filter.mpr ⟨h1, e⟩, h2⟩, List.mem_flatten.mpr ⟨l, List.mem_filter.mpr ⟨h1, e⟩, h3⟩⟩
  | false => exact ⟨l, List.mem_append_left _ (List.mem_filter.mpr ⟨h1, by simp [e]⟩), h2, h3⟩
theorem join_both {L : Lots} {x y : Str} (hx : x ∈ L.flatten) (hy : y ∈ L.flatten) : Tog (joinL L x y) x y := by
  rw [join_eq]
  obtain ⟨l, h1, h2⟩ := List.mem_flatten.mp hx
  obtain ⟨m, h3, h4⟩ := List.mem_flatten.mp hy
  exact ⟨_, List.mem_append_right _ (.head _), List.mem_flatten.mpr ⟨l, List.mem_filter.mpr ⟨h1, by simp [withL, h2]⟩, h2⟩, List.mem_flatten.mpr ⟨m, List.mem_filter.mpr ⟨h3, by simp [withL, h4]⟩, h4⟩⟩
theorem tog_self {L : Lots} {t : Str} : Tog L t t ↔ t ∈ L.flatten := by
  rw [List.mem_flatten]
  exact ⟨fun ⟨l, h1, h2, _⟩ => ⟨l, h1, h2⟩, fun ⟨l, h1, h2⟩ => ⟨l, h1, h2, h2⟩⟩
theorem step_tog {L : Lots} {c : Fc} {a b : Str} (h : Tog L a b) : Tog (stepL L c) a b := by
  unfold stepL
  split
  · exact join_tog (addT_tog (addT_tog h))
  · exact addT_tog (addT_tog h)
theorem added_in (L : Lots) (x y : Str) : x ∈ (addT (addT L x) y).flatten ∧ y ∈ (addT (addT L x) y).flatten :=
  ⟨tog_self.mp (addT_tog (tog_self.mpr (addT_in L x))), addT_in _ y⟩
theorem step_in (L : Lots) (c : Fc) : c.x ∈ (stepL L c).flatten ∧ c.y ∈ (stepL L c).flatten := by
  obtain ⟨h1, h2⟩ := added_in L c.x c.y
  unfold stepL
  split
  · exact ⟨(join_perm _ _ _).mem_iff.mpr h1, (join_perm _ _ _).mem_iff.mpr h2⟩
  · exact ⟨h1, h2⟩
theorem step_both {L : Lots} {c : Fc} (h : c.b = true) : Tog (stepL L c) c.x c.y := by
  obtain ⟨h1, h2⟩ := added_in L c.x c.y
  unfold stepL
  rw [if_pos h]
  exact join_both h1 h2
theorem step_li {L : Lots} {c : Fc} (I : LI L) : LI (stepL L c) := by
  unfold stepL
  split
  · exact join_li (addT_li (addT_li I)) (added_in L c.x c.y).1
  · exact addT_li (addT_li I)
/-- all of a lot are the same, told so -/
def SndL (f : Str → Str) (L : Lots) : Prop := ∀ l ∈ L, ∀ s ∈ l, ∀ t ∈ l, f s = f t
theorem addT_snd {f : Str → Str} {L : Lots} {t : Str} (h : SndL f L) : SndL f (addT L t) := fun l hl => by
  rcases mem_addT hl with z | rfl
  · exact h l z
  · intro s hs u hu
    rw [List.mem_singleton.mp hs, List.mem_singleton.mp hu]
theorem join_snd {f : Str → Str} {L : Lots} {x y : Str} (h : SndL f L) (e : f x = f y) : SndL f (joinL L x y) := fun l hl => by
  rw [join_eq] at hl
  rcases List.mem_append.mp hl with z | z
  · exact h l (List.mem_filter.mp z).1
  · rw [List.mem_singleton.mp z]
    have key : ∀ s ∈ (L.filter (withL x y)).flatten, f s = f x := fun s hs => by
      obtain ⟨m, hm, hs⟩ := List.mem_flatten.mp hs
      obtain ⟨hm, hw⟩ := List.mem_filter.mp hm
      unfold withL at hw
      simp only [Bool.or_eq_true, decide_eq_true_eq] at hw
      rcases hw with hw | hw
      · exact h m hm s hs x hw
      · rw [e]; exact h m hm s hs y hw
    exact fun s hs t ht => (key s hs).trans (key t ht).symm
theorem step_snd {f : Str → Str} {L : Lots} {c : Fc} (h : SndL f L) (e : c.b = true → f c.x = f c.y) : SndL f (stepL L c) := by
  unfold stepL
  split
  · rename_i hb; exact join_snd (addT_snd (addT_snd h)) (e hb)
  · exact addT_snd (addT_snd h)
structure LotsOk (fs : List Fc) (L : Lots) : Prop where
  li : LI L
  ins : ∀ c ∈ fs, c.x ∈ L.flatten ∧ c.y ∈ L.flatten
  tog : ∀ c ∈ fs, c.b = true → Tog L c.x c.y
  snd : ∀ f, (∀ c ∈ fs, c.b = true → f c.x = f c.y) → SndL f L
  src : ∀ t ∈ L.flatten, ∃ c ∈ fs, t = c.x ∨ t = c.y
theorem step_src {L : Lots} {c : Fc} {t : Str} (h : t ∈ (stepL L c).flatten) : t ∈ L.flatten ∨ t = c.x ∨ t = c.y := by
  have key : ∀ {L : Lots} {s t : Str}, t ∈ (addT L s).flatten → t ∈ L.flatten ∨ t = s := fun {L s t} h => by
    rcases addT_cases L s with ⟨e, _⟩ | ⟨e, _⟩ <;> rw [e] at h
    · rw [List.flatten_append] at h
      exact (List.mem_append.mp h).imp id fun z => by simpa using z
    · exact .inl h
  have h2 : t ∈ (addT (addT L c.x) c.y).flatten := by
    unfold stepL at h
    split at h
    · exact (join_perm _ _ _).mem_iff.mp h
    · exact h
  rcases key h2 with z | z
  · rcases key z with w | w
    · exact .inl w
    · exact .inr (.inl w)
  · exact .inr (.inr z)
theorem fold_ok : ∀ (fs gs : List Fc) (L : Lots), LotsOk gs L → LotsOk (gs ++ fs) (fs.foldl stepL L)
  | [], gs, L, h => by rw [List.append_nil]; exact h
  | c :: fs, gs, L, h => by
    have h1 : LotsOk (gs ++ [c]) (stepL L c) := by
      refine ⟨step_li h.li, fun d hd => ?_, fun d hd hb => ?_, fun f hf => ?_, fun t ht => ?_⟩
      · rcases List.mem_append.mp hd with z | z
        · obtain ⟨a, b⟩ := h.ins d z
          exact ⟨tog_self.mp (step_tog (tog_self.mpr a)), tog_self.mp (step_tog (tog_self.mpr b))⟩
        · rw [List.mem_singleton.mp z]; exact step_in L c
      · rcases List.mem_append.mp hd with z | z
        · exact step_tog (h.tog d z hb)
        · rw [List.mem_singleton.mp z] at hb ⊢; exact step_both hb
      · exact step_snd (h.snd f fun d hd => hf d (List.mem_append_left _ hd)) (hf c (List.mem_append_right _ (.head _)))
      · rcases step_src ht with z | z
        · obtain ⟨d, hd, e⟩ := h.src t z
          exact ⟨d, List.mem_append_left _ hd, e⟩
        · exact ⟨c, List.mem_append_right _ (.head _), z⟩
    have := fold_ok fs (gs ++ [c]) _ h1
    rw [List.append_assoc] at this
    exact this
theorem lots_ok (fs : List Fc) : LotsOk fs (lotsL fs) := fold_ok fs [] [] ⟨li_nil, nofun, nofun, fun _ _ => nofun, fun t h => by cases h⟩
/-! ### heads -/
def mnL : List Str → Str
  | x :: xs => minT x xs
  | [] => ""
def hdT (L : Lots) (t : Str) : Str := match L.find? fun l => decide (t ∈ l) with
  | some l => mnL l
  | none => t
theorem mnL_mem {l : List Str} (h : l ≠ []) : mnL l ∈ l := by
  cases l with
  | nil => exact absurd rfl h
  | cons x xs => exact minT_mem x xs
theorem mnL_le {l : List Str} {t : Str} (h : t ∈ l) : leS (mnL l) t = true := by
  cases l with
  | nil => cases h
  | cons x xs => exact minT_le x xs t h
theorem lot_one_of : ∀ (L : Lots), L.flatten.Nodup → ∀ {l m : List Str} {t : Str}, l ∈ L → m ∈ L → t ∈ l → t ∈ m → l = m
  | [], _, _, _, _, hl, _, _, _ => by cases hl
  | k :: L, nd, l, m, t, hl, hm, h1, h2 => by
    rw [List.flatten_cons] at nd
    obtain ⟨_, n2, dj⟩ := List.nodup_append.mp nd
    rcases List.mem_cons.mp hl with e1 | g1 <;> rcases List.mem_cons.mp hm with e2 | g2
    · rw [e1, e2]
    · exact absurd rfl (dj t (e1 ▸ h1) t (List.mem_flatten.mpr ⟨m, g2, h2⟩))
    · exact absurd rfl (dj t (e2 ▸ h2) t (List.mem_flatten.mpr ⟨l, g1, h1⟩))
    · exact lot_one_of L n2 g1 g2 h1 h2
theorem lot_one {L : Lots} (I : LI L) {l m : List Str} (hl : l ∈ L) (hm : m ∈ L) {t : Str} (h1 : t ∈ l) (h2 : t ∈ m) : l = m := lot_one_of L I.nd hl hm h1 h2
theorem hdT_lot {L : Lots} (I : LI L) {l : List Str} (hl : l ∈ L) {t : Str} (ht : t ∈ l) : hdT L t = mnL l := by
  unfold hdT
  cases e : L.find? fun l => decide (t ∈ l) with
  | none => exact absurd (decide_eq_true ht) (by simpa using List.find?_eq_none.mp e l hl)
  | some m =>
    have h1 := List.mem_of_find?_eq_some e
    have h2 := List.find?_some e
    rw [lot_one I h1 hl (of_decide_eq_true h2) ht]
theorem hdT_tog {L : Lots} (I : LI L) {a b : Str} (h : Tog L a b) : hdT L a = hdT L b := by
  obtain ⟨l, h1, h2, h3⟩ := h
  rw [hdT_lot I h1 h2, hdT_lot I h1 h3]
theorem tog_hd {L : Lots} (I : LI L) {t : Str} (h : t ∈ L.flatten) : Tog L t (hdT L t) := by
  obtain ⟨l, h1, h2⟩ := List.mem_flatten.mp h
  exact ⟨l, h1, h2, by rw [hdT_lot I h1 h2]; exact mnL_mem (I.ne l h1)⟩
theorem hd_le {L : Lots} (I : LI L) (t : Str) : leS (hdT L t) t = true := by
  by_cases h : t ∈ L.flatten
  · obtain ⟨l, h1, h2⟩ := List.mem_flatten.mp h
    rw [hdT_lot I h1 h2]; exact mnL_le h2
  · have : hdT L t = t := by
      unfold hdT
      have : L.find? (fun l => decide (t ∈ l)) = none := List.find?_eq_none.mpr fun l hl => by
        simp only [decide_eq_true_eq]
        exact fun z => h (List.mem_flatten.mpr ⟨l, hl, z⟩)
      rw [this]
    rw [this]; exact leS_refl t
theorem hd_hd {L : Lots} (I : LI L) (t : Str) : hdT L (hdT L t) = hdT L t := by
  by_cases h : t ∈ L.flatten
  · exact (hdT_tog I (tog_hd I h)).symm
  · have : hdT L t = t := by
      unfold hdT
      have : L.find? (fun l => decide (t ∈ l)) = none := List.find?_eq_none.mpr fun l hl => by
        simp only [decide_eq_true_eq]
        exact fun z => h (List.mem_flatten.mpr ⟨l, hl, z⟩)
      rw [this]
    rw [this, this]
theorem hd_of_tog {L : Lots} (I : LI L) {a b : Str} (ha : a ∈ L.flatten) (hb : b ∈ L.flatten) (h : hdT L a = hdT L b) : Tog L a b := by
  obtain ⟨l, h1, h2, h3⟩ := tog_hd I ha
  obtain ⟨m, h4, h5, h6⟩ := tog_hd I hb
  rw [h] at h3
  have := lot_one I h1 h4 h3 h6
  subst this
  exact ⟨l, h1, h2, h5⟩
end Wk

/-! Rd7: what is due by lots stands for the facts. -/
namespace Wk
open PySem PySem.Spec PyProof.Rows L2
set_option maxHeartbeats 1000000
def firstD (t : Str) : Bool := strIn ⟨#[t.cps.toList.headD 0]⟩ DIG
def crowded (L : Lots) : Bool := L.any fun l => decide (1 < (l.filter firstD).length)
def leadsL (L : Lots) : List PS := (L.flatten.map fun t => (t, hdT L t)).filter fun p => !seq p.2 p.1
def pairsF (L : Lots) (fs : List Fc) : List PS := (fs.filter fun c => !c.b).map fun c => sort2 (hdT L c.x) (hdT L c.y)
def dueKn (L : Lots) (fs : List Fc) : Kn := ⟨(leadsL L).mergeSort leP, (ded ((pairsF L fs).filter fun p => !firstD p.2)).mergeSort leP⟩
def dueK (fs : List Fc) : Option Kn := if crowded (lotsL fs) then none else if (pairsF (lotsL fs) fs).any (fun p => seq p.1 p.2) then none else some (dueKn (lotsL fs) fs)
theorem first_hi {t : Str} (h : hi t) : firstD t = false := by
  obtain ⟨c, r, e, hc⟩ := h
  unfold firstD
  rw [e, strIn_one]
  refine decide_eq_false fun z => ?_
  have : ∀ x ∈ DIG.cps.toList, x ≤ 57 := by decide +kernel
  have := this c z
  omega
theorem first_val {t : Str} {n : Int} (h : figs t n = true) : firstD t = true := by
  unfold firstD
  rw [strIn_one]
  unfold figs at h
  simp only [Bool.and_eq_true] at h
  obtain ⟨⟨⟨h1, _⟩, h2⟩, _⟩ := h
  cases e : t.cps.toList with
  | nil => rw [(empty_iff t).mpr e] at h1; simp at h1
  | cons c r =>
    have := List.all_eq_true.mp h2 c (by rw [e]; exact .head _)
    exact decide_eq_true (of_decide_eq_true this)
section
variable {Z : Tms} {fs : List Fc} {L : Lots}
theorem first_T (O : TmOk Z) {t : Str} (h : Z.T t) : firstD t = figs t 6 := by
  rcases h with h | h
  · rw [first_hi (O.ns t h), hi_not (O.ns t h)]
  · rw [first_val (O.vs t h), O.vs t h]
theorem src_T (K : LotsOk fs L) (F : FcT Z fs) {t : Str} (h : t ∈ L.flatten) : Z.T t := by
  obtain ⟨c, hc, e⟩ := K.src t h
  rcases e with rfl | rfl
  · exact (F c hc).1
  · exact (F c hc).2
theorem hdT_out {t : Str} (h : t ∉ L.flatten) : hdT L t = t := by
  unfold hdT
  have : L.find? (fun l => decide (t ∈ l)) = none := List.find?_eq_none.mpr fun l hl => by
    simp only [decide_eq_true_eq]
    exact fun z => h (List.mem_flatten.mpr ⟨l, hl, z⟩)
  rw [this]
theorem hd_in (I : LI L) {t : Str} (h : t ∈ L.flatten) : hdT L t ∈ L.flatten := by
  obtain ⟨l, h1, _, h3⟩ := tog_hd I h
  exact List.mem_flatten.mpr ⟨l, h1, h3⟩
theorem hd_T (K : LotsOk fs L) (F : FcT Z fs) {t : Str} (h : Z.T t) : Z.T (hdT L t) := by
  by_cases z : t ∈ L.flatten
  · exact src_T K F (hd_in K.li z)
  · rw [hdT_out z]; exact h
theorem lot_nd (I : LI L) {l : List Str} (hl : l ∈ L) : l.Nodup := (List.sublist_flatten_of_mem hl).nodup I.nd
theorem one_value (c : crowded L = false) {l : List Str} (hl : l ∈ L) {s t : Str} (hs : s ∈ l) (ht : t ∈ l) (fs : firstD s = true) (ft : firstD t = true) : s = t := by
  unfold crowded at c
  have := List.any_eq_false.mp c l hl
  simp only [decide_eq_true_eq, Nat.not_lt] at this
  have a : s ∈ l.filter firstD := List.mem_filter.mpr ⟨hs, fs⟩
  have b : t ∈ l.filter firstD := List.mem_filter.mpr ⟨ht, ft⟩
  generalize l.filter firstD = m at *
  match m, this, a, b with
  | [x], _, a, b => rw [List.mem_singleton.mp a, List.mem_singleton.mp b]
  | [], _, a, _ => cases a
  | x :: y :: r, h, _, _ => simp at h
theorem hd_value (O : TmOk Z) (K : LotsOk fs L) (F : FcT Z fs) (c : crowded L = false) {v : Str} (hv : v ∈ Z.vs) : hdT L v = v := by
  by_cases z : v ∈ L.flatten
  · obtain ⟨l, h1, h2, h3⟩ := tog_hd K.li z
    have hT := hd_T (Z := Z) K F (.inr hv : Z.T v)
    have f2 := O.vs v hv
    rcases hT with n | n
    · exact (le_value (hd_le K.li v) f2 (O.ns _ n)).elim
    · exact one_value c h1 h3 h2 (first_val (O.vs _ n)) (first_val f2)
  · exact hdT_out z
theorem mem_leads {p : PS} : p ∈ leadsL L ↔ p.1 ∈ L.flatten ∧ p.2 = hdT L p.1 ∧ hdT L p.1 ≠ p.1 := by
  unfold leadsL
  rw [List.mem_filter, List.mem_map]
  constructor
  · rintro ⟨⟨t, ht, rfl⟩, h⟩
    refine ⟨ht, rfl, fun z => ?_⟩
    have z : hdT L t = t := z
    simp [z] at h
  · rintro ⟨h1, h2, h3⟩
    refine ⟨⟨p.1, h1, Prod.ext rfl h2.symm⟩, ?_⟩
    rw [h2]
    have : seq (hdT L p.1) p.1 = false := Bool.eq_false_iff.mpr fun z => h3 (seq_iff.mp z)
    rw [this]; rfl
theorem mem_pairs {p : PS} : p ∈ pairsF L fs ↔ ∃ c ∈ fs, c.b = false ∧ p = sort2 (hdT L c.x) (hdT L c.y) := by
  unfold pairsF
  rw [List.mem_map]
  constructor
  · rintro ⟨c, hc, rfl⟩
    obtain ⟨h1, h2⟩ := List.mem_filter.mp hc
    exact ⟨c, h1, by simpa using h2, rfl⟩
  · rintro ⟨c, h1, h2, rfl⟩
    exact ⟨c, List.mem_filter.mpr ⟨h1, by simp [h2]⟩, rfl⟩
theorem mem_dl {p : PS} : p ∈ (dueKn L fs).l ↔ p ∈ leadsL L := mem_sort
theorem mem_du {p : PS} : p ∈ (dueKn L fs).u ↔ p ∈ pairsF L fs ∧ firstD p.2 = false := by
  unfold dueKn
  simp only [mem_sort, ded_mem, List.mem_filter, Bool.not_eq_true']
theorem pair_T (O : TmOk Z) (K : LotsOk fs L) (F : FcT Z fs) {p : PS} (h : p ∈ pairsF L fs) : Z.T p.1 ∧ Z.T p.2 ∧ hdT L p.1 = p.1 ∧ hdT L p.2 = p.2 ∧ leS p.1 p.2 = true := by
  obtain ⟨c, hc, _, rfl⟩ := mem_pairs.mp h
  obtain ⟨hx, hy⟩ := F c hc
  have a := hd_T K F hx
  have b := hd_T K F hy
  have a2 := hd_hd K.li c.x
  have b2 := hd_hd K.li c.y
  refine ⟨(sort2_T a b).1, (sort2_T a b).2, ?_, ?_, sort2_le _ _⟩ <;> rcases sort2_or (hdT L c.x) (hdT L c.y) with e | e <;> rw [e] <;> assumption
theorem due_wf (O : TmOk Z) (K : LotsOk fs L) (F : FcT Z fs) (c : crowded L = false) (n : ∀ p ∈ pairsF L fs, p.1 ≠ p.2) : WF Z (dueKn L fs) := by
  refine ⟨fun p hp => ?_, fun p hp => ?_, fun p hp q hq => ?_, fun p hp q hq e => ?_, fun p hp => ?_, fun p hp q hq => ?_, fun p hp => ?_⟩
  · obtain ⟨h1, h2, _⟩ := mem_leads.mp (mem_dl.mp hp)
    exact ⟨src_T K F h1, by rw [h2]; exact hd_T K F (src_T K F h1)⟩
  · obtain ⟨a, b, _⟩ := pair_T O K F (mem_du.mp hp).1
    exact ⟨a, b⟩
  · obtain ⟨h1, h2, h3⟩ := mem_leads.mp (mem_dl.mp hp)
    obtain ⟨g1, g2, g3⟩ := mem_leads.mp (mem_dl.mp hq)
    intro e
    rw [e, h2, hd_hd K.li] at g3
    exact g3 rfl
  · obtain ⟨h1, h2, h3⟩ := mem_leads.mp (mem_dl.mp hp)
    obtain ⟨g1, g2, g3⟩ := mem_leads.mp (mem_dl.mp hq)
    rw [h2, g2, e]
  · obtain ⟨h1, h2, h3⟩ := mem_leads.mp (mem_dl.mp hp)
    cases e : figs p.1 6 with
    | false => rfl
    | true => exact absurd (hd_value O K F c (val_T O (src_T K F h1) e)) h3
  · obtain ⟨_, _, a, b, _⟩ := pair_T O K F (mem_du.mp hp).1
    obtain ⟨g1, g2, g3⟩ := mem_leads.mp (mem_dl.mp hq)
    exact ⟨fun e => g3 (by rw [e]; exact a), fun e => g3 (by rw [e]; exact b)⟩
  · obtain ⟨h1, h2⟩ := mem_du.mp hp
    obtain ⟨_, b, _, _, le⟩ := pair_T O K F h1
    refine ⟨le, n p h1, ?_⟩
    rw [first_T O b] at h2
    simp [twoV, h2]
theorem due_srt (I : LI L) : Srt (dueKn L fs) := by
  refine ⟨srt_pw _, ?_, srt_pw _, srt_nd (ded_nd _), fun p hp => ?_⟩
  · refine ((List.mergeSort_perm _ leP).map (·.1)).nodup_iff.mpr ?_
    have e : (leadsL L).map (·.1) = L.flatten.filter fun t => !seq (hdT L t) t := by
      unfold leadsL
      rw [List.filter_map, List.map_map]
      have : ((fun p : PS => p.1) ∘ fun t => (t, hdT L t)) = id := rfl
      rw [this, List.map_id]; rfl
    rw [e]
    exact List.filter_sublist.nodup I.nd
  · obtain ⟨h1, h2, _⟩ := mem_leads.mp (mem_dl.mp hp)
    rw [h2]; exact hd_le I p.1
theorem due_sat (O : TmOk Z) (K : LotsOk fs L) (F : FcT Z fs) (n : ∀ p ∈ pairsF L fs, p.1 ≠ p.2) {f : Str → Str} (hv : Wld Z f) : sat f (dueKn L fs) ↔ satL f fs := by
  constructor
  · rintro ⟨s1, s2⟩
    have hf : ∀ t ∈ L.flatten, f t = f (hdT L t) := fun t ht => by
      by_cases e : hdT L t = t
      · rw [e]
      · exact s1 (t, hdT L t) (mem_dl.mpr (mem_leads.mpr ⟨ht, rfl, e⟩))
    intro c hc
    obtain ⟨hx, hy⟩ := K.ins c hc
    unfold satF
    cases hb : c.b with
    | true =>
      simp only [if_true]
      rw [hf _ hx, hf _ hy, hdT_tog K.li (K.tog c hc hb)]
    | false =>
      simp only [Bool.false_eq_true, if_false]
      rw [hf _ hx, hf _ hy]
      have hp : sort2 (hdT L c.x) (hdT L c.y) ∈ pairsF L fs := mem_pairs.mpr ⟨c, hc, hb, rfl⟩
      refine (sort2_f f _ _).mp ?_
      obtain ⟨a, b, _, _, le⟩ := pair_T O K F hp
      have ne := n _ hp
      generalize sort2 (hdT L c.x) (hdT L c.y) = p at *
      cases e : firstD p.2 with
      | false => exact s2 p (mem_du.mpr ⟨hp, e⟩)
      | true =>
        rw [first_T O b] at e
        have v2 := val_T O b e
        have v1 : p.1 ∈ Z.vs := by
          rcases a with z | z
          · exact (le_value le e (O.ns _ z)).elim
          · exact z
        rw [hv _ v1, hv _ v2]; exact ne
  · intro s
    have sn := K.snd f fun c hc hb => by
      have := s c hc
      unfold satF at this
      rwa [if_pos hb] at this
    refine ⟨fun p hp => ?_, fun p hp => ?_⟩
    · obtain ⟨h1, h2, _⟩ := mem_leads.mp (mem_dl.mp hp)
      obtain ⟨l, g1, g2, g3⟩ := tog_hd K.li h1
      rw [h2]
      exact sn l g1 _ g2 _ g3
    · obtain ⟨c, hc, hb, rfl⟩ := mem_pairs.mp (mem_du.mp hp).1
      have := s c hc
      unfold satF at this
      rw [hb] at this
      simp only [Bool.false_eq_true, if_false] at this
      refine (sort2_f f _ _).mpr ?_
      obtain ⟨hx, hy⟩ := K.ins c hc
      obtain ⟨l, g1, g2, g3⟩ := tog_hd K.li hx
      obtain ⟨m, g4, g5, g6⟩ := tog_hd K.li hy
      rw [← sn l g1 _ g2 _ g3, ← sn m g4 _ g5 _ g6]; exact this
theorem due_stands (O : TmOk Z) (F : FcT Z fs) : Stands Z (dueK fs) fs := by
  have K := lots_ok fs
  unfold dueK
  cases c : crowded (lotsL fs) with
  | true =>
    rw [if_pos rfl]
    refine ⟨nofun, fun _ f hv s => ?_⟩
    unfold crowded at c
    obtain ⟨l, hl, h2⟩ := List.any_eq_true.mp c
    have h2 := of_decide_eq_true h2
    have nd : (l.filter firstD).Nodup := List.filter_sublist.nodup (lot_nd K.li hl)
    have sn := K.snd f fun c hc hb => by
      have := s c hc
      unfold satF at this
      rwa [if_pos hb] at this
    have mem : ∀ t ∈ l.filter firstD, t ∈ l ∧ t ∈ Z.vs := fun t ht => by
      obtain ⟨h1, h3⟩ := List.mem_filter.mp ht
      have hT := src_T K F (List.mem_flatten.mpr ⟨l, hl, h1⟩)
      rw [first_T O hT] at h3
      exact ⟨h1, val_T O hT h3⟩
    generalize l.filter firstD = m at *
    match m, h2, nd, mem with
    | x :: y :: r, _, nd, mem =>
      obtain ⟨a1, a2⟩ := mem x (.head _)
      obtain ⟨b1, b2⟩ := mem y (.tail _ (.head _))
      have := sn l hl x a1 y b1
      rw [hv _ a2, hv _ b2] at this
      rw [this] at nd
      simp at nd
    | [x], h, _, _ => simp at h
    | [], h, _, _ => simp at h
  | false =>
    rw [if_neg Bool.false_ne_true]
    cases a : (pairsF (lotsL fs) fs).any fun p => seq p.1 p.2 with
    | true =>
      rw [if_pos rfl]
      refine ⟨nofun, fun _ f hv s => ?_⟩
      obtain ⟨p, hp, e⟩ := List.any_eq_true.mp a
      rw [seq_iff] at e
      obtain ⟨c, hc, hb, rfl⟩ := mem_pairs.mp hp
      have sn := K.snd f fun c hc hb => by
        have := s c hc
        unfold satF at this
        rwa [if_pos hb] at this
      have := s c hc
      unfold satF at this
      rw [hb] at this
      simp only [Bool.false_eq_true, if_false] at this
      obtain ⟨hx, hy⟩ := K.ins c hc
      obtain ⟨l, g1, g2, g3⟩ := tog_hd K.li hx
      obtain ⟨m, g4, g5, g6⟩ := tog_hd K.li hy
      have e2 : hdT (lotsL fs) c.x = hdT (lotsL fs) c.y := by
        rcases sort2_or (hdT (lotsL fs) c.x) (hdT (lotsL fs) c.y) with z | z <;> rw [z] at e
        · exact e
        · exact e.symm
      exact this (by rw [sn l g1 _ g2 _ g3, sn m g4 _ g5 _ g6, e2])
    | false =>
      rw [if_neg Bool.false_ne_true]
      have n : ∀ p ∈ pairsF (lotsL fs) fs, p.1 ≠ p.2 := fun p hp e => by
        have := List.any_eq_false.mp a p hp
        exact this (seq_iff.mpr e)
      exact ⟨fun k' e => by cases e; exact ⟨due_wf O K F c n, due_srt K.li, fun f hv => due_sat O K F n hv⟩, nofun⟩
/-- told one by one, or by lots: the same -/
theorem run_due (O : TmOk Z) (F : FcT Z fs) : runK fs = dueK fs := stands_eq O (stands_runK O F) (due_stands O F) fun _ _ => Iff.rfl
end
end Wk

/-! Wk25: programs that draw nothing: what they come to. -/
namespace Wk
open PySem PySem.Spec PyProof.Rows L2
/-- it comes to an end that is as P wants, without a draw -/
def Rets {α : Type} (t : T α) (P : α → Prop) : Prop := ∃ a, t = .ret a ∧ P a
section
variable {α β : Type}
@[simp] theorem rets_ret {a : α} {P : α → Prop} : Rets (.ret a) P ↔ P a :=
  ⟨fun ⟨b, e, h⟩ => by cases e; exact h, fun h => ⟨a, rfl, h⟩⟩
theorem Rets.bind {t : T α} {f : α → T β} {P : α → Prop} {Q : β → Prop} (h : Rets t P) (g : ∀ a, P a → Rets (f a) Q) : Rets (t.bind f) Q := by
  obtain ⟨a, rfl, p⟩ := h
  exact g a p
theorem Rets.bnd {t : T α} {f : α → T β} {P : α → Prop} {Q : β → Prop} (h : Rets t P) (g : ∀ a, P a → Rets (f a) Q) : Rets (@bnd _ _ t ⟨f⟩) Q := Rets.bind h g
theorem Rets.mono {t : T α} {P Q : α → Prop} (h : Rets t P) (g : ∀ a, P a → Q a) : Rets t Q := by
  obtain ⟨a, e, p⟩ := h
  exact ⟨a, e, g a p⟩
theorem Rets.lt {t : T α} {P : α → Prop} (h : Rets t P) (c : Nat) : Lt t c P := by
  obtain ⟨a, rfl, p⟩ := h
  exact .ret p
theorem lt_ret {a : α} {c : Nat} {P : α → Prop} : Lt (.ret a) c P ↔ P a := ⟨fun h => (h c (Nat.le_refl _)).2, fun h => .ret h⟩
/-- a loop: s is what is laid together -/
theorem fLoop_fold' {S : Type} {g : Tg} {body : MS} (f : α → D) (step : S → α → S) (INV : S → En → Prop) : ∀ (xs : List α) (s : S) (ρ : En),
    (∀ s x, x ∈ xs → ∀ ρ, INV s ρ → ∃ ρ1, g.set (f x) ρ = some ρ1 ∧ Rets (body ρ1) fun p => p.1 = .nx ∧ INV (step s x) p.2) → INV s ρ →
    Rets (fLoop g body (xs.map f) ρ) fun p => p.1 = .nx ∧ INV (xs.foldl step s) p.2
  | [], s, ρ, _, i => by exact ⟨_, rfl, rfl, i⟩
  | x :: xs, s, ρ, h, i => by
    obtain ⟨ρ1, h1, ⟨⟨fl, ρ2⟩, e, rfl, i2⟩⟩ := h s x (.head _) ρ i
    simp only [List.map_cons, fLoop, h1, e]
    exact fLoop_fold' f step INV xs (step s x) ρ2 (fun s x hx => h s x (.tail _ hx)) i2
/-- a loop, told what came ahead -/
theorem fLoop_fold2 {S : Type} {g : Tg} {body : MS} (f : α → D) (step : S → α → S) (INV : S → En → Prop) : ∀ (xs : List α) (s : S) (ρ : En),
    (∀ a x b, xs = a ++ x :: b → ∀ ρ, INV (a.foldl step s) ρ → ∃ ρ1, g.set (f x) ρ = some ρ1 ∧ Rets (body ρ1) fun p => p.1 = .nx ∧ INV (step (a.foldl step s) x) p.2) → INV s ρ →
    Rets (fLoop g body (xs.map f) ρ) fun p => p.1 = .nx ∧ INV (xs.foldl step s) p.2
  | [], s, ρ, _, i => ⟨_, rfl, rfl, i⟩
  | x :: xs, s, ρ, h, i => by
    obtain ⟨ρ1, h1, ⟨⟨fl, ρ2⟩, e, rfl, i2⟩⟩ := h [] x xs rfl ρ i
    simp only [List.map_cons, fLoop, h1, e]
    exact fLoop_fold2 f step INV xs (step s x) ρ2 (fun a y b e => h (x :: a) y b (by rw [e]; rfl)) i2
/-- a loop that may end ahead: with r as soon as bad holds -/
theorem fLoop_find {S : Type} {g : Tg} {body : MS} (f : α → D) (step : S → α → S) (bad : S → α → Bool) (r : Rv) (INV : S → En → Prop) (END : En → Prop) : ∀ (xs : List α) (s : S) (ρ : En),
    (∀ s x, x ∈ xs → ∀ ρ, INV s ρ → ∃ ρ1, g.set (f x) ρ = some ρ1 ∧ Rets (body ρ1) fun p => if bad s x then p.1 = .rt r ∧ END p.2 else p.1 = .nx ∧ INV (step s x) p.2) → INV s ρ →
    Rets (fLoop g body (xs.map f) ρ) fun p => (p.1 = .nx ∧ INV (xs.foldl step s) p.2 ∧ ∀ (a : List α) x b, xs = a ++ x :: b → bad (a.foldl step s) x = false) ∨ (p.1 = .rt r ∧ END p.2 ∧ ∃ (a : List α) (x : α) (b : List α), xs = a ++ x :: b ∧ bad (a.foldl step s) x = true)
  | [], s, ρ, _, i => by
    refine ⟨_, rfl, ?_⟩
    exact .inl ⟨rfl, i, fun a x b e => by cases a <;> cases e⟩
  | x :: xs, s, ρ, h, i => by
    obtain ⟨ρ1, h1, ⟨⟨fl, ρ2⟩, e, q⟩⟩ := h s x (.head _) ρ i
    simp only [List.map_cons, fLoop, h1, e]
    cases hb : bad s x with
    | true =>
      rw [hb, if_pos rfl] at q
      obtain ⟨q1, q2⟩ := q
      have q1 : fl = .rt r := q1
      subst q1
      exact ⟨_, rfl, .inr ⟨rfl, q2, [], x, xs, rfl, hb⟩⟩
    | false =>
      rw [hb, if_neg Bool.false_ne_true] at q
      obtain ⟨q1, i2⟩ := q
      have q1 : fl = .nx := q1
      subst q1
      refine (fLoop_find f step bad r INV END xs (step s x) ρ2 (fun s x hx => h s x (.tail _ hx)) i2).mono fun p hp => ?_
      rcases hp with ⟨p1, p2, p3⟩ | ⟨p1, p2, a, y, b, p3, p4⟩
      · refine .inl ⟨p1, p2, fun a y b e => ?_⟩
        cases a with
        | nil => cases e; exact hb
        | cons z a =>
          rw [List.cons_append] at e
          cases e
          exact p3 a y b rfl
      · exact .inr ⟨p1, p2, x :: a, y, b, by rw [p3]; rfl, p4⟩
end
end Wk

/-! Wk26: loops that end ahead, told what came ahead. -/
namespace Wk
open PySem PySem.Spec PyProof.Rows L2
section
variable {α β : Type}
/-- a loop that ends with r at the first bad one -/
theorem fLoop_find2 {S : Type} {g : Tg} {body : MS} (f : α → D) (step : S → α → S) (bad : α → Bool) (r : Rv) (INV : S → En → Prop) : ∀ (xs : List α) (s : S) (ρ : En),
    (∀ a x b, xs = a ++ x :: b → ∀ ρ, INV (a.foldl step s) ρ → ∃ ρ1, g.set (f x) ρ = some ρ1 ∧ Rets (body ρ1) fun p => if bad x then p.1 = .rt r else p.1 = .nx ∧ INV (step (a.foldl step s) x) p.2) → INV s ρ →
    Rets (fLoop g body (xs.map f) ρ) fun p => if xs.any bad then p.1 = .rt r else p.1 = .nx ∧ INV (xs.foldl step s) p.2
  | [], s, ρ, _, i => ⟨_, rfl, rfl, i⟩
  | x :: xs, s, ρ, h, i => by
    obtain ⟨ρ1, h1, ⟨⟨fl, ρ2⟩, e, q⟩⟩ := h [] x xs rfl ρ i
    simp only [List.map_cons, fLoop, h1, e]
    by_cases hb : bad x = true
    · rw [if_pos hb] at q
      have q : fl = .rt r := q
      subst q
      refine ⟨_, rfl, ?_⟩
      show if (x :: xs).any bad = true then _ else _
      rw [if_pos (show (x :: xs).any bad = true by rw [List.any_cons, hb]; rfl)]
    · rw [if_neg hb] at q
      obtain ⟨q1, i2⟩ := q
      have q1 : fl = .nx := q1
      subst q1
      have e2 : (bad x || xs.any bad) = xs.any bad := by simp [Bool.eq_false_iff.mpr hb]
      refine (fLoop_find2 f step bad r INV xs (step s x) ρ2 (fun a y b e => h (x :: a) y b (by rw [e]; rfl)) i2).mono fun p hp => ?_
      show if (x :: xs).any bad = true then p.1 = .rt r else p.1 = .nx ∧ INV (xs.foldl step (step s x)) p.2
      have hp : if xs.any bad = true then p.1 = .rt r else p.1 = .nx ∧ INV (xs.foldl step (step s x)) p.2 := hp
      by_cases c : xs.any bad = true
      · rw [if_pos c] at hp
        rw [if_pos (show (x :: xs).any bad = true from e2.trans c)]; exact hp
      · rw [if_neg c] at hp
        rw [if_neg (show ¬ (x :: xs).any bad = true from fun z => c (e2.symm.trans z))]; exact hp
end
end Wk
namespace Wk
open PySem PySem.Spec PyProof.Rows L2
/-- a comprehension without a condition: P tells how many turns are left -/
theorem cLoop_ltN {sl0 : List (Option Rv)} {g : Tg} {el : ME} {Q : D → Prop} {k : Nat} (P : Nat → List (D × Bool) → Prop) : ∀ (ds acc : List D) (sl : List (Option Rv)) (st : List (D × Bool)), P ds.length st →
    (∀ n, ∀ d ∈ ds, ∀ st, n < ds.length → P (n + 1) st → ∃ ρ1, g.set d ⟨sl0, st⟩ = some ρ1 ∧ Lt (el ρ1) k (fun q => ∃ d' sl2 st2, q = (.val d', ⟨sl2, st2⟩) ∧ P n st2 ∧ Q d')) → (∀ d ∈ acc, Q d) →
    Lt (cLoop sl0 g mtYes el ds acc ⟨sl, st⟩) (ds.length * k) (fun p => ∃ ds' sl' st', p = (ds', ⟨sl', st'⟩) ∧ P 0 st' ∧ ds'.length = acc.length + ds.length ∧ ∀ d ∈ ds', Q d)
  | [], acc, sl, st, hp, h, ha => by
    simp only [cLoop]
    exact .ret ⟨acc, sl, st, rfl, hp, by simp, ha⟩
  | d :: ds, acc, sl, st, hp, h, ha => by
    obtain ⟨ρ1, h1, h2⟩ := h ds.length d List.mem_cons_self st (Nat.lt_succ_self _) hp
    simp only [cLoop, h1]
    have e : mtYes ρ1 = .ret (true, ρ1) := rfl
    rw [e]
    show Lt ((el ρ1).bind _) _ _
    refine (Lt.bind (d := ds.length * k) h2 ?_).mono (by simp [Nat.add_mul]; omega) fun _ z => z
    rintro q ⟨d', sl2, st2, rfl, hp2, hq⟩
    simp only [En.freeze]
    refine (cLoop_ltN P ds (acc ++ [d']) sl2 st2 hp2 (fun n d hd st hn => h n d (List.mem_cons_of_mem _ hd) st (Nat.lt_succ_of_lt hn)) fun x hx => ?_).mono (Nat.le_refl _) ?_
    · rcases List.mem_append.mp hx with z | z
      · exact ha x z
      · rw [List.mem_singleton.mp z]; exact hq
    · rintro p ⟨ds', sl', st', rfl, z0, z1, z2⟩
      exact ⟨ds', sl', st', rfl, z0, by simp at z1 ⊢; omega, z2⟩
theorem ixN_nat {n k : Nat} (h : k < n) : ixN n (k : Int) = some k := by
  unfold ixN
  simp [h]
/-- a fresh list -/
def OutL (P : List D → Prop) (o : Out) : Prop := ∃ ds, o = ⟨.fresh (.list ds), []⟩ ∧ P ds
theorem strs_of {P : Str → Prop} : ∀ {ds : List D}, (∀ d ∈ ds, ∃ s, d = .str s ∧ P s) → ∃ ns : List Str, ds = ns.map .str ∧ ∀ s ∈ ns, P s
  | [], _ => ⟨[], rfl, nofun⟩
  | d :: ds, h => by
    obtain ⟨s, rfl, hs⟩ := h d List.mem_cons_self
    obtain ⟨ns, rfl, hn⟩ := strs_of fun x hx => h x (List.mem_cons_of_mem _ hx)
    exact ⟨s :: ns, rfl, List.forall_mem_cons.mpr ⟨hs, hn⟩⟩
theorem atI_str {ts : List Str} {j : Nat} (h : j < ts.length) : ∃ t, t ∈ ts ∧ atI (ts.map PyData.str) (j : Int) = some (.str t) := by
  obtain ⟨d, h1, h2⟩ := atI_mem (ds := ts.map PyData.str) (j := j) (by rw [List.length_map]; exact h)
  obtain ⟨t, ht, rfl⟩ := List.mem_map.mp h2
  exact ⟨t, ht, h1⟩
/-- a loop with draws, each turn told its number -/
theorem fLoop_ltN {g : Tg} {body : MS} {k : Nat} (INV : Nat → En → Prop) (RT : Rv → En → Prop) : ∀ (ds : List D) (i : Nat) (ρ : En), INV i ρ →
    (∀ j d, ds[j]? = some d → ∀ ρ, INV (i + j) ρ → ∃ ρ1, g.set d ρ = some ρ1 ∧ Lt (body ρ1) k (fun p => match p.1 with | .nx => INV (i + j + 1) p.2 | .ct => INV (i + j + 1) p.2 | .bk => False | .rt r => RT r p.2)) →
    Lt (fLoop g body ds ρ) (ds.length * k) (fun p => match p.1 with | .nx => INV (i + ds.length) p.2 | .ct => False | .bk => False | .rt r => RT r p.2)
  | [], i, ρ, hi, h => .ret hi
  | d :: ds, i, ρ, hi, h => by
    obtain ⟨ρ1, h1, h2⟩ := h 0 d rfl ρ hi
    simp only [fLoop, h1]
    refine (Lt.bind (d := ds.length * k) h2 ?_).mono (by simp [Nat.add_mul]; omega) fun _ z => z
    rintro ⟨fl, ρ2⟩ hp
    have hh := fun hi2 => fLoop_ltN INV RT (k := k) (g := g) (body := body) ds (i + 1) ρ2 hi2 fun j d hd ρ I => by
      rw [show i + 1 + j = i + (j + 1) by omega] at I ⊢
      exact h (j + 1) d hd ρ I
    have el : i + 1 + ds.length = i + (d :: ds).length := by rw [List.length_cons]; omega
    rw [el] at hh
    cases fl with
    | nx => exact hh hp
    | ct => exact hh hp
    | bk => exact hp.elim
    | rt r => exact .ret hp
theorem range_get {n j : Nat} {d : D} (h : (rangeD 0 n)[j]? = some d) : d = .int (j : Nat) ∧ j < n := by
  have hj := (List.getElem?_eq_some_iff.mp h).1
  rw [range_len] at hj
  unfold rangeD at h
  rw [List.getElem?_map, List.getElem?_range hj] at h
  refine ⟨?_, hj⟩
  simpa using h.symm
end Wk

/-! Ra7: the lots, as the law has them. -/
namespace Wk
open PySem PySem.Spec PyProof.Rows L2
set_option maxHeartbeats 1000000
def lotD (l : List Str) : D := .list (l.map .str)
abbrev lotsD (L : Lots) : List D := L.map lotD
theorem inD_strs (t : Str) (l : List Str) : inD (.str t) (l.map .str) = decide (t ∈ l) := by
  induction l with
  | nil => simp
  | cons a l ih =>
    rw [List.map_cons, inD_c, ih, eqv_ss]
    by_cases e : a = t
    · simp [e]
    · have e1 : seq a t = false := Bool.eq_false_iff.mpr fun z => e (seq_iff.mp z)
      have e2 : ¬ t = a := fun z => e z.symm
      simp [e1, e2]
theorem flats (l : List Str) : (l.map PyData.str).all flatD = true := List.all_eq_true.mpr fun d hd => by
  obtain ⟨s, _, rfl⟩ := List.mem_map.mp hd; rfl
theorem in_lot (t : Str) (l : List Str) : cIn (.str t) (lotD l) = .v (.bool (decide (t ∈ l))) := by
  unfold lotD
  rw [in_sl (flats l), inD_strs]
theorem eqv_lots (l m : List Str) : PyData.eqv (lotD l) (lotD m) = decide (l = m) := by
  unfold lotD
  rw [eqv_lst]
  induction l generalizing m with
  | nil => cases m <;> simp [PyData.eqvAll]
  | cons a l ih =>
    cases m with
    | nil => simp [PyData.eqvAll]
    | cons b m =>
      rw [List.map_cons, List.map_cons, eqvAll_c, ih, eqv_ss]
      by_cases e : a = b
      · simp [e]
      · have e1 : seq a b = false := Bool.eq_false_iff.mpr fun z => e (seq_iff.mp z)
        simp [e1, e]
theorem inD_lots (l : List Str) (B : Lots) : inD (lotD l) (lotsD B) = decide (l ∈ B) := by
  induction B with
  | nil => simp
  | cons a B ih =>
    show inD (lotD l) (lotD a :: lotsD B) = _
    rw [inD_c, ih, eqv_lots]
    by_cases e : a = l
    · simp [e]
    · have e2 : ¬ l = a := fun z => e z.symm
      simp [e, e2]
def SokL (L : Lots) : Prop := ∀ l ∈ L, ∀ t ∈ l, Sok 40 t
theorem lay_strs : ∀ {l : List Str}, (∀ t ∈ l, Sok 40 t) → PyData.canLayAll0 (l.map .str) = true ∧ PyData.depthAll (l.map .str) = 0
  | [], _ => ⟨by simp [PyData.canLayAll0], by simp [PyData.depthAll]⟩
  | t :: l, h => by
    obtain ⟨a, b⟩ := lay_strs fun u hu => h u (.tail _ hu)
    have := (h t (.head _)).2
    refine ⟨?_, ?_⟩
    · rw [List.map_cons, PyData.canLayAll0, PyData.canLay0, a, this]; rfl
    · rw [List.map_cons, PyData.depthAll, PyData.depth, b]; rfl
theorem lay_lots : ∀ {B : Lots}, SokL B → PyData.canLayAll0 (lotsD B) = true ∧ PyData.depthAll (lotsD B) ≤ 1
  | [], _ => ⟨by simp [PyData.canLayAll0], by simp [PyData.depthAll]⟩
  | l :: B, h => by
    obtain ⟨a, b⟩ := lay_lots fun m hm => h m (.tail _ hm)
    obtain ⟨c, d⟩ := lay_strs (h l (.head _))
    refine ⟨?_, ?_⟩
    · show PyData.canLayAll0 (lotD l :: lotsD B) = true
      rw [PyData.canLayAll0, lotD, PyData.canLay0, a, c]; rfl
    · show PyData.depthAll (lotD l :: lotsD B) ≤ 1
      rw [PyData.depthAll, lotD, PyData.depth, d]; omega
theorem nin_lots {l : List Str} {B : Lots} (h : ∀ t ∈ l, Sok 40 t) (hB : SokL B) : cNotIn (lotD l) (.list (lotsD B)) = .v (.bool (!decide (l ∈ B))) := by
  obtain ⟨a, b⟩ := lay_strs h
  obtain ⟨c, d⟩ := lay_lots hB
  have s1 : SeqAt.shaped (lotD l) = true := by
    unfold SeqAt.shaped lotD
    rw [PyData.canLay0, a, PyData.depth, b]; rfl
  have s2 : SeqAt.shaped (.list (lotsD B)) = true := by
    unfold SeqAt.shaped
    rw [PyData.canLay0, c, PyData.depth]; simp; omega
  have : inOk (lotD l) (lotsD B) = true := by unfold inOk; rw [s1, s2]; simp
  show notV (if inOk (lotD l) (lotsD B) then .v (.bool (inD (lotD l) (lotsD B))) else .no) = _
  rw [this, inD_lots]; rfl
/-! ### a term more -/
abbrev ltC : ME := mCompO [7] (.nm 7) (mVar 1) (tB' (mBin cIn (mVar 5) (mVar 7))) (mVar 7)
abbrev lt5 : MS := sSeq (sIf (tB' (mBin cEq ltC (mDisp szL (maNil))))
  (sSeq (sDrop (mMtd roT muT "append" (mVar 1) (maCons (mDisp szL (maCons (mVar 5) (maNil))) (maNil))))
  (sNil))
  (sNil))
  (sNil)
def hasB (t : Str) : D → Bool
  | .list ds => inD (.str t) ds
  | _ => false
theorem hasB_lot (t : Str) (l : List Str) : hasB t (lotD l) = decide (t ∈ l) := inD_strs t l
theorem filt_has (t : Str) (L : Lots) : ((lotsD L).filter (hasB t)).map id = lotsD (L.filter fun l => decide (t ∈ l)) := by
  rw [List.map_id, List.filter_map]
  congr 1
  refine List.filter_congr fun l _ => hasB_lot t l
theorem ltC_eq {t : Str} {L : Lots} {m : Nat} {x0 x2 x3 x4 x6 x7 : Option Rv} {st : List (D × Bool)} (h0 : st[m]? = some (.list (lotsD L), false)) (hl : L.length ≤ 1000000) :
    ltC ⟨[x0, some (.res m), x2, x3, x4, some (.val (.str t)), x6, x7], st⟩ = .ret (.res st.length, ⟨[x0, some (.res m), x2, x3, x4, some (.val (.str t)), x6, x7], st ++ [(.list (lotsD (L.filter fun l => decide (t ∈ l))), false)]⟩) := by
  rw [← filt_has]
  refine compO_pure (ρ := ⟨[x0, some (.res m), x2, x3, x4, some (.val (.str t)), x6, x7], st⟩) (hasB t) id (by simp) h0 (by rw [List.length_map]; exact hl) fun d hd => ?_
  obtain ⟨l, hl, rfl⟩ := List.mem_map.mp hd
  refine ⟨_, [x0, some (.res m), x2, x3, x4, some (.val (.str t)), x6, some (.val (lotD l))], e_tg, ?_, fun _ => ⟨[x0, some (.res m), x2, x3, x4, some (.val (.str t)), x6, some (.val (lotD l))], by simp⟩⟩
  have := in_lot t l
  simp [this, hasB_lot]
theorem isE_lots (L : Lots) : (lotsD L).isEmpty = decide (L = []) := by cases L <;> simp
/-- the lots stand in the store -/
def LtI (L : Lots) (x0 x2 x3 x4 x6 : Option Rv) (ρ : En) : Prop := ∃ m x5 x7, ρ.sl = [x0, some (.res m), x2, x3, x4, x5, x6, x7] ∧ ρ.st[m]? = some (.list (lotsD L), false)
theorem lt5_eq {t : Str} {L : Lots} {m : Nat} {x0 x2 x3 x4 x6 x7 : Option Rv} {st : List (D × Bool)} (h0 : st[m]? = some (.list (lotsD L), false)) (hl : L.length < 1000000) :
    Rets (lt5 ⟨[x0, some (.res m), x2, x3, x4, some (.val (.str t)), x6, x7], st⟩) fun p => p.1 = .nx ∧ LtI (addT L t) x0 x2 x3 x4 x6 p.2 := by
  have hc := ltC_eq (t := t) (x0 := x0) (x2 := x2) (x3 := x3) (x4 := x4) (x6 := x6) (x7 := x7) h0 (by omega)
  have lt0 := lt_get h0
  have g0 : ∀ xs : List (D × Bool), (st ++ xs)[m]? = some (.list (lotsD L), false) := fun xs => by
    rw [List.getElem?_append_left lt0]; exact h0
  have zl : L.length < sizeLine := by rw [sizeLine_eq]; omega
  have z1 : 1 ≤ sizeLine := sz_le (by decide)
  unfold addT
  by_cases e : L.filter (fun l => decide (t ∈ l)) = []
  · rw [e] at hc
    rw [if_pos e]
    simp [hc, g0, zl, z1]
    exact ⟨m, _, _, rfl, by rw [List.getElem?_set_self (by rw [List.length_append]; omega)]; simp [lotD]⟩
  · have ee : (lotsD (L.filter fun l => decide (t ∈ l))).isEmpty = false := by rw [isE_lots]; simp [e]
    rw [if_neg e]
    simp [hc, ee]
    exact ⟨m, _, _, rfl, g0 _⟩
/-! ### lots joined -/
abbrev ltB : ME := mCompO [7] (.nm 7) (mVar 1) (mtOr (tB' (mBin cIn (mVar 3) (mVar 7))) (tB' (mBin cIn (mVar 4) (mVar 7)))) (mVar 7)
abbrev ltN : ME := mCompO [7] (.nm 7) (mVar 1) (tB' (mBin cNotIn (mVar 7) (mVar 6))) (mVar 7)
def withB (x y : Str) (d : D) : Bool := hasB x d || hasB y d
theorem ltB_eq {x y : Str} {L : Lots} {m : Nat} {x0 x2 x5 x6 x7 : Option Rv} {st : List (D × Bool)} (h0 : st[m]? = some (.list (lotsD L), false)) (hl : L.length ≤ 1000000) :
    ltB ⟨[x0, some (.res m), x2, some (.val (.str x)), some (.val (.str y)), x5, x6, x7], st⟩ = .ret (.res st.length, ⟨[x0, some (.res m), x2, some (.val (.str x)), some (.val (.str y)), x5, x6, x7], st ++ [(.list (lotsD (L.filter (withL x y))), false)]⟩) := by
  have e : ((lotsD L).filter (withB x y)).map id = lotsD (L.filter (withL x y)) := by
    rw [List.map_id, List.filter_map]
    congr 1
    refine List.filter_congr fun l _ => ?_
    show (hasB x (lotD l) || hasB y (lotD l)) = _
    rw [hasB_lot, hasB_lot]; rfl
  rw [← e]
  refine compO_pure (ρ := ⟨[x0, some (.res m), x2, some (.val (.str x)), some (.val (.str y)), x5, x6, x7], st⟩) (withB x y) id (by simp) h0 (by rw [List.length_map]; exact hl) fun d hd => ?_
  obtain ⟨l, hl, rfl⟩ := List.mem_map.mp hd
  refine ⟨_, [x0, some (.res m), x2, some (.val (.str x)), some (.val (.str y)), x5, x6, some (.val (lotD l))], e_tg, ?_, fun _ => ⟨[x0, some (.res m), x2, some (.val (.str x)), some (.val (.str y)), x5, x6, some (.val (lotD l))], by simp⟩⟩
  have h1 := in_lot x l
  have h2 := in_lot y l
  have h3 := hasB_lot x l
  have h4 := hasB_lot y l
  by_cases e : x ∈ l <;> simp [h1, h2, e, withB, h3, h4]
theorem ltN_eq {L B : Lots} {m b : Nat} {x0 x2 x3 x4 x5 x7 : Option Rv} {fl : Bool} {st : List (D × Bool)} (h0 : st[m]? = some (.list (lotsD L), false)) (h1 : st[b]? = some (.list (lotsD B), fl)) (sL : SokL L) (sB : SokL B) (hl : L.length ≤ 1000000) :
    ltN ⟨[x0, some (.res m), x2, x3, x4, x5, some (.res b), x7], st⟩ = .ret (.res st.length, ⟨[x0, some (.res m), x2, x3, x4, x5, some (.res b), x7], st ++ [(.list (lotsD (L.filter fun l => !decide (l ∈ B))), false)]⟩) := by
  have e : ((lotsD L).filter fun d => !inD d (lotsD B)).map id = lotsD (L.filter fun l => !decide (l ∈ B)) := by
    rw [List.map_id, List.filter_map]
    congr 1
    refine List.filter_congr fun l _ => ?_
    show (!inD (lotD l) (lotsD B)) = _
    rw [inD_lots]
  rw [← e]
  refine compO_pure (ρ := ⟨[x0, some (.res m), x2, x3, x4, x5, some (.res b), x7], st⟩) (fun d => !inD d (lotsD B)) id (by simp) h0 (by rw [List.length_map]; exact hl) fun d hd => ?_
  obtain ⟨l, hl, rfl⟩ := List.mem_map.mp hd
  refine ⟨_, [x0, some (.res m), x2, x3, x4, x5, some (.res b), some (.val (lotD l))], e_tg, ?_, fun _ => ⟨[x0, some (.res m), x2, x3, x4, x5, some (.res b), some (.val (lotD l))], by simp⟩⟩
  have h2 := nin_lots (sL l hl) sB
  have h3 := inD_lots l B
  simp [h1, h2, h3]
abbrev ltJ : MS := sSeq (sSet 6 ltB)
  (sSeq (sSet 1 (mBin oAdd ltN (mDisp szL (maCons (mCall bSums (maCons (mVar 6) (maCons (mDisp szL (maNil)) (maNil)))) (maNil)))))
  (sNil))
theorem ltJ_eq {x y : Str} {L : Lots} {m : Nat} {x0 x2 x5 x6 x7 : Option Rv} {st : List (D × Bool)} (h0 : st[m]? = some (.list (lotsD L), false)) (hl : L.length < 1000) (hs : (L.map List.length).sum ≤ 1000) (sL : SokL L) (hx : x ∈ L.flatten) :
    Rets (ltJ ⟨[x0, some (.res m), x2, some (.val (.str x)), some (.val (.str y)), x5, x6, x7], st⟩) fun p => p.1 = .nx ∧ ∃ m' x5 x6 x7, p.2.sl = [x0, some (.res m'), x2, some (.val (.str x)), some (.val (.str y)), x5, x6, x7] ∧ p.2.st[m']? = some (.list (lotsD (joinL L x y)), false) := by
  have hB := ltB_eq (x := x) (y := y) (x0 := x0) (x2 := x2) (x5 := x5) (x6 := x6) (x7 := x7) h0 (by omega)
  have lt0 := lt_get h0
  have g0 : ∀ xs : List (D × Bool), (st ++ xs)[m]? = some (.list (lotsD L), false) := fun xs => by
    rw [List.getElem?_append_left lt0]; exact h0
  have gb : ∀ xs : List (D × Bool), (st ++ (.list (lotsD (L.filter (withL x y))), false) :: xs)[st.length]? = some (.list (lotsD (L.filter (withL x y))), false) := fun xs => by simp
  have hN := ltN_eq (x0 := x0) (x2 := x2) (x3 := some (.val (.str x))) (x4 := some (.val (.str y))) (x5 := x5) (x7 := x7) (g0 _) (gb []) sL (fun l hl => sL l (List.mem_filter.mp hl).1) (by omega)
  have z1 : 1 ≤ sizeLine := sz_le (by decide)
  generalize hBB : L.filter (withL x y) = B at *
  have hb0 : 0 < B.length := by
    obtain ⟨l, h1, h2⟩ := List.mem_flatten.mp hx
    rw [← hBB]
    exact List.length_pos_of_mem (List.mem_filter.mpr ⟨h1, by simp [withL, h2]⟩)
  have hb1 : (B.map List.length).sum ≤ 1000 := by
    rw [← hBB]
    have key : ∀ L : Lots, ((L.filter (withL x y)).map List.length).sum ≤ (L.map List.length).sum := by
      intro L
      induction L with
      | nil => simp
      | cons l L ih =>
        rw [List.filter_cons]
        split
        · simp only [List.map_cons, List.sum_cons]; omega
        · simp only [List.map_cons, List.sum_cons]; omega
    exact Nat.le_trans (key L) hs
  have eb : lotsD B = (B.map fun l => l.map PyData.str).map .list := by rw [List.map_map]; rfl
  have hsum : bSums [.list (lotsD B), .list []] = .f (lotD B.flatten) := by
    rw [eb, sums_l (by rw [List.length_map]; exact hb0) (by rw [List.map_map]; simpa [Function.comp_def] using Nat.le_trans hb1 (by decide))]
    unfold lotD
    rw [List.map_flatten]
  have zN : (L.filter fun l => !decide (l ∈ B)).length + 1 ≤ sizeLine := by
    have := List.length_filter_le (fun l => !decide (l ∈ B)) L
    rw [sizeLine_eq]; omega
  have ej : joinL L x y = (L.filter fun l => !decide (l ∈ B)) ++ [B.flatten] := by unfold joinL; rw [hBB]
  rw [ej]
  simp [hB, hN, hsum, z1, zN]
/-! ### all facts -/
theorem addT_len (L : Lots) (t : Str) : (addT L t).flatten.length ≤ L.flatten.length + 1 := by
  rcases addT_cases L t with ⟨e, _⟩ | ⟨e, _⟩ <;> rw [e]
  · simp
  · omega
theorem step_len (L : Lots) (c : Fc) : (stepL L c).flatten.length ≤ L.flatten.length + 2 := by
  have h1 := addT_len L c.x
  have h2 := addT_len (addT L c.x) c.y
  unfold stepL
  split
  · rw [(join_perm _ _ _).length_eq]; omega
  · omega
theorem lots_len (fs : List Fc) : (lotsL fs).flatten.length ≤ 2 * fs.length := by
  have key : ∀ (fs : List Fc) (L : Lots), (fs.foldl stepL L).flatten.length ≤ L.flatten.length + 2 * fs.length := by
    intro fs
    induction fs with
    | nil => intro L; simp
    | cons c fs ih =>
      intro L
      have h1 := ih (stepL L c)
      have h2 := step_len L c
      rw [List.foldl_cons, List.length_cons]; omega
  refine Nat.le_trans (key fs []) ?_
  simp
theorem li_len : ∀ {L : Lots}, (∀ l ∈ L, l ≠ []) → L.length ≤ L.flatten.length
  | [], _ => by simp
  | l :: L, h => by
    have h1 := li_len fun m hm => h m (.tail _ hm)
    have h2 : 0 < l.length := List.length_pos_iff.mpr (h l (.head _))
    rw [List.flatten_cons, List.length_append, List.length_cons]; omega
abbrev ltF : MS := sSeq (sFor (.nm 5) (mWalk (mDisp szT (maCons (mVar 3) (maCons (mVar 4) (maNil))))) lt5)
  (sSeq (sIf (tB' (mBin cEq (mVar 2) (mC (.str "same")))) ltJ
  (sNil))
  (sNil))
abbrev ltG : Tg := .tp (.cons (.nm 2) (.cons (.nm 3) (.cons (.nm 4) (.nil))))
def SokF (fs : List Fc) : Prop := ∀ c ∈ fs, Sok 40 c.x ∧ Sok 40 c.y
def LtJ (x0 : Option Rv) (L : Lots) (ρ : En) : Prop := ∃ m x2 x3 x4 x5 x6 x7, ρ.sl = [x0, some (.res m), x2, x3, x4, x5, x6, x7] ∧ ρ.st[m]? = some (.list (lotsD L), false)
theorem ltF_eq {c : Fc} {L : Lots} {x0 x5 x6 x7 : Option Rv} {m : Nat} {st : List (D × Bool)} (h0 : st[m]? = some (.list (lotsD L), false)) (I : LI L) (hl : L.flatten.length ≤ 500) (sL : SokL L) (sc : Sok 40 c.x ∧ Sok 40 c.y) :
    Rets (ltF ⟨[x0, some (.res m), some (.val (.str (wordS c.b))), some (.val (.str c.x)), some (.val (.str c.y)), x5, x6, x7], st⟩) fun p => p.1 = .nx ∧ LtJ x0 (stepL L c) p.2 := by
  have z2 : 2 ≤ sizeLine := sz_le (by decide)
  have hloop := fLoop_fold2 (g := .nm 5) (body := lt5) PyData.str addT (fun L ρ => LtI L x0 (some (.val (.str (wordS c.b)))) (some (.val (.str c.x))) (some (.val (.str c.y))) x6 ρ) [c.x, c.y] L
    ⟨[x0, some (.res m), some (.val (.str (wordS c.b))), some (.val (.str c.x)), some (.val (.str c.y)), x5, x6, x7], st⟩ (fun a t b e ρ h => by
      obtain ⟨m', x5, x7, h1, h2⟩ := h
      obtain ⟨sl, st⟩ := ρ
      simp only at h1 h2
      subst h1
      refine ⟨_, e_tg, ?_⟩
      refine (lt5_eq h2 ?_).mono fun p hp => hp
      have l1 : a.length ≤ 2 := by have := congrArg List.length e; simp at this; omega
      have key : ∀ (a : List Str) (L : Lots), LI L → LI (a.foldl addT L) ∧ (a.foldl addT L).flatten.length ≤ L.flatten.length + a.length := by
        intro a
        induction a with
        | nil => intro L I; exact ⟨I, by simp⟩
        | cons t a ih =>
          intro L I
          obtain ⟨g1, g2⟩ := ih (addT L t) (addT_li I)
          have g3 := addT_len L t
          refine ⟨g1, ?_⟩
          rw [List.foldl_cons, List.length_cons]; omega
      obtain ⟨g1, g2⟩ := key a L I
      have := li_len g1.ne
      omega) ⟨m, x5, x7, rfl, h0⟩
  obtain ⟨⟨fl, ⟨sl, st1⟩⟩, e1, rfl, m1, y5, y7, h1, h2⟩ := hloop
  simp only at h1 h2
  subst h1
  have hw := word_same c.b
  have e1 : fLoop (.nm 5) lt5 [PyData.str c.x, PyData.str c.y] _ = _ := e1
  have h2 : st1[m1]? = some (.list (lotsD (addT (addT L c.x) c.y)), false) := h2
  have I2 : LI (addT (addT L c.x) c.y) := addT_li (addT_li I)
  have l2 : (addT (addT L c.x) c.y).flatten.length ≤ 502 := by
    have h1 := addT_len L c.x
    have h2 := addT_len (addT L c.x) c.y
    omega
  have s2 : SokL (addT (addT L c.x) c.y) := fun l hl t ht => by
    rcases mem_addT hl with z | rfl
    · rcases mem_addT z with z | rfl
      · exact sL l z t ht
      · rw [List.mem_singleton.mp ht]; exact sc.1
    · rw [List.mem_singleton.mp ht]; exact sc.2
  have l3 := li_len I2.ne
  have l4 : ((addT (addT L c.x) c.y).map List.length).sum ≤ 1000 := by rw [← List.length_flatten]; omega
  have hj := ltJ_eq (x := c.x) (y := c.y) (x0 := x0) (x2 := some (.val (.str (wordS c.b)))) (x5 := y5) (x6 := x6) (x7 := y7) h2 (by omega) l4 s2 (added_in L c.x c.y).1
  unfold stepL
  cases hb : c.b with
  | true =>
    rw [hb] at e1 hw hj
    obtain ⟨⟨fl, ⟨sl, st2⟩⟩, e3, rfl, m2, w5, w6, w7, h3, h4⟩ := hj
    simp only at h3 h4
    subst h3
    unfold ltF
    generalize ltJ = J at e3 ⊢
    simp [z2, e1, hw, e3]
    exact ⟨m2, _, _, _, _, _, _, rfl, h4⟩
  | false =>
    rw [hb] at e1 hw
    simp [z2, e1, hw]
    exact ⟨m1, _, _, _, _, _, _, rfl, h2⟩
def fsD (fs : List Fc) : D := .list (fs.map fcD)
theorem lots_eq {fs : List Fc} (hl : fs.length ≤ 200) (s : SokF fs) : F_law_lots.sem [.val (fsD fs)] = .ret ⟨.fresh (.list (lotsD (lotsL fs))), []⟩ := by
  have hloop := fLoop_fold2 (g := ltG) (body := ltF) fcD stepL (fun L ρ => LtJ (some (.val (fsD fs))) L ρ) fs [] ⟨[some (.val (fsD fs)), some (.res 0), none, none, none, none, none, none], [(.list [], false)]⟩ (fun a c b e ρ h => by
      obtain ⟨m, x2, x3, x4, x5, x6, x7, h1, h2⟩ := h
      obtain ⟨sl, st⟩ := ρ
      simp only at h1 h2
      subst h1
      have K := lots_ok a
      have ha : a.length ≤ 200 := by have := congrArg List.length e; simp at this; omega
      have h3 : (a.foldl stepL []).flatten.length ≤ 2 * a.length := lots_len a
      have mem : ∀ d ∈ a, d ∈ fs := fun d hd => by rw [e]; exact List.mem_append_left _ hd
      have sL : SokL (lotsL a) := fun l hl t ht => by
        obtain ⟨d, hd, e⟩ := K.src t (List.mem_flatten.mpr ⟨l, hl, ht⟩)
        rcases e with rfl | rfl
        · exact (s d (mem d hd)).1
        · exact (s d (mem d hd)).2
      refine ⟨⟨[some (.val (fsD fs)), some (.res m), some (.val (.str (wordS c.b))), some (.val (.str c.x)), some (.val (.str c.y)), x5, x6, x7], st⟩, by simp [fcD, factD3], ?_⟩
      exact ltF_eq h2 K.li (by omega) sL (s c (by rw [e]; simp))) ⟨0, _, _, _, _, _, _, rfl, rfl⟩
  obtain ⟨⟨fl, ⟨sl, st⟩⟩, e, rfl, m, x2, x3, x4, x5, x6, x7, h1, h2⟩ := hloop
  simp only at h1 h2
  subst h1
  have z0 : 0 ≤ sizeLine := Nat.zero_le _
  simp [F_law_lots, m_law_lots, fsD]
  unfold fsD at e
  have e : fLoop ltG ltF (fs.map fcD) _ = _ := e
  rw [e]
  have h2 : st[m]? = some (.list (lotsD (lotsL fs)), false) := h2
  simp [h2]
end Wk

/-! K07e: what is due, as the law has it. -/
namespace Wk
open PySem PySem.Spec PyProof.Rows L2
set_option maxHeartbeats 1000000
def strP (p : PS) : D × D := (.str p.1, .str p.2)
theorem unm_way (w : Way) : unm (w.map strP) = true := by cases w <;> rfl
theorem dget_way (t : Str) : ∀ w : Way, dGet (.str t) (w.map strP) = (findL t w).map .str
  | [] => rfl
  | p :: r => by
    rw [List.map_cons]
    show dGet (.str t) ((.str p.1, .str p.2) :: r.map strP) = _
    rw [dg_s, dget_way t r]
    show _ = (if seq p.1 t = true then some p.2 else findL t r).map PyData.str
    cases seq p.1 t <;> rfl
theorem dput_way (w : Way) (n v : Str) : dPut (.str n) (.str v) (w.map strP) = (putA w n v).map strP := by
  have ea : ((w.map strP).any fun p => PyData.eqv p.1 (.str n)) = w.any fun p => seq p.1 n := by
    rw [List.any_map]
    congr 1
  unfold dPut putA
  rw [ea]
  split
  · rw [List.map_map, List.map_map]
    refine List.map_congr_left fun p _ => ?_
    show (if PyData.eqv (.str p.1) (.str n) = true then _ else _) = _
    rw [eqv_seq]
    cases e : seq p.1 n <;> simp [strP, e]
  · rw [List.map_append]; rfl
theorem putA_len (w : Way) (n v : Str) : (putA w n v).length ≤ w.length + 1 := by
  unfold putA; split <;> simp
/-! ### heads, plain -/
def hdLot (w : Way) (l : List Str) : Way := l.foldl (fun w t => putA w t (mnL l)) w
def hdAll (L : Lots) : Way := L.foldl hdLot []
theorem putA_new {w : Way} {n v : Str} (h : n ∉ w.map (·.1)) : putA w n v = w ++ [(n, v)] := by
  unfold putA
  rw [if_neg]
  intro z
  obtain ⟨p, hp, e⟩ := List.any_eq_true.mp z
  exact h (List.mem_map.mpr ⟨p, hp, seq_iff.mp e⟩)
theorem foldA_new (v : Str) : ∀ (l : List Str) (w : Way), (w.map (·.1) ++ l).Nodup → l.foldl (fun w t => putA w t v) w = w ++ l.map fun t => (t, v)
  | [], w, _ => by simp
  | t :: l, w, h => by
    have h0 : t ∉ w.map (·.1) := fun z => (List.nodup_append.mp h).2.2 t z t (.head _) rfl
    rw [List.foldl_cons, putA_new h0, foldA_new v l]
    · simp
    · simpa using h
theorem hdAll_eq (L0 : Lots) (I0 : LI L0) : ∀ (L : Lots) (w : Way), (∀ l ∈ L, l ∈ L0) → (w.map (·.1) ++ L.flatten).Nodup → L.foldl hdLot w = w ++ L.flatten.map fun t => (t, hdT L0 t)
  | [], w, _, _ => by simp
  | l :: L, w, h, n => by
    have n1 : (w.map (·.1) ++ l).Nodup := by
      rw [List.flatten_cons, ← List.append_assoc] at n
      exact (List.nodup_append.mp n).1
    have e : hdLot w l = w ++ l.map fun t => (t, hdT L0 t) := by
      unfold hdLot
      rw [foldA_new _ _ _ n1]
      congr 1
      refine List.map_congr_left fun t ht => ?_
      rw [hdT_lot I0 (h l (.head _)) ht]
    rw [List.foldl_cons, e, hdAll_eq L0 I0 L _ fun m hm => h m (.tail _ hm)]
    · simp
    · rw [List.map_append, List.map_map]
      have : ((fun p : PS => p.1) ∘ fun t => (t, hdT L0 t)) = id := rfl
      rw [this, List.map_id, List.append_assoc, ← List.flatten_cons]; exact n
theorem hd_way {L : Lots} (I : LI L) : hdAll L = L.flatten.map fun t => (t, hdT L t) := by
  have := hdAll_eq L I L [] (fun _ h => h) (by simpa using I.nd)
  simpa [hdAll] using this
theorem find_map {f : Str → Str} {t : Str} : ∀ {l : List Str}, t ∈ l → findL t (l.map fun t => (t, f t)) = some (f t)
  | a :: l, h => by
    rw [List.map_cons]
    unfold findL
    by_cases e : a = t
    · subst e; simp
    · have e1 : seq a t = false := Bool.eq_false_iff.mpr fun z => e (seq_iff.mp z)
      rw [if_neg (by simp [e1])]
      exact find_map ((List.mem_cons.mp h).resolve_left fun z => e z.symm)
/-! ### one lot -/
abbrev duV : MS := sSeq (sPut (mCall bMinA (maCons (mVar 3) (maNil))) (mVar 2) (mVar 4)) (sNil)
abbrev duC : ME := mComp [4] (.nm 4) (mWalk (mVar 3)) (tB' (mBin cIn (mBin oIdx (mVar 4) (mC (.int 0))) (mC (.str "0123456789")))) (mVar 4)
abbrev duI : MS := sSeq (sIf (tB' (mBin cGt (mCall (f1 bLen) (maCons duC (maNil))) (mC (.int 1))))
  (sSeq (sRet (mC .none)) (sNil)) (sNil))
  (sSeq (sFor (.nm 4) (mWalk (mVar 3)) duV) (sNil))
abbrev x11 (x0 x1 x2 x3 x4 x5 x6 x7 x8 x9 x10 : Option Rv) : List (Option Rv) := [x0, x1, x2, x3, x4, x5, x6, x7, x8, x9, x10]
/-- terms: of a sign or more -/
def Trm (t : Str) : Prop := Sok 40 t ∧ ∃ c r, t.cps.toList = c :: r
theorem trm_0 {t : Str} (h : Trm t) : oIdx (.str t) (.int 0) = .v (.str ⟨#[t.cps.toList.headD 0]⟩) := by
  obtain ⟨h1, c, r, e⟩ := h
  simp [sz_of h1 (by decide), e]
def firB : D → Bool
  | .str t => firstD t
  | _ => false
theorem firB_map (l : List Str) : (l.map PyData.str).filter firB = (l.filter firstD).map .str := by
  rw [List.filter_map]; rfl
theorem duC_eq {l : List Str} (h : ∀ t ∈ l, Trm t) {x0 x1 x2 x4 x5 x6 x7 x8 x9 x10 : Option Rv} {st : List (D × Bool)} :
    duC ⟨x11 x0 x1 x2 (some (.val (lotD l))) x4 x5 x6 x7 x8 x9 x10, st⟩ = .ret (.res st.length, ⟨x11 x0 x1 x2 (some (.val (lotD l))) x4 x5 x6 x7 x8 x9 x10, st ++ [(lotD (l.filter firstD), false)]⟩) := by
  have e : ((l.map PyData.str).filter firB).map id = (l.filter firstD).map .str := by rw [List.map_id, firB_map]
  show _ = T.ret (Rv.res st.length, (⟨_, st ++ [(.list ((l.filter firstD).map .str), false)]⟩ : En))
  rw [← e]
  refine comp_same (ρ := ⟨x11 x0 x1 x2 (some (.val (lotD l))) x4 x5 x6 x7 x8 x9 x10, st⟩) (l.map .str) firB id (by simp [lotD]) fun d hd => ?_
  obtain ⟨t, ht, rfl⟩ := List.mem_map.mp hd
  have h0 := trm_0 (h t ht)
  refine ⟨_, x11 x0 x1 x2 (some (.val (lotD l))) (some (.val (.str t))) x5 x6 x7 x8 x9 x10, e_tg, ?_, fun _ => ⟨x11 x0 x1 x2 (some (.val (lotD l))) (some (.val (.str t))) x5 x6 x7 x8 x9 x10, by simp⟩⟩
  simp [-ix_s, h0, firB, firstD, DIG]
theorem duV_eq {l : List Str} {t : Str} (ne : l ≠ []) {w : Way} (hw : w.length < 1000000) {x0 x1 x5 x6 x7 x8 x9 x10 : Option Rv} {st : List (D × Bool)} {m : Nat} (h0 : st[m]? = some (.dict (w.map strP), false)) :
    duV ⟨x11 x0 x1 (some (.res m)) (some (.val (lotD l))) (some (.val (.str t))) x5 x6 x7 x8 x9 x10, st⟩ = .ret (.nx, ⟨x11 x0 x1 (some (.res m)) (some (.val (lotD l))) (some (.val (.str t))) x5 x6 x7 x8 x9 x10, st.set m (.dict ((putA w t (mnL l)).map strP), false)⟩) := by
  obtain ⟨a, r, rfl⟩ : ∃ a r, l = a :: r := by cases l with
    | nil => exact absurd rfl ne
    | cons a r => exact ⟨a, r, rfl⟩
  have hm : bMinA [lotD (a :: r)] = .v (.str (mnL (a :: r))) := minA_s
  generalize lotD (a :: r) = ld at *
  generalize mnL (a :: r) = mn at *
  have hu := unm_way w
  have dp := dput_way w t mn
  have zw : (w.map strP).length < sizeLine := by rw [List.length_map, sizeLine_eq]; omega
  have zw2 : w.length < sizeLine := by rw [sizeLine_eq]; omega
  simp [hm, h0, hu, dp, zw, zw2]
/-- heads in the store -/
def DuI (x0 x1 x3 x5 x6 x7 x8 x9 x10 : Option Rv) (m : Nat) (a : D × Bool) (w : Way) (ρ : En) : Prop := ∃ x4, ρ.sl = x11 x0 x1 (some (.res m)) x3 x4 x5 x6 x7 x8 x9 x10 ∧ ρ.st[m]? = some (.dict (w.map strP), false)
theorem foldA_len (v : Str) : ∀ (l : List Str) (w : Way), (l.foldl (fun w t => putA w t v) w).length ≤ w.length + l.length
  | [], w => by simp
  | t :: l, w => by
    have h1 := foldA_len v l (putA w t v)
    have h2 := putA_len w t v
    rw [List.foldl_cons, List.length_cons]; omega
theorem duL_eq {l : List Str} (ne : l ≠ []) {w : Way} (hw : w.length + l.length < 1000000) {x0 x1 x4 x5 x6 x7 x8 x9 x10 : Option Rv} {st : List (D × Bool)} {m : Nat} (h0 : st[m]? = some (.dict (w.map strP), false)) :
    Rets (fLoop (.nm 4) duV (l.map .str) ⟨x11 x0 x1 (some (.res m)) (some (.val (lotD l))) x4 x5 x6 x7 x8 x9 x10, st⟩) fun p => p.1 = .nx ∧ DuI x0 x1 (some (.val (lotD l))) x5 x6 x7 x8 x9 x10 m (.none, false) (hdLot w l) p.2 := by
  refine fLoop_fold2 (g := .nm 4) (body := duV) PyData.str (fun w t => putA w t (mnL l)) (fun w ρ => DuI x0 x1 (some (.val (lotD l))) x5 x6 x7 x8 x9 x10 m (.none, false) w ρ) l w _ (fun a t b e ρ h => ?_) ⟨_, rfl, h0⟩
  obtain ⟨x4, h1, h2⟩ := h
  obtain ⟨sl, st⟩ := ρ
  simp only at h1 h2
  subst h1
  refine ⟨_, e_tg, ?_⟩
  have la : a.length ≤ l.length := by rw [e]; simp
  have := foldA_len (mnL l) a w
  have lt0 := lt_get h2
  have := duV_eq (t := t) ne (by omega) (x0 := x0) (x1 := x1) (x5 := x5) (x6 := x6) (x7 := x7) (x8 := x8) (x9 := x9) (x10 := x10) h2
  refine ⟨_, this, rfl, _, rfl, ?_⟩
  show (st.set m _)[m]? = _
  rw [List.getElem?_set_self lt0]
theorem gtB {i j : Int} : cGt (.int i) (.int j) = .v (.bool (decide (j < i))) := rfl
theorem duI_eq {l : List Str} (ht : ∀ t ∈ l, Trm t) (ne : l ≠ []) {w : Way} (hw : w.length + l.length < 1000000) {x0 x1 x4 x5 x6 x7 x8 x9 x10 : Option Rv} {st : List (D × Bool)} {m : Nat} (h0 : st[m]? = some (.dict (w.map strP), false)) :
    Rets (duI ⟨x11 x0 x1 (some (.res m)) (some (.val (lotD l))) x4 x5 x6 x7 x8 x9 x10, st⟩) fun p => if decide (1 < (l.filter firstD).length) then p.1 = .rt (.val .none) ∧ True else p.1 = .nx ∧ ∃ x3, DuI x0 x1 x3 x5 x6 x7 x8 x9 x10 m (.none, false) (hdLot w l) p.2 := by
  have hc := duC_eq ht (x0 := x0) (x1 := x1) (x2 := some (.res m)) (x4 := x4) (x5 := x5) (x6 := x6) (x7 := x7) (x8 := x8) (x9 := x9) (x10 := x10) (st := st)
  have lt0 := lt_get h0
  have g0 : ∀ x, (st ++ [x])[m]? = some (.dict (w.map strP), false) := fun x => by rw [List.getElem?_append_left lt0]; exact h0
  have hl := duL_eq ne hw (x0 := x0) (x1 := x1) (x4 := x4) (x5 := x5) (x6 := x6) (x7 := x7) (x8 := x8) (x9 := x9) (x10 := x10) (g0 (lotD (l.filter firstD), false))
  have e1 : bLen (lotD (l.filter firstD)) = .v (.int ((l.filter firstD).length : Nat)) := by simp [lotD]
  have wk : walkD (lotD l) = some (l.map .str) := rfl
  unfold duI
  generalize (l.filter firstD).length = n at *
  generalize lotD (l.filter firstD) = fd at *
  generalize hlv : fLoop (.nm 4) duV = LV at *
  by_cases hn : 1 < n
  · have hn2 : (1 : Int) < (n : Int) := by omega
    simp [hc, e1, hn, hn2]
  · have hn2 : ¬ (1 : Int) < (n : Int) := by omega
    simp [hc, e1, hn, hn2, wk, hlv]
    refine hl.bnd ?_
    rintro ⟨fl, ρ⟩ ⟨rfl, h⟩
    simp
    exact ⟨_, h⟩
end Wk

/-! K07f: what is due, as the law has it: all. -/
namespace Wk
open PySem PySem.Spec PyProof.Rows L2
set_option maxHeartbeats 1000000
def DuO (x0 : Option Rv) (w : Way) (ρ : En) : Prop := ∃ x1 x3 x4 x5 x6 x7 x8 x9 x10 m, ρ.sl = x11 x0 x1 (some (.res m)) x3 x4 x5 x6 x7 x8 x9 x10 ∧ ρ.st[m]? = some (.dict (w.map strP), false)
theorem hdLot_len (w : Way) (l : List Str) : (hdLot w l).length ≤ w.length + l.length := foldA_len _ _ _
theorem hdAll_len : ∀ (L : Lots) (w : Way), (L.foldl hdLot w).length ≤ w.length + L.flatten.length
  | [], w => by simp
  | l :: L, w => by
    have h1 := hdAll_len L (hdLot w l)
    have h2 := hdLot_len w l
    rw [List.foldl_cons, List.flatten_cons, List.length_append]; omega
theorem duO_eq {L : Lots} (ht : ∀ l ∈ L, ∀ t ∈ l, Trm t) (ne : ∀ l ∈ L, l ≠ []) (hl : L.flatten.length < 100000) {x0 x1 x3 x4 x5 x6 x7 x8 x9 x10 : Option Rv} {st : List (D × Bool)} {m : Nat} (h0 : st[m]? = some (.dict [], false)) :
    Rets (fLoop (.nm 3) duI (lotsD L) ⟨x11 x0 x1 (some (.res m)) x3 x4 x5 x6 x7 x8 x9 x10, st⟩) fun p => if crowded L then p.1 = .rt (.val .none) else p.1 = .nx ∧ DuO x0 (hdAll L) p.2 := by
  refine fLoop_find2 (g := .nm 3) (body := duI) lotD hdLot (fun l => decide (1 < (l.filter firstD).length)) (.val .none) (fun w ρ => DuO x0 w ρ) L [] _ (fun a l b e ρ h => ?_) ⟨_, _, _, _, _, _, _, _, _, _, rfl, h0⟩
  obtain ⟨x1, x3, x4, x5, x6, x7, x8, x9, x10, m, h1, h2⟩ := h
  obtain ⟨sl, st⟩ := ρ
  simp only at h1 h2
  subst h1
  have hm : l ∈ L := by rw [e]; simp
  have l1 := hdAll_len a []
  have l2 : a.flatten.length + l.length ≤ L.flatten.length := by rw [e]; simp
  refine ⟨_, e_tg, ?_⟩
  refine (duI_eq (ht l hm) (ne l hm) (by rw [List.length_nil, Nat.zero_add] at l1; omega) (x0 := x0) (x1 := x1) (x4 := x4) (x5 := x5) (x6 := x6) (x7 := x7) (x8 := x8) (x9 := x9) (x10 := x10) h2).mono fun p hp => ?_
  split
  · rename_i c; rw [if_pos c] at hp; exact hp.1
  · rename_i c
    rw [if_neg c] at hp
    obtain ⟨q, x3, x4, h1, h2⟩ := hp
    exact ⟨q, _, _, _, _, _, _, _, _, _, _, h1, h2⟩
/-! ### leads -/
abbrev duL : ME := mComp [4] (.nm 4) (mWalk (mVar 2)) (tB' (mBin cNe (mBin oIdx (mVar 2) (mVar 4)) (mVar 4))) (mDisp szT (maCons (mVar 4) (maCons (mBin oIdx (mVar 2) (mVar 4)) (maNil))))
def ldB (w : Way) : D → Bool
  | .str t => !seq (wv w t) t
  | _ => false
def ldF (w : Way) : D → D
  | .str t => pairD (t, wv w t)
  | _ => .none
theorem strP_keys (w : Way) : (w.map strP).map (·.1) = (w.map (·.1)).map PyData.str := by
  rw [List.map_map, List.map_map]; rfl
theorem find_mem {t : Str} : ∀ {w : Way}, t ∈ w.map (·.1) → findL t w = some (wv w t)
  | p :: w, h => by
    unfold wv
    cases e : findL t (p :: w) with
    | some v => rfl
    | none =>
      obtain ⟨q, hq, e2⟩ := List.mem_map.mp h
      exact absurd e2 (findL_none.mp e q hq)
theorem duL_eq2 {w : Way} {x0 x1 x3 x4 x5 x6 x7 x8 x9 x10 : Option Rv} {st : List (D × Bool)} {m : Nat} (h0 : st[m]? = some (.dict (w.map strP), false)) :
    duL ⟨x11 x0 x1 (some (.res m)) x3 x4 x5 x6 x7 x8 x9 x10, st⟩ = .ret (.res st.length, ⟨x11 x0 x1 (some (.res m)) x3 x4 x5 x6 x7 x8 x9 x10, st.set m (.dict (w.map strP), true) ++ [(.list ((((w.map (·.1)).map fun t => (t, wv w t)).filter fun p => !seq p.2 p.1).map pairD), false)]⟩) := by
  have lt0 := lt_get h0
  have z2 : 2 ≤ sizeLine := sz_le (by decide)
  have hu := unm_way w
  have e : ∀ ks : List Str, ((ks.map PyData.str).filter (ldB w)).map (ldF w) = ((ks.map fun t => (t, wv w t)).filter fun p => !seq p.2 p.1).map pairD := fun ks => by
    rw [List.filter_map, List.filter_map, List.map_map, List.map_map]; rfl
  rw [← e]
  have := comp_pure (own := [4]) (g := .nm 4) (mi := mWalk (mVar 2)) (tt := tB' (mBin cNe (mBin oIdx (mVar 2) (mVar 4)) (mVar 4))) (el := mDisp szT (maCons (mVar 4) (maCons (mBin oIdx (mVar 2) (mVar 4)) (maNil))))
    (ρ := ⟨x11 x0 x1 (some (.res m)) x3 x4 x5 x6 x7 x8 x9 x10, st⟩) ⟨x11 x0 x1 (some (.res m)) x3 x4 x5 x6 x7 x8 x9 x10, st.set m (.dict (w.map strP), true)⟩ ((w.map (·.1)).map .str) (ldB w) (ldF w) (by
      have := strP_keys w
      simp [h0, walkD, hu]
      exact fun _ _ _ => rfl) fun d hd => by
      obtain ⟨t, ht, rfl⟩ := List.mem_map.mp hd
      have gt : (st.set m (PyData.dict (w.map strP), true))[m]? = some (.dict (w.map strP), true) := List.getElem?_set_self lt0
      have hg : dGet (.str t) (w.map strP) = some (.str (wv w t)) := by rw [dget_way, find_mem ht]; rfl
      refine ⟨_, x11 x0 x1 (some (.res m)) x3 (some (.val (.str t))) x5 x6 x7 x8 x9 x10, e_tg, ?_, fun _ => ⟨x11 x0 x1 (some (.res m)) x3 (some (.val (.str t))) x5 x6 x7 x8 x9 x10, ?_⟩⟩
      · simp [gt, hg, hu, ldB]
      · simp [gt, hg, hu, ldF, z2, pairD]
  simpa using this
/-! ### pairs -/
abbrev duP : MS := sSeq (sIf (tB' (mBin cEq (mVar 7) (mC (.str "unlike"))))
  (sSeq (sSet 10 (mCall (f1 bTuple) (maCons (mCall (f1 bSorted) (maCons (mDisp szL (maCons (mBin oIdx (mVar 2) (mVar 8)) (maCons (mBin oIdx (mVar 2) (mVar 9)) (maNil)))) (maNil))) (maNil))))
  (sSeq (sIf (tB' (mBin cEq (mBin oIdx (mVar 10) (mC (.int 0))) (mBin oIdx (mVar 10) (mC (.int 1)))))
  (sSeq (sRet (mC .none))
  (sNil))
  (sNil))
  (sSeq (sIf (tB' (mBin cNotIn (mBin oIdx (mBin oIdx (mVar 10) (mC (.int 1))) (mC (.int 0))) (mC (.str "0123456789"))))
  (sSeq (sDrop (mMtd roT muT "append" (mVar 6) (maCons (mVar 10) (maNil))))
  (sNil))
  (sNil))
  (sNil))))
  (sNil))
  (sNil)
abbrev duG : Tg := .tp (.cons (.nm 7) (.cons (.nm 8) (.cons (.nm 9) (.nil))))
def pstep (w : Way) (acc : List PS) (c : Fc) : List PS := if c.b then acc else if firstD (sort2 (wv w c.x) (wv w c.y)).2 then acc else acc ++ [sort2 (wv w c.x) (wv w c.y)]
def pbad (w : Way) (c : Fc) : Bool := !c.b && seq (sort2 (wv w c.x) (wv w c.y)).1 (sort2 (wv w c.x) (wv w c.y)).2
def DuP (x0 x5 : Option Rv) (j : Nat) (y : D × Bool) (w : Way) (acc : List PS) (ρ : En) : Prop := ∃ x1 x3 x4 x7 x8 x9 x10 m k fl, (j ≠ k ∧ ρ.st[j]? = some y) ∧ ρ.sl = x11 x0 x1 (some (.res m)) x3 x4 x5 (some (.res k)) x7 x8 x9 x10 ∧ ρ.st[m]? = some (.dict (w.map strP), fl) ∧ ρ.st[k]? = some (.list (acc.map pairD), false)
theorem duP_eq {w : Way} {c : Fc} {acc : List PS} (hx : c.x ∈ w.map (·.1)) (hy : c.y ∈ w.map (·.1)) (tx : Trm (wv w c.x)) (ty : Trm (wv w c.y)) (hl : acc.length < 100000) {x0 x1 x3 x4 x5 x10 : Option Rv} {st : List (D × Bool)} {m k : Nat} {fl : Bool}
    (h0 : st[m]? = some (.dict (w.map strP), fl)) (h1 : st[k]? = some (.list (acc.map pairD), false)) (P : En → Prop) (hP : ∀ x10 st', (∀ i y, i ≠ k → st[i]? = some y → st'[i]? = some y) → st'[k]? = some (.list ((pstep w acc c).map pairD), false) → P ⟨x11 x0 x1 (some (.res m)) x3 x4 x5 (some (.res k)) (some (.val (.str (wordS c.b)))) (some (.val (.str c.x))) (some (.val (.str c.y))) x10, st'⟩) :
    Rets (duP ⟨x11 x0 x1 (some (.res m)) x3 x4 x5 (some (.res k)) (some (.val (.str (wordS c.b)))) (some (.val (.str c.x))) (some (.val (.str c.y))) x10, st⟩) fun p => if pbad w c then p.1 = .rt (.val .none) else p.1 = .nx ∧ P p.2 := by
  have hw := word_unlike c.b
  have z2 : 2 ≤ sizeLine := sz_le (by decide)
  have za : acc.length < sizeLine := by rw [sizeLine_eq]; omega
  have hu := unm_way w
  have gx : dGet (.str c.x) (w.map strP) = some (.str (wv w c.x)) := by rw [dget_way, find_mem hx]; rfl
  have gy : dGet (.str c.y) (w.map strP) = some (.str (wv w c.y)) := by rw [dget_way, find_mem hy]; rfl
  have lm := lt_get h0
  have lk := lt_get h1
  have nk : m ≠ k := fun z => by subst z; rw [h0] at h1; cases h1
  cases hb : c.b with
  | true =>
    rw [hb] at hw hP
    have := hP x10 st (fun _ _ _ h => h) (by unfold pstep; rw [hb, if_pos rfl]; exact h1)
    simp [hw, pbad, hb, this]
  | false =>
    rw [hb] at hw hP
    have so : sOk [.str (wv w c.x), .str (wv w c.y)] = true := sOk_strs (by simp)
    have st2 := sort_strs2 (wv w c.x) (wv w c.y)
    have t2 : Trm (sort2 (wv w c.x) (wv w c.y)).2 := by rcases sort2_or (wv w c.x) (wv w c.y) with e | e <;> rw [e] <;> assumption
    unfold pbad pstep at *
    rw [hb] at hP ⊢
    generalize sort2 (wv w c.x) (wv w c.y) = q at *
    obtain ⟨q1, q2⟩ := q
    have i0 := trm_0 t2
    have gf : ∀ (xs : List (D × Bool)) (i : Nat) (y : D × Bool), st[i]? = some y → (st ++ xs)[i]? = some y := fun xs i y h => by rw [List.getElem?_append_left (lt_get h)]; exact h
    have gk : ∀ xs : List (D × Bool), (st ++ xs)[k]? = some (.list (acc.map pairD), false) := fun xs => by rw [List.getElem?_append_left lk]; exact h1
    cases e1 : seq q1 q2 with
    | true => simp [hw, h0, hu, gx, gy, so, st2, z2, e1]
    | false =>
      cases e2 : firstD q2 with
      | true =>
        have e3 : strIn ⟨#[q2.cps.toList.headD 0]⟩ "0123456789" = true := e2
        generalize (⟨#[q2.cps.toList.headD 0]⟩ : Str) = hd at i0 e3
        simp [-ix_s, hw, h0, hu, gx, gy, so, st2, z2, e1, i0, e3]
        refine hP _ _ (fun i y _ h => gf _ i y h) ?_
        simp only [e2, Bool.false_eq_true, if_false, if_true]
        exact gk _
      | false =>
        have e3 : strIn ⟨#[q2.cps.toList.headD 0]⟩ "0123456789" = false := e2
        generalize (⟨#[q2.cps.toList.headD 0]⟩ : Str) = hd at i0 e3
        simp [-ix_s, hw, h0, hu, gx, gy, so, st2, z2, e1, i0, e3, gk, za]
        refine hP _ _ ?_ ?_
        · exact fun i y n h => by rw [List.getElem?_set_ne (fun z => n z.symm)]; exact gf _ i y h
        · simp only [e2, Bool.false_eq_true, if_false]
          rw [List.getElem?_set_self (by rw [List.length_append]; omega)]; simp [pairD]
theorem pstep_len (w : Way) (acc : List PS) (c : Fc) : (pstep w acc c).length ≤ acc.length + 1 := by
  unfold pstep; split
  · omega
  · split <;> simp
theorem pfold_len (w : Way) : ∀ (fs : List Fc) (acc : List PS), (fs.foldl (pstep w) acc).length ≤ acc.length + fs.length
  | [], acc => by simp
  | c :: fs, acc => by
    have h1 := pfold_len w fs (pstep w acc c)
    have h2 := pstep_len w acc c
    rw [List.foldl_cons, List.length_cons]; omega
theorem pfold_eq (w : Way) : ∀ (fs : List Fc) (acc : List PS), fs.foldl (pstep w) acc = acc ++ ((fs.filter fun c => !c.b).map fun c => sort2 (wv w c.x) (wv w c.y)).filter fun p => !firstD p.2
  | [], acc => by simp
  | c :: fs, acc => by
    rw [List.foldl_cons, pfold_eq w fs, List.filter_cons]
    unfold pstep
    cases c.b with
    | true => simp
    | false =>
      simp only [Bool.false_eq_true, if_false, Bool.not_false, if_true, List.map_cons, List.filter_cons]
      cases firstD (sort2 (wv w c.x) (wv w c.y)).2 <;> simp
theorem duQ_eq {w : Way} {fs : List Fc} (hin : ∀ c ∈ fs, c.x ∈ w.map (·.1) ∧ c.y ∈ w.map (·.1)) (tr : ∀ t ∈ w.map (·.1), Trm (wv w t)) (hl : fs.length < 10000) {x0 x1 x3 x4 x5 x7 x8 x9 x10 : Option Rv} {st : List (D × Bool)} {m k j : Nat} {y : D × Bool} {fl : Bool}
    (h0 : st[m]? = some (.dict (w.map strP), fl)) (h1 : st[k]? = some (.list [], false)) (hj : j ≠ k ∧ st[j]? = some y) :
    Rets (fLoop duG duP (fs.map fcD) ⟨x11 x0 x1 (some (.res m)) x3 x4 x5 (some (.res k)) x7 x8 x9 x10, st⟩) fun p => if fs.any (pbad w) then p.1 = .rt (.val .none) else p.1 = .nx ∧ DuP x0 x5 j y w (fs.foldl (pstep w) []) p.2 := by
  refine fLoop_find2 (g := duG) (body := duP) fcD (pstep w) (pbad w) (.val .none) (fun acc ρ => DuP x0 x5 j y w acc ρ) fs [] _ (fun a c b e ρ h => ?_) ⟨_, _, _, _, _, _, _, _, _, _, hj, rfl, h0, h1⟩
  obtain ⟨x1, x3, x4, x7, x8, x9, x10, m, k, fl, hj, h1, h2, h3⟩ := h
  obtain ⟨sl, st⟩ := ρ
  simp only at h1 h2 h3 hj
  have nk : m ≠ k := fun z => by subst z; rw [h2] at h3; cases h3
  subst h1
  have hm : c ∈ fs := by rw [e]; simp
  have l1 := pfold_len w a []
  have l2 : a.length ≤ fs.length := by rw [e]; simp
  obtain ⟨hx, hy⟩ := hin c hm
  refine ⟨⟨x11 x0 x1 (some (.res m)) x3 x4 x5 (some (.res k)) (some (.val (.str (wordS c.b)))) (some (.val (.str c.x))) (some (.val (.str c.y))) x10, st⟩, by simp [fcD, factD3], ?_⟩
  exact duP_eq hx hy (tr _ hx) (tr _ hy) (by simp at l1; omega) h2 h3 _ fun x10 st' g1 g2 => ⟨_, _, _, _, _, _, _, _, _, _, ⟨hj.1, g1 j y hj.1 hj.2⟩, rfl, g1 m _ nk h2, g2⟩
/-! ### all -/
theorem due_eq {fs : List Fc} (hl : fs.length ≤ 60) (s : ∀ c ∈ fs, Trm c.x ∧ Trm c.y) : F_law_due.sem [.val (fsD fs)] = .ret ⟨.val (knO (dueK fs)), []⟩ := by
  have hL := lots_eq (fs := fs) (by omega) fun c hc => ⟨(s c hc).1.1, (s c hc).2.1⟩
  have K := lots_ok fs
  have ll := lots_len fs
  have tr : ∀ l ∈ lotsL fs, ∀ t ∈ l, Trm t := fun l h1 t h2 => by
    obtain ⟨d, hd, e⟩ := K.src t (List.mem_flatten.mpr ⟨l, h1, h2⟩)
    rcases e with rfl | rfl
    · exact (s d hd).1
    · exact (s d hd).2
  have hO := duO_eq (L := lotsL fs) tr K.li.ne (by omega) (x0 := some (.val (fsD fs))) (x1 := some (.res 0)) (x3 := none) (x4 := none) (x5 := none) (x6 := none) (x7 := none) (x8 := none) (x9 := none) (x10 := none) (st := [(.list (lotsD (lotsL fs)), true), (.dict [], false)]) (m := 1) rfl
  unfold dueK
  generalize hM : lotsL fs = L at *
  have ew := hd_way K.li
  have keys : (hdAll L).map (·.1) = L.flatten := by
    rw [ew, List.map_map]
    have : ((fun p : PS => p.1) ∘ fun t => (t, hdT L t)) = id := rfl
    rw [this, List.map_id]
  have wvE : ∀ t ∈ L.flatten, wv (hdAll L) t = hdT L t := fun t ht => by
    unfold wv
    rw [ew, find_map ht]; rfl
  have leE : (((hdAll L).map (·.1)).map fun t => (t, wv (hdAll L) t)).filter (fun p => !seq p.2 p.1) = leadsL L := by
    unfold leadsL
    rw [keys]
    congr 1
    exact List.map_congr_left fun t ht => by rw [wvE t ht]
  have paE : ((fs.filter fun c => !c.b).map fun c => sort2 (wv (hdAll L) c.x) (wv (hdAll L) c.y)) = pairsF L fs := by
    unfold pairsF
    refine List.map_congr_left fun c hc => ?_
    obtain ⟨h1, h2⟩ := K.ins c (List.mem_filter.mp hc).1
    rw [wvE _ h1, wvE _ h2]
  have anE : fs.any (pbad (hdAll L)) = (pairsF L fs).any fun p => seq p.1 p.2 := by
    rw [← paE, List.any_map, List.any_filter]; rfl
  have plE := pfold_eq (hdAll L) fs []
  rw [paE, List.nil_append] at plE
  have pl := pfold_len (hdAll L) fs []
  have hin : ∀ c ∈ fs, c.x ∈ (hdAll L).map (·.1) ∧ c.y ∈ (hdAll L).map (·.1) := fun c hc => by rw [keys]; exact K.ins c hc
  have trw : ∀ t ∈ (hdAll L).map (·.1), Trm (wv (hdAll L) t) := fun t ht => by
    rw [keys] at ht
    rw [wvE t ht]
    obtain ⟨l, h1, h2⟩ := List.mem_flatten.mp (hd_in K.li ht)
    exact tr l h1 _ h2
  obtain ⟨⟨fl, ⟨sl, st⟩⟩, e, q⟩ := hO
  have hw : walkD (.list (lotsD L)) = some (lotsD L) := rfl
  simp [F_law_due, m_law_due, hL]
  have e : fLoop (.nm 3) duI (lotsD L) _ = _ := e
  rw [e]
  cases hc : crowded L with
  | true =>
    rw [hc, if_pos rfl] at q
    have q : fl = .rt (.val .none) := q
    subst q
    simp [knO]
  | false =>
    rw [hc, if_neg Bool.false_ne_true] at q
    obtain ⟨q1, x1, x3, x4, x5, x6, x7, x8, x9, x10, m, h1, h2⟩ := q
    have q1 : fl = .nx := q1
    have h1 : sl = _ := h1
    have h2 : st[m]? = _ := h2
    subst q1 h1
    have lt0 := lt_get h2
    have hd := duL_eq2 (x0 := some (.val (fsD fs))) (x1 := x1) (x3 := x3) (x4 := x4) (x5 := x5) (x6 := x6) (x7 := x7) (x8 := x8) (x9 := x9) (x10 := x10) h2
    rw [leE] at hd
    have hd : mComp [4] (.nm 4) (mWalk (mVar 2)) (tB' (mBin cNe (mBin oIdx (mVar 2) (mVar 4)) (mVar 4))) (mDisp szT (maCons (mVar 4) (maCons (mBin oIdx (mVar 2) (mVar 4)) (maNil)))) _ = _ := hd
    simp [hd]
    generalize hS : st.set m (PyData.dict ((hdAll L).map strP), true) ++ [(PyData.list ((leadsL L).map pairD), false), (PyData.list [], false)] = S
    have g1 : S[m]? = some (.dict ((hdAll L).map strP), true) := by
      rw [← hS, List.getElem?_append_left (by simpa using lt0)]; exact List.getElem?_set_self lt0
    have g2 : S[st.length + 1]? = some (.list [], false) := by
      rw [← hS, List.getElem?_append_right (by simp)]; simp
    have g3 : S[st.length]? = some (.list ((leadsL L).map pairD), false) := by
      rw [← hS, List.getElem?_append_right (by simp)]; simp
    have wf : walkD (fsD fs) = some (fs.map fcD) := rfl
    obtain ⟨⟨fl2, ⟨sl2, st2⟩⟩, e2, q2⟩ := duQ_eq hin trw (by omega) (x0 := some (.val (fsD fs))) (x1 := x1) (x3 := x3) (x4 := x4) (x5 := some (.res st.length)) (x7 := x7) (x8 := x8) (x9 := x9) (x10 := x10) g1 g2 ⟨by omega, g3⟩
    have e2 : fLoop duG duP (fs.map fcD) _ = _ := e2
    simp [wf]
    rw [e2]
    cases ha : fs.any (pbad (hdAll L)) with
    | true =>
      rw [ha, if_pos rfl] at q2
      have q2 : fl2 = .rt (.val .none) := q2
      subst q2
      rw [anE] at ha
      simp [ha, knO]
    | false =>
      rw [ha, if_neg Bool.false_ne_true] at q2
      obtain ⟨q2, x1, x3, x4, x7, x8, x9, x10, m2, k2, fl3, hj, s1, s2, s3⟩ := q2
      have q2 : fl2 = .nx := q2
      have s1 : sl2 = _ := s1
      have s3 : st2[k2]? = _ := s3
      have hj : _ ∧ st2[st.length]? = _ := hj
      subst q2 s1
      rw [anE] at ha
      rw [plE] at s3 pl
      have so1 := sOk_pairs (leadsL L)
      have sp1 := sort_pairs (leadsL L)
      have sp2 := sortSet_pairs (ps := (pairsF L fs).filter fun p => !firstD p.2) (by rw [List.length_nil, Nat.zero_add] at pl; omega)
      have z2 : 2 ≤ sizeLine := sz_le (by decide)
      have ek : knD (dueKn L fs) = .tuple [.tuple (((leadsL L).mergeSort leP).map pairD), .tuple (((ded ((pairsF L fs).filter fun p => !firstD p.2)).mergeSort leP).map pairD)] := rfl
      generalize (pairsF L fs).filter (fun p => !firstD p.2) = PP at *
      have gl : ∀ xs : List (D × Bool), (st2 ++ xs)[k2]? = some (.list (PP.map pairD), false) := fun xs => by rw [List.getElem?_append_left (lt_get s3)]; exact s3
      simp [ha, knO, hj, so1, sp1, gl, sp2, z2]
      exact ek.symm
end Wk

/-! K07g: terms and facts, as the law draws them. -/
namespace Wk
open PySem PySem.Spec PyProof.Rows L2
set_option maxHeartbeats 1000000
/-- a plain name -/
def PL (d : D) : Prop := ∃ s, d = .str s ∧ Sok 8 s ∧ 1 ≤ s.length ∧ allIn LET s = true
theorem pl_hi {s : Str} (h1 : 1 ≤ s.length) (h : allIn LET s = true) : hi s := by
  cases e : s.cps.toList with
  | nil => have := len_cps s; rw [e] at this; simp at this; omega
  | cons c r =>
    refine ⟨c, r, e, ?_⟩
    have := of_decide_eq_true (List.all_eq_true.mp h c (by rw [e]; exact List.mem_cons_self))
    have hd : ∀ x ∈ LET.cps.toList, 97 ≤ x := by decide +kernel
    exact hd c this
def CON : List D := [.str "rule", .str "keep", .str "strike", .str "ask", .str "tell", .str "goal", .str "lead", .str "apart", .str "thing", .str "fired", .str "marks", .str "refused"]
theorem con_pl : ∀ d ∈ CON, PL d := by
  intro d hd
  unfold CON at hd
  simp only [List.mem_cons, List.not_mem_nil, or_false] at hd
  rcases hd with rfl | rfl | rfl | rfl | rfl | rfl | rfl | rfl | rfl | rfl | rfl | rfl <;> exact ⟨_, rfl, by decide +kernel, by decide +kernel, by decide +kernel⟩
theorem some_lt {m : Nat} (h1 : 1 ≤ m) (h12 : m ≤ 12) : Lt (F_law_some.sem [.pen, .val (.int (m : Nat))]) 14 (OutL fun ws => ws.length = m ∧ ∀ d ∈ ws, PL d) := by
  have z10 : 10 ≤ sizeLine := sz_le (by decide)
  have z2 : 2 ≤ sizeLine := sz_le (by decide)
  have z8 : 8 ≤ sizeLine := sz_le (by decide)
  have z12 : 12 ≤ sizeLine := sz_le (by decide)
  simp [F_law_some, m_law_some]
  refine (Lt.drw (c := 13) fun i hi => ?_)
  by_cases hi0 : i = 0
  · simp [hi0, z10, z2, z12]
    refine (Lt.drw (c := 12) fun t ht => ?_)
    have zq : 12 - t + min t 12 ≤ sizeLine := sz_le (by omega)
    simp [z12, cut_to, cut_from, zq]
    refine .ret ⟨_, rfl, ?_, ?_⟩
    · simp; omega
    · intro d hd
      rcases List.mem_append.mp (List.mem_of_mem_take hd) with z | z
      · exact con_pl d (List.mem_of_mem_drop z)
      · exact con_pl d (List.mem_of_mem_take z)
  · simp [hi0, e_comp]
    refine (Lt.drw (c := 12) fun n hn => ?_)
    have b1 : -1000000 ≤ (n : Int) := by omega
    have b2 : (n : Int) ≤ 1000000 := by omega
    simp [b1, b2]
    have hz : Sok 26 "abcdefghijklmnopqrstuvwxyz" := by decide +kernel
    have hl : (Str.ofString "abcdefghijklmnopqrstuvwxyz").cps.toList.length = 26 := by decide +kernel
    have let1 : ∀ c ∈ (Str.ofString "abcdefghijklmnopqrstuvwxyz").cps.toList, Sok 1 ⟨#[c]⟩ ∧ allIn LET ⟨#[c]⟩ = true := fun c hc => ⟨.sign hz.2 hc, List.all_eq_true.mpr fun x hx => decide_eq_true (by rw [show x = c by simpa using hx]; exact hc)⟩
    refine (Lt.bnd (d := 5) (cLoop_ltP (k := 1) (Q := fun d => ∃ s, d = .str s ∧ Sok 1 s ∧ allIn LET s = true) (· = []) (rangeD 0 n) [] _ [] rfl ?_ (by simp)) ?_).mono (by rw [range_len]; omega) fun _ z => z
    · rintro d hd _ rfl
      refine ⟨_, e_tg, ?_⟩
      simp
      refine (Lt.drw (c := 0) fun a ha => ?_)
      obtain ⟨c, hc, hm⟩ := atI_memN (ds := (Str.ofString "abcdefghijklmnopqrstuvwxyz").cps.toList) (j := a) (by rw [hl]; exact ha)
      simp [sz_of hz (by decide), hc]
      exact .ret ⟨_, _, _, rfl, rfl, _, rfl, let1 c hm⟩
    · rintro p ⟨ds', sl', st', rfl, rfl, y1, y2⟩
      rw [range_len] at y1
      simp at y1
      obtain ⟨b, e, hs, hb⟩ := mJoin_in y2 (by omega)
      have hs : Sok 7 b := hs.mono (by omega)
      have e1 : (0 : Int) < (b.length : Int) + 1 := by omega
      have e2 : (b.length : Int) + 1 < 1073741824 := by have := hs.1; omega
      simp [e, sz_of hs (by decide), draw_sem e1 e2]
      refine (Lt.drw (c := 4) fun sp hsp => ?_)
      simp
      refine (Lt.drw (c := 3) fun fi hfi => ?_)
      simp [z8]
      refine (Lt.drw (c := 2) fun j hj => ?_)
      obtain ⟨d, g1, g2⟩ := atI_mem (ds := [.int 1, .int 3, .int 5, .int 7, .int 9, .int 11, .int 15, .int 17]) (j := j) hj
      obtain ⟨stp, rfl, q1, q2⟩ : ∃ k : Int, d = .int k ∧ 0 ≤ k ∧ k ≤ 17 := by
        simp only [List.mem_cons, List.not_mem_nil, or_false] at g2
        rcases g2 with rfl | rfl | rfl | rfl | rfl | rfl | rfl | rfl <;> exact ⟨_, rfl, by decide, by decide⟩
      have b3 : -1000000 ≤ (m : Int) := by omega
      have b4 : (m : Int) ≤ 1000000 := by omega
      simp [g1, b3, b4, e_comp]
      refine (Lt.bnd (d := 0) (cLoop_ltP (k := 0) (Q := PL) (· = [(.list ds', false), (.list [.int 1, .int 3, .int 5, .int 7, .int 9, .int 11, .int 15, .int 17], false)]) (rangeD 0 m) [] _ _ rfl ?_ (by simp)) ?_).mono (by omega) fun _ z => z
      · rintro d hd _ rfl
        obtain ⟨k, hk, rfl⟩ : ∃ k : Nat, k < m ∧ d = .int k := by
          unfold rangeD at hd
          obtain ⟨k, hk, rfl⟩ := List.mem_map.mp hd
          exact ⟨k, List.mem_range.mp hk, by simp⟩
        refine ⟨_, e_tg, ?_⟩
        have hmod := fmod_lt (a := (fi : Int) + stp * k) (n := 26) (by decide)
        obtain ⟨c, hc, hm⟩ : ∃ c, atI (Str.ofString "abcdefghijklmnopqrstuvwxyz").cps.toList (((fi : Int) + stp * k).fmod 26) = some c ∧ c ∈ (Str.ofString "abcdefghijklmnopqrstuvwxyz").cps.toList := by
          obtain ⟨q, hq⟩ := Int.eq_ofNat_of_zero_le hmod.1
          rw [hq]
          exact atI_memN (by rw [hl]; omega)
        have sm : small64 stp = true := by unfold small64; simp; omega
        have l1 := hs.cut none (some (sp : Int))
        have l2 := (let1 c hm).1
        have l3 := hs.cut (some (sp : Int)) none
        have cl1 := cutS_to b sp
        have cl2 := cutS_from b sp
        have fine : PL (.str (cutS b none (some (sp : Int)) ++ ⟨#[c]⟩ ++ cutS b (some (sp : Int)) none)) := by
          have k1 := len_cps (cutS b none (some (sp : Int)))
          have k2 := len_cps (cutS b (some (sp : Int)) none)
          have k3 := len_cps b
          rw [cl1, List.length_take] at k1
          rw [cl2, List.length_drop] at k2
          have k4 := hs.1
          have kl : (cutS b none (some (sp : Int)) ++ ⟨#[c]⟩ ++ cutS b (some (sp : Int)) none).length = b.length + 1 := by
            rw [app_len, app_len, show (⟨#[c]⟩ : Str).length = 1 from rfl]; omega
          refine ⟨_, rfl, ⟨by omega, ((l1.app l2 (Nat.le_refl _)).app l3 (Nat.le_refl _)).2⟩, by omega, List.all_eq_true.mpr fun x hx => ?_⟩
          rw [app_cps, app_cps, cl1, cl2] at hx
          have hb := List.all_eq_true.mp hb
          rcases List.mem_append.mp hx with z | z
          · rcases List.mem_append.mp z with z | z
            · exact hb x (List.mem_of_mem_take z)
            · exact List.all_eq_true.mp (let1 c hm).2 x z
          · exact hb x (List.mem_of_mem_drop z)
        simp [sm, hc, sz_of hz (by decide), sz_of hs (by decide), ln_le l1 l2 (by decide), ln_le (l1.app l2 (Nat.le_refl _)) l3 (by decide)]
        exact .ret ⟨_, _, _, rfl, rfl, fine⟩
      · rintro p ⟨ws, sl'', st'', rfl, rfl, w1, w2⟩
        simp
        exact .ret ⟨_, rfl, by rw [range_len] at w1; simpa using w1, w2⟩

/-- a term: a name or a value -/
def TmS (t : Str) : Prop := Sok 8 t ∧ (hi t ∨ figs t 6 = true)
theorem tm_trm {t : Str} (h : TmS t) : Trm t := by
  refine ⟨h.1.mono (by decide), ?_⟩
  rcases h.2 with ⟨c, r, e, _⟩ | z
  · exact ⟨c, r, e⟩
  · obtain ⟨c, r, e, _⟩ := figs_first z; exact ⟨c, r, e⟩
def TmD (d : D) : Prop := ∃ s, d = .str s ∧ TmS s
theorem pl_tm {d : D} (h : PL d) : TmD d := by
  obtain ⟨s, rfl, h1, h2, h3⟩ := h
  exact ⟨s, rfl, h1, .inl (pl_hi h2 h3)⟩
theorem news_tm : ∀ d ∈ ([.str "~1", .str "~2", .str "~10", .str "~99999"] : List D), TmD d := by
  intro d hd
  simp only [List.mem_cons, List.not_mem_nil, or_false] at hd
  rcases hd with rfl | rfl | rfl | rfl
  · exact ⟨_, rfl, by decide +kernel, .inl ⟨126, [49], by decide +kernel, by decide⟩⟩
  · exact ⟨_, rfl, by decide +kernel, .inl ⟨126, [50], by decide +kernel, by decide⟩⟩
  · exact ⟨_, rfl, by decide +kernel, .inl ⟨126, [49, 48], by decide +kernel, by decide⟩⟩
  · exact ⟨_, rfl, by decide +kernel, .inl ⟨126, [57, 57, 57, 57, 57], by decide +kernel, by decide⟩⟩
theorem vals_tm : ∀ d ∈ ([.str "0", .str "17", .str "5", .str "999999"] : List D), TmD d := by
  intro d hd
  simp only [List.mem_cons, List.not_mem_nil, or_false] at hd
  rcases hd with rfl | rfl | rfl | rfl <;> exact ⟨_, rfl, by decide +kernel, .inr (by decide +kernel)⟩
theorem terms_lt : Lt (F_law_terms_here.sem [.pen]) 30 (OutL fun ds => 1 ≤ ds.length ∧ ds.length ≤ 13 ∧ ∀ d ∈ ds, TmD d) := by
  have z4 : 4 ≤ sizeLine := sz_le (by decide)
  simp [F_law_terms_here, m_law_terms_here]
  refine (Lt.drw (c := 29) fun i hi5 => ?_)
  have e1 : (1 : Int) + (i : Int) = ((1 + i : Nat) : Int) := by omega
  simp
  rw [e1]
  refine (Lt.bnd (c := 14) (d := 15) (some_lt (m := 1 + i) (by omega) (by omega)) ?_)
  rintro o ⟨ws, rfl, hl, hw⟩
  simp [z4]
  refine (Lt.drw (c := 14) fun j hj => ?_)
  simp [z4, cut_to]
  refine (Lt.drw (c := 13) fun k hk => ?_)
  have lN := List.length_take_le j ([.str "~1", .str "~2", .str "~10", .str "~99999"] : List D)
  have lV := List.length_take_le k ([.str "0", .str "17", .str "5", .str "999999"] : List D)
  have tN : ∀ d ∈ ([.str "~1", .str "~2", .str "~10", .str "~99999"] : List D).take j, TmD d := fun d hd => news_tm d (List.mem_of_mem_take hd)
  have tV : ∀ d ∈ ([.str "0", .str "17", .str "5", .str "999999"] : List D).take k, TmD d := fun d hd => vals_tm d (List.mem_of_mem_take hd)
  have lN2 : (([.str "~1", .str "~2", .str "~10", .str "~99999"] : List D).take j).length ≤ 4 := by rw [List.length_take]; simp; omega
  have lV2 : (([.str "0", .str "17", .str "5", .str "999999"] : List D).take k).length ≤ 4 := by rw [List.length_take]; simp; omega
  have cV := cut_to ([.str "0", .str "17", .str "5", .str "999999"] : List D) k
  generalize ([.str "~1", .str "~2", .str "~10", .str "~99999"] : List D).take j = N at *
  generalize ([.str "0", .str "17", .str "5", .str "999999"] : List D).take k = V at *
  have zz1 : ws.length + N.length ≤ sizeLine := sz_le (by omega)
  have zz2 : ws.length + N.length + V.length ≤ sizeLine := sz_le (by omega)
  have zz3 : ws.length + (N.length + V.length) ≤ sizeLine := sz_le (by omega)
  have hT : ∀ d ∈ ws ++ (N ++ V), TmD d := fun d hd => by
    rcases List.mem_append.mp hd with z | z
    · exact pl_tm (hw d z)
    · rcases List.mem_append.mp z with z | z
      · exact tN d z
      · exact tV d z
  have hn : (ws ++ (N ++ V)).length = ws.length + (N.length + V.length) := by simp
  simp [zz1, zz2, zz3, e_comp, cV]
  generalize hG : ws ++ (N ++ V) = G at *
  have lG : G.length ≤ 13 := by rw [hn]; omega
  have n1 : -1000000 ≤ (ws.length : Int) + ((N.length : Int) + (V.length : Int)) := by omega
  have n2 : (ws.length : Int) + ((N.length : Int) + (V.length : Int)) ≤ 1000000 := by omega
  have n3 : ((ws.length : Int) + ((N.length : Int) + (V.length : Int))).toNat = G.length := by rw [hn]; omega
  simp [n1, n2, n3]
  refine (Lt.bnd (c := 13) (d := 0) (Lt.mono (cLoop_ltN (k := 1) (Q := TmD) (fun n st => ∃ ds : List D, st[6]? = some (.list ds, false) ∧ ds.length = n ∧ ∀ d ∈ ds, TmD d) (rangeD 0 G.length) [] _ _ ⟨G, rfl, by rw [range_len], hT⟩ ?_ nofun) (by rw [range_len]; omega) fun _ z => z) ?_).mono (by decide) fun _ z => z
  · rintro n d _ st hn ⟨ds, h6, hl, ht⟩
    refine ⟨_, e_tg, ?_⟩
    rw [range_len] at hn
    have p0 : (0 : Int) < (ds.length : Int) := by omega
    have p1 : (ds.length : Int) < 1073741824 := by omega
    simp [h6, draw_sem p0 p1]
    refine (Lt.drw (c := 0) fun m hm => ?_)
    have q0 : ds[m]? = some ds[m] := List.getElem?_eq_getElem hm
    have q1 : -9223372036854775808 ≤ (m : Int) := by omega
    have q2 : (m : Int) < 9223372036854775808 := by omega
    have q3 := lt_get h6
    simp [ixN_nat hm, h6, q1, q2, hm]
    refine .ret ⟨_, _, _, rfl, ⟨_, List.getElem?_set_self q3, ?_, ?_⟩, ht _ (List.getElem_mem hm)⟩
    · rw [List.length_eraseIdx_of_lt hm]; omega
    · exact fun x hx => ht x (List.mem_of_mem_eraseIdx hx)
  · rintro p ⟨ds, sl, st, rfl, ⟨_, _, _⟩, h1, h2⟩
    rw [range_len] at h1
    have h1 : ds.length = G.length := by simpa using h1
    simp
    exact .ret ⟨_, rfl, by omega, by omega, h2⟩

/-! ### facts -/
abbrev fxB : MS := sSeq (sSet 5 (mBin oIdx (mDisp szL (maCons (mC (.str "same")) (maCons (mC (.str "same")) (maCons (mC (.str "unlike")) (maNil))))) (mOwn F_law_draw (maCons (mVar 0) (maCons (mC (.int 3)) (maNil))))))
  (sSeq (sSet 6 (mBin oIdx (mVar 1) (mOwn F_law_draw (maCons (mVar 0) (maCons (mCall (f1 bLen) (maCons (mVar 1) (maNil))) (maNil))))))
  (sSeq (sSet 7 (mBin oIdx (mVar 1) (mOwn F_law_draw (maCons (mVar 0) (maCons (mCall (f1 bLen) (maCons (mVar 1) (maNil))) (maNil))))))
  (sSeq (sSet 8 (mDisp szT (maCons (mVar 5) (maCons (mVar 6) (maCons (mVar 7) (maNil))))))
  (sSeq (sIf (mtAnd (tB' (mBin cNe (mVar 3) (mDisp szL (maNil)))) (tB' (mBin cEq (mOwn F_law_draw (maCons (mVar 0) (maCons (mC (.int 6)) (maNil)))) (mC (.int 0)))))
  (sSeq (sSet 9 (mBin oIdx (mVar 3) (mOwn F_law_draw (maCons (mVar 0) (maCons (mCall (f1 bLen) (maCons (mVar 3) (maNil))) (maNil))))))
  (sSeq (sSet 8 (mDisp szT (maCons (mBin oIdx (mVar 9) (mC (.int 0))) (maCons (mBin oIdx (mVar 9) (mC (.int 2))) (maCons (mBin oIdx (mVar 9) (mC (.int 1))) (maNil))))))
  (sNil)))
  (sNil))
  (sSeq (sDrop (mMtd roT muT "append" (mVar 3) (maCons (mVar 8) (maNil))))
  (sNil))))))
structure FxI (ts : List Str) (x2 : Option Rv) (j : Nat) (ρ : En) : Prop where
  h : ∃ (m : Nat) (x4 x5 x6 x7 x8 x9 : Option Rv) (st : List (D × Bool)) (fs : List Fc), ρ = ⟨[some .pen, some (.val (.list (ts.map .str))), x2, some (.res m), x4, x5, x6, x7, x8, x9], st⟩ ∧ st[m]? = some (.list (fs.map fcD), false) ∧ fs.length = j ∧ ∀ c ∈ fs, c.x ∈ ts ∧ c.y ∈ ts
theorem fx_turn {ts : List Str} (l0 : 0 < ts.length) (l1 : ts.length < 1000) {x2 : Option Rv} {j : Nat} (hj : j < 1000) {d : D} {m : Nat} {x5 x6 x7 x8 x9 : Option Rv} {st : List (D × Bool)} {fs : List Fc} (h0 : st[m]? = some (.list (fs.map fcD), false)) (hl : fs.length = j) (hf : ∀ c ∈ fs, c.x ∈ ts ∧ c.y ∈ ts) :
    Lt (fxB ⟨[some .pen, some (.val (.list (ts.map .str))), x2, some (.res m), some (.val d), x5, x6, x7, x8, x9], st⟩) 5 (fun p => match p.1 with | .nx => FxI ts x2 (j + 1) p.2 | .ct => FxI ts x2 (j + 1) p.2 | .bk => False | .rt _ => False) := by
  have z3 : 3 ≤ sizeLine := sz_le (by decide)
  have z0 : 0 ≤ sizeLine := Nat.zero_le _
  have zf : fs.length < sizeLine := by rw [sizeLine_eq]; omega
  have p0 : (0 : Int) < (ts.length : Int) := by omega
  have p1 : (ts.length : Int) < 1073741824 := by omega
  have ltm := lt_get h0
  have g0 : ∀ xs : List (D × Bool), (st ++ xs)[m]? = some (.list (fs.map fcD), false) := fun xs => by rw [List.getElem?_append_left ltm]; exact h0
  have sEnd : ∀ (xs : List (D × Bool)) (c : Fc), ((st ++ xs).set m (.list (fs.map fcD ++ [fcD c]), false))[m]? = some (.list ((fs ++ [c]).map fcD), false) := fun xs c => by
    rw [List.getElem?_set_self (by rw [List.length_append]; omega), List.map_append]; rfl
  simp [z3]
  refine (Lt.drw (c := 4) fun i hi => ?_)
  obtain ⟨wd, g1, g2⟩ := atI_mem (ds := [.str "same", .str "same", .str "unlike"]) (j := i) hi
  obtain ⟨b, rfl⟩ : ∃ b, wd = .str (wordS b) := by
    simp only [List.mem_cons, List.not_mem_nil, or_false] at g2
    rcases g2 with rfl | rfl | rfl
    · exact ⟨true, rfl⟩
    · exact ⟨true, rfl⟩
    · exact ⟨false, rfl⟩
  simp [g1, draw_sem p0 p1]
  refine (Lt.drw (c := 3) fun ix hx => ?_)
  obtain ⟨x, mx, ax⟩ := atI_str (ts := ts) (j := ix) (by simpa using hx)
  simp [ax, draw_sem p0 p1]
  refine (Lt.drw (c := 2) fun iy hy => ?_)
  obtain ⟨y, my, ay⟩ := atI_str (ts := ts) (j := iy) (by simpa using hy)
  have hfc : PyData.tuple [.str (wordS b), .str x, .str y] = fcD ⟨b, x, y⟩ := rfl
  simp [ay, z3, g0, z0]
  cases fs with
  | nil =>
    simp [g0, zf]
    refine .ret ⟨m, _, _, _, _, _, _, _, [⟨b, x, y⟩], rfl, sEnd _ ⟨b, x, y⟩, by simp [← hl], fun c hc => by rw [List.mem_singleton.mp hc]; exact ⟨mx, my⟩⟩
  | cons c0 fr =>
    simp [g0, zf]
    refine (Lt.drw (c := 1) fun i6 h6 => ?_)
    have p2 : (0 : Int) < (fr.length : Int) + 1 := by omega
    have p3 : (fr.length : Int) + 1 < 1073741824 := by rw [List.length_cons] at hl; omega
    have zf2 : fr.length + 1 < sizeLine := zf
    by_cases h60 : i6 = 0
    · simp [h60, g0, draw_sem p2 p3]
      refine (Lt.drw (c := 0) fun e he => ?_)
      obtain ⟨ed, e1, e2⟩ := atI_mem (ds := (c0 :: fr).map fcD) (j := e) (by rw [List.length_map, List.length_cons]; omega)
      obtain ⟨ec, hec, rfl⟩ := List.mem_map.mp e2
      have i0 : oIdx (fcD ec) (.int 0) = .v (.str (wordS ec.b)) := rfl
      have i1 : oIdx (fcD ec) (.int 1) = .v (.str ec.x) := rfl
      have i2 : oIdx (fcD ec) (.int 2) = .v (.str ec.y) := rfl
      have e1 : atI (fcD c0 :: fr.map fcD) (e : Int) = some (fcD ec) := e1
      have g0 : ∀ xs : List (D × Bool), (st ++ xs)[m]? = some (.list (fcD c0 :: fr.map fcD), false) := g0
      simp [g0, e1, i0, i1, i2, z3, zf2]
      refine .ret ⟨m, _, _, _, _, _, _, _, (c0 :: fr) ++ [⟨ec.b, ec.y, ec.x⟩], rfl, sEnd _ ⟨ec.b, ec.y, ec.x⟩, by simp [← hl], fun c hc => ?_⟩
      rcases List.mem_append.mp hc with z | z
      · exact hf c z
      · rw [List.mem_singleton.mp z]; exact ⟨(hf ec hec).2, (hf ec hec).1⟩
    · have g0 : ∀ xs : List (D × Bool), (st ++ xs)[m]? = some (.list (fcD c0 :: fr.map fcD), false) := g0
      simp [h60, g0, zf2]
      refine .ret ⟨m, _, _, _, _, _, _, _, (c0 :: fr) ++ [⟨b, x, y⟩], rfl, sEnd _ ⟨b, x, y⟩, by simp [← hl], fun c hc => ?_⟩
      rcases List.mem_append.mp hc with z | z
      · exact hf c z
      · rw [List.mem_singleton.mp z]; exact ⟨mx, my⟩
theorem facts_lt {ts : List Str} (l0 : 0 < ts.length) (l1 : ts.length < 1000) {n : Nat} (hn : n < 1000) : Lt (F_law_facts.sem [.pen, .val (.list (ts.map .str)), .val (.int (n : Nat))]) (n * 5) (OutL fun ds => ∃ fs : List Fc, ds = fs.map fcD ∧ fs.length = n ∧ ∀ c ∈ fs, c.x ∈ ts ∧ c.y ∈ ts) := by
  have b1 : -1000000 ≤ (n : Int) := by omega
  have b2 : (n : Int) ≤ 1000000 := by omega
  simp [F_law_facts, m_law_facts, b1, b2]
  have hh := fLoop_ltI (k := 5) (g := .nm 4) (body := fxB) (fun j ρ => FxI ts (some (.val (.int (n : Nat)))) j ρ) (R := fun p => p.1 = .nx ∧ FxI ts (some (.val (.int (n : Nat)))) n p.2) (rangeD 0 n) 0 ⟨[some .pen, some (.val (.list (ts.map .str))), some (.val (.int (n : Nat))), some (.res 0), none, none, none, none, none, none], [(.list [], false)]⟩
    ⟨0, _, _, _, _, _, _, _, [], rfl, rfl, rfl, nofun⟩ (fun j _ hj d hd ρ I => by
      rw [range_len] at hj
      obtain ⟨m, x4, x5, x6, x7, x8, x9, st, fs, rfl, h1, h2, h3⟩ := I.h
      refine ⟨_, e_tg, ?_⟩
      refine (fx_turn l0 l1 (j := j) (by omega) h1 h2 h3).mono (Nat.le_refl _) fun p hp => ?_
      obtain ⟨fl, ρ⟩ := p
      cases fl with
      | nx => exact hp
      | ct => exact hp
      | bk => exact hp.elim
      | rt r => exact hp.elim) (fun ρ I => ⟨rfl, by rw [range_len, Nat.zero_add] at I; exact I⟩)
  rw [range_len] at hh
  refine (Lt.bnd (d := 0) hh ?_).mono (Nat.le_refl _) fun _ z => z
  rintro ⟨fl, ρ⟩ ⟨e, I⟩
  have e : fl = .nx := e
  subst e
  obtain ⟨m, x4, x5, x6, x7, x8, x9, st, fs, rfl, h1, h2, h3⟩ := I.h
  simp [h1]
  exact .ret ⟨_, rfl, fs, rfl, h2, h3⟩
end Wk

/-! K07h: the law as a whole. -/
namespace Wk
open PySem PySem.Spec PyProof.Rows L2
set_option maxHeartbeats 1000000
theorem perm_len {l : List PS} : (l.mergeSort leP).length = l.length := List.length_mergeSort _
theorem foldl_len : ∀ (l acc : List PS), (l.foldl addP acc).length ≤ acc.length + l.length
  | [], acc => by simp
  | p :: l, acc => by
    have := foldl_len l (addP acc p)
    have := addP_len acc p
    rw [List.foldl_cons, List.length_cons]; omega
theorem sk_told {n : Nat} {k k' : Kn} (h : SK n k) {b : Bool} {x y : Str} (hx : Sok 40 x) (hy : Sok 40 y) (e : toldK k b x y = some k') : SK (n + 1) k' := by
  have hs := heads_sok h hx hy
  unfold toldK at e
  split at e
  · cases e; exact ⟨h.l, h.u, Nat.le_succ_of_le h.nl, Nat.le_succ_of_le h.nu⟩
  · generalize headsK k x y = p at *
    cases b with
    | true =>
      simp only [if_true] at e
      split at e
      · cases e
      · cases e
        have rs : ∀ {t : Str}, Sok 40 t → Sok 40 (ren p.1 p.2 t) := fun {t} ht => by unfold ren; split <;> first | exact hs.1 | exact ht
        unfold madeK
        refine ⟨fun q hq => ?_, fun q hq => ?_, ?_, ?_⟩
        · have hq := mem_sort.mp hq
          rcases List.mem_append.mp hq with z | z
          · obtain ⟨r, hr, rfl⟩ := List.mem_map.mp z
            exact ⟨(h.l r hr).1, rs (h.l r hr).2⟩
          · rw [List.mem_singleton.mp z]; exact ⟨hs.2, hs.1⟩
        · obtain ⟨r, hr, rfl, _⟩ := mem_led.mp (mem_sort.mp hq)
          exact sort2_sok (rs (h.u r hr).1) (rs (h.u r hr).2)
        · rw [perm_len, List.length_append, List.length_map]; exact Nat.succ_le_succ h.nl
        · rw [perm_len]
          unfold ledL
          refine Nat.le_trans (foldl_len _ _) ?_
          have := List.length_filter_le (fun p => !twoV p) (k.u.map (ledP p.1 p.2))
          rw [List.length_map] at this
          have := h.nu
          simp; omega
    | false =>
      simp only [Bool.false_eq_true, if_false] at e
      split at e
      · cases e
      · cases e
        refine ⟨h.l, fun q hq => ?_, Nat.le_succ_of_le h.nl, ?_⟩
        · rcases List.mem_append.mp (mem_sort.mp hq) with z | z
          · exact h.u q z
          · rw [List.mem_singleton.mp z]; exact hs
        · rw [perm_len, List.length_append]; exact Nat.succ_le_succ h.nu

/-! ### what is known is shown -/
theorem oks_of {W n : Nat} : ∀ {ds : List D}, (∀ d ∈ ds, Ok W n d) → Oks (ds.length * (W + 1)) n ds
  | [], _ => Oks.nil.mono (Nat.zero_le _) (Nat.zero_le _)
  | d :: ds, h => (Oks.cons (h d (.head _)) (oks_of fun e he => h e (.tail _ he))).mono (by rw [List.length_cons, Nat.add_mul]; omega) (Nat.le_refl _)
theorem oks_nil (n : Nat) : Oks 0 n [] := Oks.nil.mono (Nat.le_refl _) (Nat.zero_le _)
theorem two_ok {a b : Str} (ha : Sok 40 a) (hb : Sok 40 b) : Ok 82 1 (.tuple [.str a, .str b]) := Ok.tuple (Oks.cons (Ok.str ha) (Oks.cons (Ok.str hb) Oks.nil))
theorem kn_ok {n : Nat} {k : Kn} (h : SK n k) (hn : n ≤ 100) : Ok 20000 3 (knD k) := by
  have key : ∀ ps : List PS, (∀ p ∈ ps, Sok 40 p.1 ∧ Sok 40 p.2) → ps.length ≤ 100 → Ok 8300 2 (.tuple (ps.map pairD)) := fun ps h hl => by
    have := oks_of (W := 82) (n := 1) (ds := ps.map pairD) fun d hd => by
      obtain ⟨p, hp, rfl⟩ := List.mem_map.mp hd
      exact two_ok (h p hp).1 (h p hp).2
    exact Ok.tuple (this.mono (by rw [List.length_map]; omega) (Nat.le_refl _))
  have hl := h.nl
  have hu := h.nu
  exact (Ok.tuple (Oks.cons (key k.l h.l (by omega)) (Oks.cons (key k.u h.u (by omega)) (oks_nil _)))).mono (by decide) (Nat.le_refl _)
theorem none_ok (n : Nat) : Ok 20000 n (.none : D) := (by decide +kernel : Ok 20000 0 (.none : D)).mono (Nat.le_refl _) (Nat.zero_le _)
theorem fc_ok {c : Fc} (h : Sok 40 c.x ∧ Sok 40 c.y) : Ok 200 1 (fcD c) := by
  have hw : Sok 6 (wordS c.b) := by cases c.b <;> decide +kernel
  exact (Ok.tuple (Oks.cons (Ok.str hw) (Oks.cons (Ok.str h.1) (Oks.cons (Ok.str h.2) Oks.nil)))).mono (by decide) (Nat.le_refl _)
/-! ### terms -/
theorem zs_ok {ts : List Str} (h : ∀ t ∈ ts, TmS t) : ∃ Z : Tms, TmOk Z ∧ ∀ t ∈ ts, Z.T t := by
  refine ⟨⟨ts.filter fun t => !figs t 6, ts.filter fun t => figs t 6⟩, ⟨fun t ht => ?_, fun t ht => ?_⟩, fun t ht => ?_⟩
  · obtain ⟨h1, h2⟩ := List.mem_filter.mp ht
    rcases (h t h1).2 with z | z
    · exact z
    · rw [z] at h2; cases h2
  · exact (List.mem_filter.mp ht).2
  · cases e : figs t 6 with
    | true => exact .inr (List.mem_filter.mpr ⟨ht, e⟩)
    | false => exact .inl (List.mem_filter.mpr ⟨ht, by simp [e]⟩)
theorem run_snoc (fs : List Fc) (c : Fc) : runK (fs ++ [c]) = toldO (runK fs) c := by
  unfold runK runO
  rw [List.foldl_append]; rfl
theorem run_sk : ∀ (fs : List Fc) (n : Nat) (k : Kn), SK n k → SokF fs → ∀ k', runO (some k) fs = some k' → SK (n + fs.length) k'
  | [], n, k, h, _, k', e => by cases e; exact h
  | c :: fs, n, k, h, s, k', e => by
    have e : runO (toldO (some k) c) fs = some k' := e
    cases q : toldO (some k) c with
    | none => rw [q, run_none] at e; cases e
    | some k1 =>
      rw [q] at e
      have := run_sk fs (n + 1) k1 (sk_told h (s c (.head _)).1 (s c (.head _)).2 q) (fun d hd => s d (.tail _ hd)) k' e
      rw [List.length_cons, show n + (fs.length + 1) = n + 1 + fs.length by omega]; exact this
theorem runK_sk {fs : List Fc} (s : SokF fs) {k : Kn} (e : runK fs = some k) : SK fs.length k := by
  have := run_sk fs 0 ⟨[], []⟩ ⟨nofun, nofun, Nat.zero_le _, Nat.zero_le _⟩ s k e
  rwa [Nat.zero_add] at this
theorem told_none_eq (d : D) : F_told.sem [.val .none, .val d] = .ret ⟨.val .none, []⟩ := by
  have : cIs .none .none = .v (.bool true) := rfl
  simp [F_told, m_told, this]
/-! ### one fact more -/
abbrev hB : MS := sSeq (sSet 7 (mOwn F_law_due (maCons (mSlice oSl (mVar 4) none (some (mBin oAdd (mVar 6) (mC (.int 1))))) (maNil))))
  (sSeq (sIf (tB' (mBin cIs (mVar 5) (mC .none)))
  (sSeq (sSet 7 (mC .none))
  (sNil))
  (sNil))
  (sSeq (sSet 8 (mCall (f1 bRepr) (maCons (mDisp szT (maCons (mVar 5) (maCons (mBin oIdx (mVar 4) (mVar 6)) (maNil)))) (maNil))))
  (sSeq (sSet 9 (mOwn F_told (maCons (mVar 5) (maCons (mBin oIdx (mVar 4) (mVar 6)) (maNil)))))
  (sSeq (sIf (mtOr (tB' (mBin cNe (mCall (f1 bRepr) (maCons (mVar 9) (maNil))) (mCall (f1 bRepr) (maCons (mVar 7) (maNil))))) (tB' (mBin cNe (mCall (f1 bRepr) (maCons (mDisp szT (maCons (mVar 5) (maCons (mBin oIdx (mVar 4) (mVar 6)) (maNil)))) (maNil))) (mVar 8))))
  (sSeq (sRet (mC (.bool false)))
  (sNil))
  (sNil))
  (sSeq (sSet 5 (mVar 9))
  (sNil))))))
structure HvI (ts : List Str) (fs : List Fc) (x0 x1 : Option Rv) (j : Nat) (ρ : En) : Prop where
  h : ∃ (a f : Nat) (x6 x7 x8 x9 : Option Rv) (st : List (D × Bool)) (f1 f2 : Bool), ρ = ⟨[x0, x1, some .pen, some (.res a), some (.res f), some (.val (knO (runK (fs.take j)))), x6, x7, x8, x9], st⟩ ∧ st[a]? = some (.list (ts.map .str), f1) ∧ st[f]? = some (.list (fs.map fcD), f2)
theorem hv_turn {ts : List Str} (tt : ∀ t ∈ ts, TmS t) {fs : List Fc} (hl : fs.length ≤ 12) (hf : ∀ c ∈ fs, c.x ∈ ts ∧ c.y ∈ ts) {x0 x1 : Option Rv} {j : Nat} (hj : j < fs.length) {a f : Nat} {x7 x8 x9 : Option Rv} {st : List (D × Bool)} {f1 f2 : Bool} (ha : st[a]? = some (.list (ts.map .str), f1)) (hb : st[f]? = some (.list (fs.map fcD), f2)) :
    Rets (hB ⟨[x0, x1, some .pen, some (.res a), some (.res f), some (.val (knO (runK (fs.take j)))), some (.val (.int (j : Nat))), x7, x8, x9], st⟩) (fun p => p.1 = .nx ∧ HvI ts fs x0 x1 (j + 1) p.2) := by
  obtain ⟨Z, O, hZ⟩ := zs_ok tt
  have sk : SokF fs := fun c hc => ⟨(tt _ (hf c hc).1).1.mono (by decide), (tt _ (hf c hc).2).1.mono (by decide)⟩
  have F : FcT Z fs := fun c hc => ⟨hZ _ (hf c hc).1, hZ _ (hf c hc).2⟩
  have sub : ∀ i, ∀ c ∈ fs.take i, c ∈ fs := fun i c hc => List.mem_of_mem_take hc
  obtain ⟨c, hc⟩ : ∃ c, fs[j]? = some c := ⟨_, List.getElem?_eq_getElem hj⟩
  have hcm : c ∈ fs := List.mem_of_getElem? hc
  have hd := due_eq (fs := fs.take (j + 1)) (by rw [List.length_take]; omega) fun c hc => ⟨tm_trm (tt _ (hf c (sub _ c hc)).1), tm_trm (tt _ (hf c (sub _ c hc)).2)⟩
  rw [← run_due O fun c hc => F c (sub _ c hc)] at hd
  have et : fs.take (j + 1) = fs.take j ++ [c] := by rw [List.take_add_one, hc]; rfl
  unfold fsD at hd
  rw [List.map_take] at hd
  have hi : atI (fs.map fcD) (j : Int) = some (fcD c) := by rw [atI_nat, List.getElem?_map, hc]; rfl
  have e2 : ∀ ds : List D, cutD ds none (some ((j : Int) + 1)) = ds.take (j + 1) := fun ds => by
    rw [show (j : Int) + 1 = ((j + 1 : Nat) : Int) by omega]; exact cut_to ds _
  have z2 : 2 ≤ sizeLine := sz_le (by decide)
  have ltb := lt_get hb
  have lta := lt_get ha
  have gb : ∀ xs : List (D × Bool), (st ++ xs)[f]? = some (.list (fs.map fcD), f2) := fun xs => by rw [List.getElem?_append_left ltb]; exact hb
  have ga : ∀ xs : List (D × Bool), (st ++ xs)[a]? = some (.list (ts.map .str), f1) := fun xs => by rw [List.getElem?_append_left lta]; exact ha
  have gs : ∀ x, (st ++ [x]).set st.length (.list ((fs.map fcD).take (j + 1)), true) = st ++ [(.list ((fs.map fcD).take (j + 1)), true)] := fun x => by simp
  have hend := run_snoc (fs.take j) c
  rw [← et] at hend
  have ok1 : ∀ i K, runK (fs.take i) = K → Ok 20000 3 (knO K) := fun i K e => by
    cases K with
    | none => exact none_ok 3
    | some k => exact kn_ok (runK_sk (fun c hc => sk c (sub _ c hc)) e) (by rw [List.length_take]; omega)
  have r1 := (ok1 (j + 1) _ rfl).repr (by decide) (by decide)
  have r2 := (Ok.tuple (Oks.cons (ok1 j _ rfl) (Oks.cons ((fc_ok (sk c hcm)).mono (Nat.le_refl _) (by decide)) (oks_nil _)))).repr (by decide) (by decide)
  have r0 : reprOk .none = true := (none_ok 0).repr (by decide) (by decide)
  cases e : runK (fs.take j) with
  | none =>
    rw [e] at hend r2
    have e3 : runK (fs.take (j + 1)) = none := hend
    rw [e3] at hd r1
    have isn : cIs .none .none = .v (.bool true) := rfl
    have ht := told_none_eq (fcD c)
    unfold knO at *
    simp [hb, e2, gb, hd, isn, hi, z2, r2, ht, r0]
    exact ⟨a, f, _, _, _, _, _, f1, f2, by rw [e3]; rfl, ga _, gb _⟩
  | some k =>
    have skk := runK_sk (fun c hc => sk c (sub j c hc)) e
    have ht := toldF_eq skk c.b (sk c hcm).1 (sk c hcm).2 (by rw [List.length_take]; omega)
    have isn : cIs (knD k) .none = .v (.bool false) := rfl
    rw [e] at hend r2
    have hend : runK (fs.take (j + 1)) = toldK k c.b c.x c.y := hend
    rw [← hend] at ht
    have ht : F_told.sem [.val (knD k), .val (fcD c)] = _ := ht
    have r2 : reprOk (.tuple [knD k, fcD c]) = true := r2
    have fin : ∀ (x6 x7 x8 x9 : Option Rv) (xs : List (D × Bool)), HvI ts fs x0 x1 (j + 1) ⟨[x0, x1, some .pen, some (.res a), some (.res f), some (.val (knO (runK (fs.take (j + 1))))), x6, x7, x8, x9], st ++ xs⟩ := fun x6 x7 x8 x9 xs => ⟨a, f, _, _, _, _, _, f1, f2, rfl, ga _, gb _⟩
    generalize knO (runK (fs.take (j + 1))) = K1 at *
    have ek : knO (some k) = knD k := rfl
    rw [ek]
    generalize knD k = kd at *
    simp [hb, e2, gb, hd, isn, hi, z2, r2, ht, r1]
    exact fin _ _ _ _ _
/-! ### one pen -/
structure Any10 (ρ : En) : Prop where
  h : ∃ y1 y2 y3 y4 y5 y6 y7 y8 y9 st, ρ = ⟨[some .scr, y1, y2, y3, y4, y5, y6, y7, y8, y9], st⟩
abbrev hBody : MS := sSeq (sSet 3 (mOwn F_law_terms_here (maCons (mVar 2) (maNil))))
  (sSeq (sSet 4 (mOwn F_law_facts (maCons (mVar 2) (maCons (mVar 3) (maCons (mOwn F_law_draw (maCons (mVar 2) (maCons (mC (.int 13)) (maNil)))) (maNil))))))
  (sSeq (sSet 5 (mDisp szT (maCons (mDisp szT (maNil)) (maCons (mDisp szT (maNil)) (maNil)))))
  (sSeq (sFor (.nm 6) (mRange1 (mCall (f1 bLen) (maCons (mVar 4) (maNil)))) hB)
  (sSeq (sIf (tB' (mBin cIsNot (mOwn F_told (maCons (mC .none) (maCons (mDisp szT (maCons (mC (.str "same")) (maCons (mBin oIdx (mVar 3) (mC (.int 0))) (maCons (mBin oIdx (mVar 3) (mC (.int 0))) (maNil))))) (maNil)))) (mC .none)))
  (sSeq (sRet (mC (.bool false)))
  (sNil))
  (sNil))
  (sNil)))))
theorem body_lt {x1 y3 y4 y5 y6 y7 y8 y9 : Option Rv} {st : List (D × Bool)} :
    Lt (hBody ⟨[some .scr, x1, some .pen, y3, y4, y5, y6, y7, y8, y9], st⟩) 100 (fun p => p.1 = .nx ∧ Any10 p.2) := by
  have z0 : 0 ≤ sizeLine := Nat.zero_le _
  have z2 : 2 ≤ sizeLine := sz_le (by decide)
  have z3 : 3 ≤ sizeLine := sz_le (by decide)
  unfold hBody
  generalize hHB : hB = HB
  simp
  refine (Lt.bnd (c := 30) (d := 70) terms_lt ?_).mono (by decide) fun _ z => z
  rintro o ⟨ds, rfl, l0, l1, hT⟩
  obtain ⟨ts, rfl, tt⟩ := strs_of hT
  rw [List.length_map] at l0 l1
  simp
  refine (Lt.drw (c := 69) fun n hn => ?_).mono (by decide) fun _ z => z
  simp
  refine (Lt.bnd (c := n * 5) (d := 0) (facts_lt (ts := ts) (by omega) (by omega) (n := n) (by omega)) ?_).mono (by omega) fun _ z => z
  rintro o ⟨ds, rfl, fs, rfl, hl, hf⟩
  have b1 : -1000000 ≤ (fs.length : Int) := by omega
  have b2 : (fs.length : Int) ≤ 1000000 := by omega
  simp [z2, z0, b1, b2]
  generalize hS : st ++ [(PyData.list (ts.map .str), true), (PyData.list (fs.map fcD), false)] = S
  have ga : S[st.length]? = some (.list (ts.map .str), true) := by rw [← hS, List.getElem?_append_right (Nat.le_refl _)]; simp
  have gb : S[st.length + 1]? = some (.list (fs.map fcD), false) := by rw [← hS, List.getElem?_append_right (by omega)]; simp
  have hh := fLoop_ltN (k := 0) (g := .nm 6) (body := HB) (fun j ρ => HvI ts fs (some .scr) x1 j ρ) (fun _ _ => False) (rangeD 0 fs.length) 0 ⟨[some .scr, x1, some .pen, some (.res st.length), some (.res (st.length + 1)), some (.val (.tuple [.tuple [], .tuple []])), y6, y7, y8, y9], S⟩
    ⟨_, _, _, _, _, _, _, _, _, rfl, ga, gb⟩ (fun j d hd ρ I => by
      obtain ⟨rfl, hj⟩ := range_get hd
      rw [Nat.zero_add] at I ⊢
      obtain ⟨a, f, x6, x7, x8, x9, st, f1, f2, rfl, h1, h2⟩ := I.h
      refine ⟨_, e_tg, ?_⟩
      subst hHB
      refine (hv_turn tt (by omega) hf hj h1 h2).lt 0 |>.mono (Nat.le_refl _) fun p hp => ?_
      obtain ⟨fl, ρ⟩ := p
      obtain ⟨q1, q2⟩ := hp
      have q1 : fl = .nx := q1
      subst q1
      exact q2)
  rw [range_len, Nat.zero_add] at hh
  refine (Lt.bnd (d := 0) hh ?_).mono (by omega) fun _ z => z
  rintro ⟨fl, ρ⟩ I
  cases fl with
  | ct => exact I.elim
  | bk => exact I.elim
  | rt r => exact I.elim
  | nx =>
    obtain ⟨a, f, x6, x7, x8, x9, st, f1, f2, rfl, h1, h2⟩ := HvI.h I
    obtain ⟨t0, ht0⟩ : ∃ t0, ts[0]? = some t0 := ⟨_, List.getElem?_eq_getElem (by omega)⟩
    have i0 : oIdx (.list (ts.map .str)) (.int 0) = .v (.str t0) := by simp [ht0]
    have ht := told_none_eq (.tuple [.str "same", .str t0, .str t0])
    have isn : cIsNot .none .none = .v (.bool false) := rfl
    simp [-ix_l, h1, i0, z3, ht, isn]
    exact .ret ⟨rfl, _, _, _, _, _, _, _, _, _, _, rfl⟩
theorem penL_10 {m : MS} {k : Int} {y2 y3 y4 y5 y6 y7 y8 y9 : Option Rv} {st : List (D × Bool)}
    (h : ∀ {y3 y4 y5 y6 y7 y8 y9 : Option Rv}, Lt (m ⟨[some .scr, some (.val (.int k)), some .pen, y3, y4, y5, y6, y7, y8, y9], st⟩) 100 (fun p => p.1 = .nx ∧ Any10 p.2)) :
    Lt (sPenL 2 1 m ⟨[some .scr, some (.val (.int k)), y2, y3, y4, y5, y6, y7, y8, y9], st⟩) 100 (fun p => p.1 = .nx ∧ Any10 p.2) := by
  unfold sPenL
  refine (Lt.bind (c := 100) (d := 0) (h (y3 := unpen y3) (y4 := unpen y4) (y5 := unpen y5) (y6 := unpen y6) (y7 := unpen y7) (y8 := unpen y8) (y9 := unpen y9)) ?_)
  rintro ⟨fl, ρ⟩ ⟨e, h⟩
  have e : fl = .nx := e
  subst e
  obtain ⟨y1, y2, y3, y4, y5, y6, y7, y8, y9, st, e⟩ := h.h
  have e : ρ = _ := e
  subst e
  exact .ret ⟨rfl, _, _, _, _, _, _, _, _, _, _, rfl⟩
def m4 (n : Nat) : Nat := min n 4
theorem law_lt : Lt (m_law (startEn 10 [.scr])) 600 fun p => p.1 = .rt (.val (.bool true)) := by
  have e0 : startEn 10 [.scr] = ⟨[some .scr, none, none, none, none, none, none, none, none, none], []⟩ := rfl
  rw [e0]
  unfold m_law
  rw [e_seq, e_for]
  have hm : ∀ n : Nat, bMinA [.int 4, .int (n : Int)] = .v (.int ((m4 n : Nat) : Int)) := fun n => by
    have : (if (n : Int) < 4 then (n : Int) else 4) = ((m4 n : Nat) : Int) := by unfold m4; split <;> omega
    rw [minA_ii, this]
  have hm4 : ∀ n, m4 n ≤ 4 := fun n => by unfold m4; omega
  have hq : ∀ n, (1 : Int) + ((m4 n : Nat) : Int) = ((1 + m4 n : Nat) : Int) := fun n => by omega
  have b1 : ∀ n, -1000000 ≤ 1 + ((m4 n : Nat) : Int) := fun n => by omega
  have b2 : ∀ n, 1 + ((m4 n : Nat) : Int) ≤ 1000000 := fun n => by have := hm4 n; omega
  have hq2 : ∀ n, (1 + ((m4 n : Nat) : Int)).toNat = 1 + m4 n := fun n => by omega
  simp only [e_range1, e_bin, e_call, e_acons, e_anil]
  simp [mLenScr]
  refine (Lt.drw (c := 500) fun n hn => ?_).mono (by decide) fun _ z => z
  have := hm4 n
  simp [hm, -minA_ii, b1, b2, hq2]
  obtain ⟨q, hq5⟩ : ∃ q, q = 1 + m4 n := ⟨_, rfl⟩
  rw [← hq5]
  have hlen : (rangeD 0 q).length * 100 ≤ 500 := by rw [range_len]; omega
  refine Lt.bnd (c := 500) (d := 0) (Lt.mono (fLoop_lt (k := 100) Any10 (R := fun p => p.1 = .nx ∧ Any10 p.2) (rangeD 0 q) _ ⟨_, _, _, _, _, _, _, _, _, _, rfl⟩ ?_ fun ρ h => ⟨rfl, h⟩) hlen fun _ z => z) ?_
  · intro d hd ρ h
    unfold rangeD at hd
    obtain ⟨i, hi, rfl⟩ := List.mem_map.mp hd
    obtain ⟨y1, y2, y3, y4, y5, y6, y7, y8, y9, st, e⟩ := h.h
    subst e
    refine ⟨_, e_tg, ?_⟩
    refine (penL_10 (m := hBody) body_lt).mono (Nat.le_refl _) ?_
    rintro ⟨fl, ρ⟩ ⟨e, h⟩
    have e : fl = .nx := e
    subst e
    exact h
  · rintro ⟨fl, ρ⟩ ⟨e, h⟩
    have e : fl = .nx := e
    subst e
    exact .ret rfl
theorem law_true : (m_law (startEn 10 [.scr])).All (2 ^ 23) fun _ p => p.1 = .rt (.val (.bool true)) := law_lt.all (by decide)
end Wk

namespace Wk
open PySem PySem.Spec PyProof.Rows L2
set_option maxHeartbeats 0
def topS (i : Nat) : Stmt := PySem.Challenge.pw_wakingheads_k07_facts_told.main.body.getD i (.Pass ⟨0, 0, 0, 0⟩)
abbrev s_are_figures : Stmt := topS 3
abbrev N_are_figures : List Str := ["text", "most", "sign"]
theorem sc_are_figures : FnScope N_are_figures ["text", "most"] (defScope s_are_figures) := ⟨rfl, rfl, rfl, by decide +kernel, rfl, by decide +kernel, by decide +kernel⟩
abbrev fns_are_figures : List (Str × Fn) := []
abbrev csts_are_figures : List (Str × D) := [("FIGURES", (.str "0123456789"))]
theorem d_are_figures : denDef ⟨N_are_figures, fns_are_figures, csts_are_figures, [], [], [], false⟩ s_are_figures = some m_are_figures := by kernel_rfl
abbrev s_is_value : Stmt := topS 4
abbrev N_is_value : List Str := ["thing"]
theorem sc_is_value : FnScope N_is_value ["thing"] (defScope s_is_value) := ⟨rfl, rfl, rfl, by decide +kernel, rfl, by decide +kernel, by decide +kernel⟩
abbrev fns_is_value : List (Str × Fn) := [("are_figures", F_are_figures)]
abbrev csts_is_value : List (Str × D) := [("LONGEST_VALUE", (.int 6))]
theorem d_is_value : denDef ⟨N_is_value, fns_is_value, csts_is_value, [], [], [], false⟩ s_is_value = some m_is_value := by kernel_rfl
abbrev s_head_in : Stmt := topS 6
abbrev N_head_in : List Str := ["known", "term", "name", "head"]
theorem sc_head_in : FnScope N_head_in ["known", "term"] (defScope s_head_in) := ⟨rfl, rfl, rfl, by decide +kernel, rfl, by decide +kernel, by decide +kernel⟩
abbrev fns_head_in : List (Str × Fn) := []
abbrev csts_head_in : List (Str × D) := []
theorem d_head_in : denDef ⟨N_head_in, fns_head_in, csts_head_in, [], [], [], false⟩ s_head_in = some m_head_in := by kernel_rfl
abbrev s_heads_in : Stmt := topS 7
abbrev N_heads_in : List Str := ["known", "fact", "word", "one", "other", "first", "second"]
theorem sc_heads_in : FnScope N_heads_in ["known", "fact"] (defScope s_heads_in) := ⟨rfl, rfl, rfl, by decide +kernel, rfl, by decide +kernel, by decide +kernel⟩
abbrev fns_heads_in : List (Str × Fn) := [("head_in", F_head_in)]
abbrev csts_heads_in : List (Str × D) := []
theorem d_heads_in : denDef ⟨N_heads_in, fns_heads_in, csts_heads_in, [], [], [], false⟩ s_heads_in = some m_heads_in := by kernel_rfl
abbrev s_are_two_values : Stmt := topS 8
abbrev N_are_two_values : List Str := ["pair"]
theorem sc_are_two_values : FnScope N_are_two_values ["pair"] (defScope s_are_two_values) := ⟨rfl, rfl, rfl, by decide +kernel, rfl, by decide +kernel, by decide +kernel⟩
abbrev fns_are_two_values : List (Str × Fn) := [("is_value", F_is_value)]
abbrev csts_are_two_values : List (Str × D) := []
theorem d_are_two_values : denDef ⟨N_are_two_values, fns_are_two_values, csts_are_two_values, [], [], [], false⟩ s_are_two_values = some m_are_two_values := by kernel_rfl
abbrev s_is_told : Stmt := topS 9
abbrev N_is_told : List Str := ["known", "fact", "pair"]
theorem sc_is_told : FnScope N_is_told ["known", "fact"] (defScope s_is_told) := ⟨rfl, rfl, rfl, by decide +kernel, rfl, by decide +kernel, by decide +kernel⟩
abbrev fns_is_told : List (Str × Fn) := [("are_two_values", F_are_two_values), ("heads_in", F_heads_in)]
abbrev csts_is_told : List (Str × D) := []
theorem d_is_told : denDef ⟨N_is_told, fns_is_told, csts_is_told, [], [], [], false⟩ s_is_told = some m_is_told := by kernel_rfl
abbrev s_led : Stmt := topS 10
abbrev N_led : List Str := ["pairs", "head", "other", "found", "pair", "first", "second", "term"]
theorem sc_led : FnScope N_led ["pairs", "head", "other"] (defScope s_led) := ⟨rfl, rfl, rfl, by decide +kernel, rfl, by decide +kernel, by decide +kernel⟩
abbrev fns_led : List (Str × Fn) := [("are_two_values", F_are_two_values)]
abbrev csts_led : List (Str × D) := []
theorem d_led : denDef ⟨N_led, fns_led, csts_led, [], [], [], false⟩ s_led = some m_led := by kernel_rfl
abbrev s_made_one : Stmt := topS 11
abbrev N_made_one : List Str := ["known", "head", "other", "leads", "name", "elder"]
theorem sc_made_one : FnScope N_made_one ["known", "head", "other"] (defScope s_made_one) := ⟨rfl, rfl, rfl, by decide +kernel, rfl, by decide +kernel, by decide +kernel⟩
abbrev fns_made_one : List (Str × Fn) := [("led", F_led)]
abbrev csts_made_one : List (Str × D) := []
theorem d_made_one : denDef ⟨N_made_one, fns_made_one, csts_made_one, [], [], [], false⟩ s_made_one = some m_made_one := by kernel_rfl
abbrev s_told : Stmt := topS 12
abbrev N_told : List Str := ["known", "fact", "pair"]
theorem sc_told : FnScope N_told ["known", "fact"] (defScope s_told) := ⟨rfl, rfl, rfl, by decide +kernel, rfl, by decide +kernel, by decide +kernel⟩
abbrev fns_told : List (Str × Fn) := [("made_one", F_made_one), ("are_two_values", F_are_two_values), ("heads_in", F_heads_in), ("is_told", F_is_told)]
abbrev csts_told : List (Str × D) := []
theorem d_told : denDef ⟨N_told, fns_told, csts_told, [], [], [], false⟩ s_told = some m_told := by kernel_rfl
abbrev s_law_pen : Stmt := topS 14
abbrev N_law_pen : List Str := ["_law_script"]
theorem sc_law_pen : FnScope N_law_pen ["_law_script"] (defScope s_law_pen) := ⟨rfl, rfl, rfl, by decide +kernel, rfl, by decide +kernel, by decide +kernel⟩
abbrev s_law_draw : Stmt := topS 15
abbrev N_law_draw : List Str := ["_law_pen_here", "_law_many", "_law_found", "_law_at", "_law_cell", "_law_whole", "_law_one", "_law_two"]
theorem sc_law_draw : FnScope N_law_draw ["_law_pen_here", "_law_many"] (defScope s_law_draw) := ⟨rfl, rfl, rfl, by decide +kernel, rfl, by decide +kernel, by decide +kernel⟩
abbrev fns_law_draw : List (Str × Fn) := []
abbrev csts_law_draw : List (Str × D) := []
theorem d_law_draw : denDef ⟨N_law_draw, fns_law_draw, csts_law_draw, [], [], [], false⟩ s_law_draw = some m_law_draw := by kernel_rfl
abbrev s_law_some : Stmt := topS 16
abbrev N_law_some : List Str := ["_law_pen_here", "_law_many", "_law_some_here", "_law_turn", "_law_letters", "_law_base", "_law_spot", "_law_first", "_law_step", "_law_k"]
theorem sc_law_some : FnScope N_law_some ["_law_pen_here", "_law_many"] (defScope s_law_some) := ⟨rfl, rfl, rfl, by decide +kernel, rfl, by decide +kernel, by decide +kernel⟩
abbrev fns_law_some : List (Str × Fn) := [("_law_draw", F_law_draw)]
abbrev csts_law_some : List (Str × D) := []
theorem d_law_some : denDef ⟨N_law_some, fns_law_some, csts_law_some, [], [], [], false⟩ s_law_some = some m_law_some := by kernel_rfl
abbrev s_law_terms_here : Stmt := topS 17
abbrev N_law_terms_here : List Str := ["_law_pen_here", "_law_names", "_law_news", "_law_values", "_law_left", "_law_k"]
theorem sc_law_terms_here : FnScope N_law_terms_here ["_law_pen_here"] (defScope s_law_terms_here) := ⟨rfl, rfl, rfl, by decide +kernel, rfl, by decide +kernel, by decide +kernel⟩
abbrev fns_law_terms_here : List (Str × Fn) := [("_law_draw", F_law_draw), ("_law_some", F_law_some)]
abbrev csts_law_terms_here : List (Str × D) := []
theorem d_law_terms_here : denDef ⟨N_law_terms_here, fns_law_terms_here, csts_law_terms_here, [], [], [], false⟩ s_law_terms_here = some m_law_terms_here := by kernel_rfl
abbrev s_law_facts : Stmt := topS 18
abbrev N_law_facts : List Str := ["_law_pen_here", "_law_terms", "_law_many", "_law_found", "_law_k", "_law_word", "_law_one", "_law_other", "_law_fact", "_law_elder"]
theorem sc_law_facts : FnScope N_law_facts ["_law_pen_here", "_law_terms", "_law_many"] (defScope s_law_facts) := ⟨rfl, rfl, rfl, by decide +kernel, rfl, by decide +kernel, by decide +kernel⟩
abbrev fns_law_facts : List (Str × Fn) := [("_law_draw", F_law_draw)]
abbrev csts_law_facts : List (Str × D) := []
theorem d_law_facts : denDef ⟨N_law_facts, fns_law_facts, csts_law_facts, [], [], [], false⟩ s_law_facts = some m_law_facts := by kernel_rfl
abbrev s_law_lots : Stmt := topS 19
abbrev N_law_lots : List Str := ["_law_facts_here", "_law_lots_here", "_law_word", "_law_one", "_law_other", "_law_term", "_law_both", "_law_lot"]
theorem sc_law_lots : FnScope N_law_lots ["_law_facts_here"] (defScope s_law_lots) := ⟨rfl, rfl, rfl, by decide +kernel, rfl, by decide +kernel, by decide +kernel⟩
abbrev fns_law_lots : List (Str × Fn) := []
abbrev csts_law_lots : List (Str × D) := []
theorem d_law_lots : denDef ⟨N_law_lots, fns_law_lots, csts_law_lots, ["_law_lots_here"], [], [], false⟩ s_law_lots = some m_law_lots := by kernel_rfl
abbrev s_law_due : Stmt := topS 20
abbrev N_law_due : List Str := ["_law_facts_here", "_law_lots_here", "_law_heads", "_law_lot", "_law_term", "_law_leads", "_law_pairs", "_law_word", "_law_one", "_law_other", "_law_pair"]
theorem sc_law_due : FnScope N_law_due ["_law_facts_here"] (defScope s_law_due) := ⟨rfl, rfl, rfl, by decide +kernel, rfl, by decide +kernel, by decide +kernel⟩
abbrev fns_law_due : List (Str × Fn) := [("_law_lots", F_law_lots)]
abbrev csts_law_due : List (Str × D) := []
theorem d_law_due : denDef ⟨N_law_due, fns_law_due, csts_law_due, [], [], [], false⟩ s_law_due = some m_law_due := by kernel_rfl
abbrev s_law : Stmt := topS 21
abbrev N_law : List Str := ["_law_script", "_law_k", "_law_pen_here", "_law_terms", "_law_facts_here", "_law_have", "_law_many", "_law_due_here", "_law_kept", "_law_found"]
theorem sc_law : FnScope N_law ["_law_script"] (defScope s_law) := ⟨rfl, rfl, rfl, by decide +kernel, rfl, by decide +kernel, by decide +kernel⟩
abbrev fns_law : List (Str × Fn) := [("told", F_told), ("_law_due", F_law_due), ("_law_facts", F_law_facts), ("_law_draw", F_law_draw), ("_law_terms_here", F_law_terms_here)]
abbrev csts_law : List (Str × D) := []
theorem d_law : dSs ⟨N_law, fns_law, csts_law, [], [], [], true⟩ (den ⟨N_law, fns_law, csts_law, [], [], [], true⟩ 40) 60 ⟨defScope s_law, fun _ => true⟩ (defBody s_law) = some m_law := by kernel_rfl
structure Txt [Ctx] (P : Program) (w : World) (K : PySem.W.Frag) (mg : Str → Option Value) : Prop where
  cx : P = Ctx.P ∧ w = Ctx.w
  pf : PfOk mg []
  blt : ∀ x ∈ bltNames, mg x = none
  c_FIGURES : CstIn K mg "FIGURES" (.str "0123456789")
  c_LONGEST_VALUE : CstIn K mg "LONGEST_VALUE" (.int 6)
  t_are_figures : DefIn K mg "are_figures" s_are_figures ["text", "most"]
  t_is_value : DefIn K mg "is_value" s_is_value ["thing"]
  t_head_in : DefIn K mg "head_in" s_head_in ["known", "term"]
  t_heads_in : DefIn K mg "heads_in" s_heads_in ["known", "fact"]
  t_are_two_values : DefIn K mg "are_two_values" s_are_two_values ["pair"]
  t_is_told : DefIn K mg "is_told" s_is_told ["known", "fact"]
  t_led : DefIn K mg "led" s_led ["pairs", "head", "other"]
  t_made_one : DefIn K mg "made_one" s_made_one ["known", "head", "other"]
  t_told : DefIn K mg "told" s_told ["known", "fact"]
  t_law_pen : DefIn K mg "_law_pen" s_law_pen ["_law_script"]
  t_law_draw : DefIn K mg "_law_draw" s_law_draw ["_law_pen_here", "_law_many"]
  t_law_some : DefIn K mg "_law_some" s_law_some ["_law_pen_here", "_law_many"]
  t_law_terms_here : DefIn K mg "_law_terms_here" s_law_terms_here ["_law_pen_here"]
  t_law_facts : DefIn K mg "_law_facts" s_law_facts ["_law_pen_here", "_law_terms", "_law_many"]
  t_law_lots : DefIn K mg "_law_lots" s_law_lots ["_law_facts_here"]
  t_law_due : DefIn K mg "_law_due" s_law_due ["_law_facts_here"]
  t_law : DefIn K mg "law" s_law ["_law_script"]
section
variable [Ctx] {P : Program} {w : World} {K : PySem.W.Frag} {mg : Str → Option Value} {base : Heap}
theorem ok_are_figures (T : Txt P w K mg) : FOk P w K mg base 1 "are_figures" F_are_figures :=
  FOk.of (N := N_are_figures) (ps := ["text", "most"]) (m := m_are_figures) (fns := fns_are_figures) (csts := csts_are_figures) (lv := 0) (io := false) T.t_are_figures sc_are_figures (Top.of (lv := 0) T.cx T.blt (List.forall_mem_nil _) (List.forall_mem_cons.mpr ⟨T.c_FIGURES, List.forall_mem_nil _⟩) (List.forall_mem_nil _) (List.forall_mem_nil _)) d_are_figures
theorem ok_head_in (T : Txt P w K mg) : FOk P w K mg base 1 "head_in" F_head_in :=
  FOk.of (N := N_head_in) (ps := ["known", "term"]) (m := m_head_in) (fns := fns_head_in) (csts := csts_head_in) (lv := 0) (io := false) T.t_head_in sc_head_in (Top.of (lv := 0) T.cx T.blt (List.forall_mem_nil _) (List.forall_mem_nil _) (List.forall_mem_nil _) (List.forall_mem_nil _)) d_head_in
theorem ok_law_draw_io (T : Txt P w K mg) : FOk P w K mg base 1 "_law_draw" F_law_draw_io :=
  FOk.of (N := N_law_draw) (ps := ["_law_pen_here", "_law_many"]) (m := m_law_draw) (fns := fns_law_draw) (csts := csts_law_draw) (lv := 0) (io := false) T.t_law_draw sc_law_draw (Top.of (lv := 0) T.cx T.blt (List.forall_mem_nil _) (List.forall_mem_nil _) (List.forall_mem_nil _) (List.forall_mem_nil _)) d_law_draw
theorem ok_law_draw (T : Txt P w K mg) : FOk P w K mg base 1 "_law_draw" F_law_draw := (ok_law_draw_io T).draw rfl draws_ok
theorem ok_law_lots (T : Txt P w K mg) : FOk P w K mg base 1 "_law_lots" F_law_lots :=
  FOk.of (N := N_law_lots) (ps := ["_law_facts_here"]) (m := m_law_lots) (fns := fns_law_lots) (csts := csts_law_lots) (lv := 0) (io := false) T.t_law_lots sc_law_lots (Top.of (lv := 0) T.cx T.blt (List.forall_mem_nil _) (List.forall_mem_nil _) (List.forall_mem_nil _) (List.forall_mem_nil _)) d_law_lots
theorem ok_is_value (T : Txt P w K mg) : FOk P w K mg base 2 "is_value" F_is_value :=
  FOk.of (N := N_is_value) (ps := ["thing"]) (m := m_is_value) (fns := fns_is_value) (csts := csts_is_value) (lv := 1) (io := false) T.t_is_value sc_is_value (Top.of (lv := 1) T.cx T.blt (List.forall_mem_cons.mpr ⟨(ok_are_figures T).mono (by decide), List.forall_mem_nil _⟩) (List.forall_mem_cons.mpr ⟨T.c_LONGEST_VALUE, List.forall_mem_nil _⟩) (List.forall_mem_nil _) (List.forall_mem_nil _)) d_is_value
theorem ok_heads_in (T : Txt P w K mg) : FOk P w K mg base 2 "heads_in" F_heads_in :=
  FOk.of (N := N_heads_in) (ps := ["known", "fact"]) (m := m_heads_in) (fns := fns_heads_in) (csts := csts_heads_in) (lv := 1) (io := false) T.t_heads_in sc_heads_in (Top.of (lv := 1) T.cx T.blt (List.forall_mem_cons.mpr ⟨(ok_head_in T).mono (by decide), List.forall_mem_nil _⟩) (List.forall_mem_nil _) (List.forall_mem_nil _) (List.forall_mem_nil _)) d_heads_in
theorem ok_law_some (T : Txt P w K mg) : FOk P w K mg base 2 "_law_some" F_law_some :=
  FOk.of (N := N_law_some) (ps := ["_law_pen_here", "_law_many"]) (m := m_law_some) (fns := fns_law_some) (csts := csts_law_some) (lv := 1) (io := false) T.t_law_some sc_law_some (Top.of (lv := 1) T.cx T.blt (List.forall_mem_cons.mpr ⟨(ok_law_draw T).mono (by decide), List.forall_mem_nil _⟩) (List.forall_mem_nil _) (List.forall_mem_nil _) (List.forall_mem_nil _)) d_law_some
theorem ok_law_facts (T : Txt P w K mg) : FOk P w K mg base 2 "_law_facts" F_law_facts :=
  FOk.of (N := N_law_facts) (ps := ["_law_pen_here", "_law_terms", "_law_many"]) (m := m_law_facts) (fns := fns_law_facts) (csts := csts_law_facts) (lv := 1) (io := false) T.t_law_facts sc_law_facts (Top.of (lv := 1) T.cx T.blt (List.forall_mem_cons.mpr ⟨(ok_law_draw T).mono (by decide), List.forall_mem_nil _⟩) (List.forall_mem_nil _) (List.forall_mem_nil _) (List.forall_mem_nil _)) d_law_facts
theorem ok_law_due (T : Txt P w K mg) : FOk P w K mg base 2 "_law_due" F_law_due :=
  FOk.of (N := N_law_due) (ps := ["_law_facts_here"]) (m := m_law_due) (fns := fns_law_due) (csts := csts_law_due) (lv := 1) (io := false) T.t_law_due sc_law_due (Top.of (lv := 1) T.cx T.blt (List.forall_mem_cons.mpr ⟨(ok_law_lots T).mono (by decide), List.forall_mem_nil _⟩) (List.forall_mem_nil _) (List.forall_mem_nil _) (List.forall_mem_nil _)) d_law_due
theorem ok_are_two_values (T : Txt P w K mg) : FOk P w K mg base 3 "are_two_values" F_are_two_values :=
  FOk.of (N := N_are_two_values) (ps := ["pair"]) (m := m_are_two_values) (fns := fns_are_two_values) (csts := csts_are_two_values) (lv := 2) (io := false) T.t_are_two_values sc_are_two_values (Top.of (lv := 2) T.cx T.blt (List.forall_mem_cons.mpr ⟨(ok_is_value T).mono (by decide), List.forall_mem_nil _⟩) (List.forall_mem_nil _) (List.forall_mem_nil _) (List.forall_mem_nil _)) d_are_two_values
theorem ok_law_terms_here (T : Txt P w K mg) : FOk P w K mg base 3 "_law_terms_here" F_law_terms_here :=
  FOk.of (N := N_law_terms_here) (ps := ["_law_pen_here"]) (m := m_law_terms_here) (fns := fns_law_terms_here) (csts := csts_law_terms_here) (lv := 2) (io := false) T.t_law_terms_here sc_law_terms_here (Top.of (lv := 2) T.cx T.blt (List.forall_mem_cons.mpr ⟨(ok_law_draw T).mono (by decide), List.forall_mem_cons.mpr ⟨(ok_law_some T).mono (by decide), List.forall_mem_nil _⟩⟩) (List.forall_mem_nil _) (List.forall_mem_nil _) (List.forall_mem_nil _)) d_law_terms_here
theorem ok_is_told (T : Txt P w K mg) : FOk P w K mg base 4 "is_told" F_is_told :=
  FOk.of (N := N_is_told) (ps := ["known", "fact"]) (m := m_is_told) (fns := fns_is_told) (csts := csts_is_told) (lv := 3) (io := false) T.t_is_told sc_is_told (Top.of (lv := 3) T.cx T.blt (List.forall_mem_cons.mpr ⟨(ok_are_two_values T).mono (by decide), List.forall_mem_cons.mpr ⟨(ok_heads_in T).mono (by decide), List.forall_mem_nil _⟩⟩) (List.forall_mem_nil _) (List.forall_mem_nil _) (List.forall_mem_nil _)) d_is_told
theorem ok_led (T : Txt P w K mg) : FOk P w K mg base 4 "led" F_led :=
  FOk.of (N := N_led) (ps := ["pairs", "head", "other"]) (m := m_led) (fns := fns_led) (csts := csts_led) (lv := 3) (io := false) T.t_led sc_led (Top.of (lv := 3) T.cx T.blt (List.forall_mem_cons.mpr ⟨(ok_are_two_values T).mono (by decide), List.forall_mem_nil _⟩) (List.forall_mem_nil _) (List.forall_mem_nil _) (List.forall_mem_nil _)) d_led
theorem ok_made_one (T : Txt P w K mg) : FOk P w K mg base 5 "made_one" F_made_one :=
  FOk.of (N := N_made_one) (ps := ["known", "head", "other"]) (m := m_made_one) (fns := fns_made_one) (csts := csts_made_one) (lv := 4) (io := false) T.t_made_one sc_made_one (Top.of (lv := 4) T.cx T.blt (List.forall_mem_cons.mpr ⟨(ok_led T).mono (by decide), List.forall_mem_nil _⟩) (List.forall_mem_nil _) (List.forall_mem_nil _) (List.forall_mem_nil _)) d_made_one
theorem ok_told (T : Txt P w K mg) : FOk P w K mg base 6 "told" F_told :=
  FOk.of (N := N_told) (ps := ["known", "fact"]) (m := m_told) (fns := fns_told) (csts := csts_told) (lv := 5) (io := false) T.t_told sc_told (Top.of (lv := 5) T.cx T.blt (List.forall_mem_cons.mpr ⟨(ok_made_one T).mono (by decide), List.forall_mem_cons.mpr ⟨(ok_are_two_values T).mono (by decide), List.forall_mem_cons.mpr ⟨(ok_heads_in T).mono (by decide), List.forall_mem_cons.mpr ⟨(ok_is_told T).mono (by decide), List.forall_mem_nil _⟩⟩⟩⟩) (List.forall_mem_nil _) (List.forall_mem_nil _) (List.forall_mem_nil _)) d_told
theorem law_all (T : Txt P w K mg) {f : Addr} {fd : FuncData} (F : Fun K "law" "law" s_law f fd) : FnG P w K mg base 7 f fd ["_law_script"] (spLaw K) := by
  obtain ⟨fP, fdP, hP, gP, bP⟩ := T.t_law_pen
  exact law_fnL (N := N_law) (m := m_law) (fns := fns_law) (csts := csts_law) (lv := 6) F sc_law (Top.of (lv := 6) T.cx T.blt (List.forall_mem_cons.mpr ⟨(ok_told T).mono (by decide), List.forall_mem_cons.mpr ⟨(ok_law_due T).mono (by decide), List.forall_mem_cons.mpr ⟨(ok_law_facts T).mono (by decide), List.forall_mem_cons.mpr ⟨(ok_law_draw T).mono (by decide), List.forall_mem_cons.mpr ⟨(ok_law_terms_here T).mono (by decide), List.forall_mem_nil _⟩⟩⟩⟩⟩) (List.forall_mem_nil _) (List.forall_mem_nil _) (List.forall_mem_nil _)) (pen_ok hP sc_law_pen rfl rfl T.blt (by decide +kernel) (by decide +kernel)) gP hP.kp bP (by decide) d_law law_true
end
theorem all_mk [Ctx] {l : PySem.W.OpenLaw} {w : World} {K : PySem.W.Frag} {mg : Str → Option Value} {fa : Addr} (T : Txt l.prog w K mg) (hfa : mg "law" = some (.ref fa)) :
    ∃ fd : FuncData, (∀ (s : Shared) (v : Value), BindsTo s fd ⟨[v], []⟩ [("_law_script", v)]) ∧ ∀ base : Heap, K.In base → base.Ns mainGlobals mg → FnG l.prog w K mg base 7 fa fd ["_law_script"] (spLaw K) := by
  obtain ⟨f, fd, hF, hm, hb⟩ := T.t_law
  have e := hfa.symm.trans hm
  cases e
  refine ⟨fd, fun s v => ?_, fun base _ _ => law_all T hF⟩
  obtain ⟨oc, od, kV, doc, pm, an, cdv, ct, osl, rfl, lk, hcd⟩ := hF.ex
  exact .of_eq rfl
end Wk
open PySem PySem.W PyProof.Rows
set_option maxRecDepth 100000 in
set_option maxHeartbeats 0 in
theorem PySem.Challenge.cw_wakingheads_k07_facts_told_holds : PySem.Challenge.rw_wakingheads_k07_facts_told.Holds := by
  w_on; o_law; k_head; (case hw => w_witness2)
  k_fill
  refine Wk.walk_ofG (l := PySem.Challenge.rw_wakingheads_k07_facts_told) (n := 63) (k := 7) (x := "_law_script") (sp := fun w => Wk.spLaw _) rfl (by decide) rfl ⟨rfl, by decide, by decide⟩ (fun w h Y => PySem.W.kIn_of Y) ?F (fun _ _ a ns hl _ hS => ⟨a, ns, rfl, hS, hl, fun _ => rfl⟩)
  case F =>
    intro w mg fa h KX G hmg
    letI : Wk.Ctx := Wk.ctxOf (PySem.Challenge.rw_wakingheads_k07_facts_told).prog w mg []
    refine Wk.all_mk (Wk.Txt.mk ⟨rfl, rfl⟩ (fun _ _ => Iff.rfl) ?blt ?c0 ?c1 ?t0 ?t1 ?t2 ?t3 ?t4 ?t5 ?t6 ?t7 ?t8 ?t9 ?t10 ?t11 ?t12 ?t13 ?t14 ?t15 ?t16) hmg
    case blt =>
      refine Wk.blt_of KX G (show ∀ x ∈ (["len", "all", "any", "abs", "int", "str", "list", "tuple", "isinstance", "bool", "dict", "range", "repr", "max", "min", "sum", "sorted", "set", "enumerate", "zip"] : List Str), _ from List.forall_mem_cons.mpr ⟨?b0, List.forall_mem_cons.mpr ⟨?b1, List.forall_mem_cons.mpr ⟨?b2, List.forall_mem_cons.mpr ⟨?b3, List.forall_mem_cons.mpr ⟨?b4, List.forall_mem_cons.mpr ⟨?b5, List.forall_mem_cons.mpr ⟨?b6, List.forall_mem_cons.mpr ⟨?b7, List.forall_mem_cons.mpr ⟨?b8, List.forall_mem_cons.mpr ⟨?b9, List.forall_mem_cons.mpr ⟨?b10, List.forall_mem_cons.mpr ⟨?b11, List.forall_mem_cons.mpr ⟨?b12, List.forall_mem_cons.mpr ⟨?b13, List.forall_mem_cons.mpr ⟨?b14, List.forall_mem_cons.mpr ⟨?b15, List.forall_mem_cons.mpr ⟨?b16, List.forall_mem_cons.mpr ⟨?b17, List.forall_mem_cons.mpr ⟨?b18, List.forall_mem_cons.mpr ⟨?b19, List.forall_mem_nil _⟩⟩⟩⟩⟩⟩⟩⟩⟩⟩⟩⟩⟩⟩⟩⟩⟩⟩⟩⟩)
      all_goals k_is
    case c0 => exact Wk.cst_str KX G (by k_is)
    case c1 => exact Wk.cst_int KX G (by k_is)
    case t0 =>
      refine' Wk.def_in KX G ?a ?l ?c ?k (fun _ _ _ _ _ _ us hl => match us, hl with | [_, _], _ => rfl)
      (case a => k_is); (case l => k_is); (case c => k_is); (case k => k_is)
    case t1 =>
      refine' Wk.def_in KX G ?a ?l ?c ?k (fun _ _ _ _ _ _ us hl => match us, hl with | [_], _ => rfl)
      (case a => k_is); (case l => k_is); (case c => k_is); (case k => k_is)
    case t2 =>
      refine' Wk.def_in KX G ?a ?l ?c ?k (fun _ _ _ _ _ _ us hl => match us, hl with | [_, _], _ => rfl)
      (case a => k_is); (case l => k_is); (case c => k_is); (case k => k_is)
    case t3 =>
      refine' Wk.def_in KX G ?a ?l ?c ?k (fun _ _ _ _ _ _ us hl => match us, hl with | [_, _], _ => rfl)
      (case a => k_is); (case l => k_is); (case c => k_is); (case k => k_is)
    case t4 =>
      refine' Wk.def_in KX G ?a ?l ?c ?k (fun _ _ _ _ _ _ us hl => match us, hl with | [_], _ => rfl)
      (case a => k_is); (case l => k_is); (case c => k_is); (case k => k_is)
    case t5 =>
      refine' Wk.def_in KX G ?a ?l ?c ?k (fun _ _ _ _ _ _ us hl => match us, hl with | [_, _], _ => rfl)
      (case a => k_is); (case l => k_is); (case c => k_is); (case k => k_is)
    case t6 =>
      refine' Wk.def_in KX G ?a ?l ?c ?k (fun _ _ _ _ _ _ us hl => match us, hl with | [_, _, _], _ => rfl)
      (case a => k_is); (case l => k_is); (case c => k_is); (case k => k_is)
    case t7 =>
      refine' Wk.def_in KX G ?a ?l ?c ?k (fun _ _ _ _ _ _ us hl => match us, hl with | [_, _, _], _ => rfl)
      (case a => k_is); (case l => k_is); (case c => k_is); (case k => k_is)
    case t8 =>
      refine' Wk.def_in KX G ?a ?l ?c ?k (fun _ _ _ _ _ _ us hl => match us, hl with | [_, _], _ => rfl)
      (case a => k_is); (case l => k_is); (case c => k_is); (case k => k_is)
    case t9 =>
      refine' Wk.def_in KX G ?a ?l ?c ?k (fun _ _ _ _ _ _ us hl => match us, hl with | [_], _ => rfl)
      (case a => k_is); (case l => k_is); (case c => k_is); (case k => k_is)
    case t10 =>
      refine' Wk.def_in KX G ?a ?l ?c ?k (fun _ _ _ _ _ _ us hl => match us, hl with | [_, _], _ => rfl)
      (case a => k_is); (case l => k_is); (case c => k_is); (case k => k_is)
    case t11 =>
      refine' Wk.def_in KX G ?a ?l ?c ?k (fun _ _ _ _ _ _ us hl => match us, hl with | [_, _], _ => rfl)
      (case a => k_is); (case l => k_is); (case c => k_is); (case k => k_is)
    case t12 =>
      refine' Wk.def_in KX G ?a ?l ?c ?k (fun _ _ _ _ _ _ us hl => match us, hl with | [_], _ => rfl)
      (case a => k_is); (case l => k_is); (case c => k_is); (case k => k_is)
    case t13 =>
      refine' Wk.def_in KX G ?a ?l ?c ?k (fun _ _ _ _ _ _ us hl => match us, hl with | [_, _, _], _ => rfl)
      (case a => k_is); (case l => k_is); (case c => k_is); (case k => k_is)
    case t14 =>
      refine' Wk.def_in KX G ?a ?l ?c ?k (fun _ _ _ _ _ _ us hl => match us, hl with | [_], _ => rfl)
      (case a => k_is); (case l => k_is); (case c => k_is); (case k => k_is)
    case t15 =>
      refine' Wk.def_in KX G ?a ?l ?c ?k (fun _ _ _ _ _ _ us hl => match us, hl with | [_], _ => rfl)
      (case a => k_is); (case l => k_is); (case c => k_is); (case k => k_is)
    case t16 =>
      refine' Wk.def_in KX G ?a ?l ?c ?k (fun _ _ _ _ _ _ us hl => match us, hl with | [_], _ => rfl)
      (case a => k_is); (case l => k_is); (case c => k_is); (case k => k_is)

