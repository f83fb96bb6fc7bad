import PyProof.Rows.All
import Wide.All
import OpenK.AllK
import Wide.FinOn
import HandS.ForMost
import HandS.ForExc
import HandS.IsInst
import HandS.StrMore
import HandS.FStr
import HandS.Wide
import HandS.WideMore
import HandS.Sort
import HandS.SortRule
import HandS.SortInts
import HandS.ExcInit
import HandS.ExcField
import HandS.ExcIs
import HandS.TryMany
import HandS.Flow
import HandS.DictComp
import HandS.DictTup
import HandS.Conv
import HandS.Codes
import HandS.CallLocal
import HandS.ListItems
import HandS.Rev
import HandS.Zip
import HandS.TupLe
import HandS.TupAny
import HandS.TupMul
import HandS.Replace
import HandS.ReplaceList
import HandS.Deep
import HandS.SetIn
import HandS.Defaults
import HandS.RaiseOp
import HandS.HotCalls
import HandS.CallSlots
import KE.KStateDown
import Lean
import HandS.Base
import HandS.Call
import HandS.Ends
import HandS.More
import HandS.Words
import HandS.WordsExc
import HandS.Head0
import HandS.Head1
import HandS.Head2
import HandS.HeadEnd
import HandS.HeadHook1
import HandS.HeadHook2
import HandS.HeadNt
import PySem.Challenge.RW_paidatonce_k96_least_greatest_shares
set_option Elab.async false
set_option linter.all false
set_option maxRecDepth 100000
set_option maxHeartbeats 4000000
/-! # A layer over readings: worlds (what stands for good, what stands now), data, slots -/
namespace Fw
open PySem PySem.Spec L2

/-- s: what stands for good; h: all that stands -/
structure Wl where
  s : Hp
  h : Hp
  le : ∀ a o, s a = some o → h a = some o
def Ex (H H' : Hp) : Prop := ∀ a o, H a = some o → H' a = some o
theorem Ex.refl (H : Hp) : Ex H H := fun _ _ h => h
theorem Ex.trans {H H1 H2 : Hp} (a : Ex H H1) (b : Ex H1 H2) : Ex H H2 := fun x o h => b x o (a x o h)
/-- from w to w': all but what stands at B is kept; nothing that stood loosely has come to stand for good -/
structure Grow (B : List Addr) (w w' : Wl) : Prop where
  h : ∀ a o, a ∉ B → w.h a = some o → w'.h a = some o
  s : Ex w.s w'.s
  own : ∀ a, w.h a ≠ none → w.s a = none → w'.s a = none
  dom : ∀ a, w.h a ≠ none → w'.h a ≠ none
theorem Grow.refl (B : List Addr) (w : Wl) : Grow B w w := ⟨fun _ _ _ e => e, Ex.refl _, fun _ _ e => e, fun _ e => e⟩
theorem Grow.trans {B : List Addr} {w w1 w2 : Wl} (a : Grow B w w1) (b : Grow B w1 w2) : Grow B w w2 :=
  ⟨fun x o hx e => b.h x o hx (a.h x o hx e), a.s.trans b.s, fun x h1 h2 => b.own x (a.dom x h1) (a.own x h1 h2), fun x e => b.dom x (a.dom x e)⟩
theorem Grow.mono {B B' : List Addr} {w w' : Wl} (g : Grow B w w') (hb : ∀ a ∈ B, a ∈ B') : Grow B' w w' := ⟨fun a o ha e => g.h a o (fun q => ha (hb a q)) e, g.s, g.own, g.dom⟩
theorem Grow.up {B : List Addr} {w w' : Wl} (g : Grow [] w w') : Grow B w w' := g.mono (fun _ q => nomatch q)

def keyD : Key → PyData
  | .inl i => .int i
  | .inr x => .str x
/-- the script, read only -/
def scrD (ns : List Int) : PyData := .dict [(.none, .list (ns.map PyData.int))]
mutual
inductive Rp (K : PySem.W.Frag) (H : Hp) : V → PyData → Prop
  | non : Rp K H .non .none
  | bl (b : Bool) : Rp K H (.bl b) (.bool b)
  | int (i : Int) : Rp K H (.int i) (.int i)
  | str (x : Str) : Rp K H (.str x) (.str x)
  | lst {a : Addr} {xs : List V} {ds : List PyData} : H a = some (.lst xs) → RpAll K H xs ds → Rp K H (.ref a) (.list ds)
  | scr {a : Addr} {ns : List Int} : SqL K H a (ns.map V.int) → Rp K H (.ref a) (scrD ns)
  | tup {a : Addr} {xs : List V} {ds : List PyData} : SqT K H a xs → RpAll K H xs ds → Rp K H (.ref a) (.tuple ds)
  | dct {a : Addr} {kvs : List (Key × V)} {ds : List (PyData × PyData)} : H a = some (.dK kvs) → RpKV K H kvs ds → Rp K H (.ref a) (.dict ds)
inductive RpAll (K : PySem.W.Frag) (H : Hp) : List V → List PyData → Prop
  | nil : RpAll K H [] []
  | cons {v : V} {vs : List V} {d : PyData} {ds : List PyData} : Rp K H v d → RpAll K H vs ds → RpAll K H (v :: vs) (d :: ds)
inductive RpKV (K : PySem.W.Frag) (H : Hp) : List (Key × V) → List (PyData × PyData) → Prop
  | nil : RpKV K H [] []
  | cons {k : Key} {v : V} {kvs : List (Key × V)} {d : PyData} {ds : List (PyData × PyData)} : Rp K H v d → RpKV K H kvs ds → RpKV K H ((k, v) :: kvs) ((keyD k, d) :: ds)
end
theorem ex_sqL {K : PySem.W.Frag} {H H' : Hp} {a : Addr} {xs : List V} (e : Ex H H') (h : SqL K H a xs) : SqL K H' a xs := Same.seq e h
theorem ex_sqT {K : PySem.W.Frag} {H H' : Hp} {a : Addr} {xs : List V} (e : Ex H H') (h : SqT K H a xs) : SqT K H' a xs := by
  rcases h with (h | ⟨o, h⟩) | h
  · exact Or.inl (Or.inl (e a _ h))
  · exact Or.inl (Or.inr ⟨o, e a _ h⟩)
  · exact Or.inr h
section
variable {K : PySem.W.Frag} {H H' : Hp}
mutual
theorem Rp.mono (e : Ex H H') : ∀ {v : V} {d : PyData}, Rp K H v d → Rp K H' v d
  | _, _, .non => .non
  | _, _, .bl b => .bl b
  | _, _, .int i => .int i
  | _, _, .str x => .str x
  | _, _, .lst h r => .lst (e _ _ h) (RpAll.mono e r)
  | _, _, .scr h => .scr (ex_sqL e h)
  | _, _, .tup h r => .tup (ex_sqT e h) (RpAll.mono e r)
  | _, _, .dct h r => .dct (e _ _ h) (RpKV.mono e r)
theorem RpAll.mono (e : Ex H H') : ∀ {vs : List V} {ds : List PyData}, RpAll K H vs ds → RpAll K H' vs ds
  | _, _, .nil => .nil
  | _, _, .cons r t => .cons (Rp.mono e r) (RpAll.mono e t)
theorem RpKV.mono (e : Ex H H') : ∀ {vs : List (Key × V)} {ds : List (PyData × PyData)}, RpKV K H vs ds → RpKV K H' vs ds
  | _, _, .nil => .nil
  | _, _, .cons r t => .cons (Rp.mono e r) (RpKV.mono e t)
end
mutual
theorem Rp.dp : ∀ {v : V} {d : PyData}, Rp K H v d → d.canLay0 = true → Dp K H v d
  | _, _, .non, _ => .non
  | _, _, .bl b, _ => .bl b
  | _, _, .int i, _ => .int i
  | _, _, .str x, _ => .str x
  | _, _, .lst h r, c => .lst (SqL.of h) (RpAll.dp r c)
  | _, _, .scr h, c => by cases c
  | _, _, .tup h r, c => .tup h (RpAll.dp r c)
  | _, _, .dct h r, c => by cases c
theorem RpAll.dp : ∀ {vs : List V} {ds : List PyData}, RpAll K H vs ds → PyData.canLayAll0 ds = true → DpAll K H vs ds
  | _, _, .nil, _ => .nil
  | _, _, .cons r t, c => by
    have c' := Bool.and_eq_true_iff.mp c
    exact .cons (Rp.dp r c'.1) (RpAll.dp t c'.2)
end
end
end Fw


namespace Fw
open PySem PySem.Spec L2
section
variable {K : PySem.W.Frag} {H H' : Hp}
theorem RpAll.length : ∀ {vs : List V} {ds : List PyData}, RpAll K H vs ds → vs.length = ds.length
  | _, _, .nil => rfl
  | _, _, .cons _ t => congrArg (· + 1) (RpAll.length t)
theorem RpAll.get : ∀ {vs : List V} {ds : List PyData} {i : Nat} {d : PyData}, RpAll K H vs ds → ds[i]? = some d → ∃ v, vs[i]? = some v ∧ Rp K H v d
  | _, _, _, _, .nil, e => by simp at e
  | _, _, 0, _, .cons r _, e => by simp at e; subst e; exact ⟨_, rfl, r⟩
  | _, _, i + 1, _, .cons _ t, e => by
    obtain ⟨v, h1, h2⟩ := RpAll.get (i := i) t (by simpa using e)
    exact ⟨v, by simpa using h1, h2⟩
theorem RpAll.getV : ∀ {vs : List V} {ds : List PyData} {i : Nat} {v : V}, RpAll K H vs ds → vs[i]? = some v → ∃ d, ds[i]? = some d ∧ Rp K H v d
  | _, _, _, _, .nil, e => by simp at e
  | _, _, 0, _, .cons r _, e => by simp at e; subst e; exact ⟨_, rfl, r⟩
  | _, _, i + 1, _, .cons _ t, e => by
    obtain ⟨v, h1, h2⟩ := RpAll.getV (i := i) t (by simpa using e)
    exact ⟨v, by simpa using h1, h2⟩
theorem RpAll.append : ∀ {vs vs' : List V} {ds ds' : List PyData}, RpAll K H vs ds → RpAll K H vs' ds' → RpAll K H (vs ++ vs') (ds ++ ds')
  | _, _, _, _, .nil, h => h
  | _, _, _, _, .cons r t, h => .cons r (RpAll.append t h)
theorem RpAll.one {v : V} {d : PyData} (h : Rp K H v d) : RpAll K H [v] [d] := .cons h .nil
theorem RpAll.set : ∀ {vs : List V} {ds : List PyData} (i : Nat) {v : V} {d : PyData}, RpAll K H vs ds → Rp K H v d → RpAll K H (vs.set i v) (ds.set i d)
  | _, _, _, _, _, .nil, _ => .nil
  | _, _, 0, _, _, .cons _ t, r => .cons r t
  | _, _, i + 1, _, _, .cons q t, r => .cons q (RpAll.set i t r)
theorem RpAll.take : ∀ {vs : List V} {ds : List PyData} (n : Nat), RpAll K H vs ds → RpAll K H (vs.take n) (ds.take n)
  | _, _, 0, _ => .nil
  | _, _, _ + 1, .nil => .nil
  | _, _, n + 1, .cons r t => .cons r (RpAll.take n t)
theorem RpAll.drop : ∀ {vs : List V} {ds : List PyData} (n : Nat), RpAll K H vs ds → RpAll K H (vs.drop n) (ds.drop n)
  | _, _, 0, h => h
  | _, _, _ + 1, .nil => .nil
  | _, _, n + 1, .cons r t => RpAll.drop n t
theorem RpAll.dropLast : ∀ {vs : List V} {ds : List PyData}, RpAll K H vs ds → RpAll K H vs.dropLast ds.dropLast
  | _, _, .nil => .nil
  | _, _, .cons _ .nil => .nil
  | _, _, .cons r (.cons q t) => .cons r (RpAll.dropLast (.cons q t))
theorem RpAll.reverse {vs : List V} {ds : List PyData} (h : RpAll K H vs ds) : RpAll K H vs.reverse ds.reverse := by
  induction h using RpAll.rec (motive_1 := fun _ _ _ => True) (motive_3 := fun _ _ _ => True) with
  | nil => exact .nil
  | cons r t _ ih => rw [List.reverse_cons, List.reverse_cons]; exact ih.append (.one r)
  | _ => trivial
theorem RpAll.ints : ∀ (ns : List Int), RpAll K H (ns.map V.int) (ns.map PyData.int)
  | [] => .nil
  | n :: ns => .cons (.int n) (RpAll.ints ns)
theorem RpAll.of_ints : ∀ {ns : List Int} {vs : List V}, RpAll K H vs (ns.map PyData.int) → vs = ns.map V.int
  | [], _, .nil => rfl
  | n :: ns, _, .cons (.int _) t => congrArg (V.int n :: ·) (RpAll.of_ints t)
theorem RpAll.strs : ∀ (ns : List Str), RpAll K H (ns.map V.str) (ns.map PyData.str)
  | [] => .nil
  | n :: ns => .cons (.str n) (RpAll.strs ns)
theorem RpAll.of_strs : ∀ {ns : List Str} {vs : List V}, RpAll K H vs (ns.map PyData.str) → vs = ns.map V.str
  | [], _, .nil => rfl
  | n :: ns, _, .cons (.str _) t => congrArg (V.str n :: ·) (RpAll.of_strs t)
theorem RpAll.of_bls : ∀ {ns : List Bool} {vs : List V}, RpAll K H vs (ns.map PyData.bool) → vs = ns.map V.bl
  | [], _, .nil => rfl
  | n :: ns, _, .cons (.bl _) t => congrArg (V.bl n :: ·) (RpAll.of_bls t)
theorem RpKV.length : ∀ {vs : List (Key × V)} {ds : List (PyData × PyData)}, RpKV K H vs ds → vs.length = ds.length
  | _, _, .nil => rfl
  | _, _, .cons _ t => congrArg (· + 1) (RpKV.length t)
end

/-! ## data of Lean as data of Python -/
class Emb (α : Type) where
  emb : α → PyData
open Emb
instance : Emb Int := ⟨PyData.int⟩
instance : Emb Bool := ⟨PyData.bool⟩
instance : Emb Str := ⟨PyData.str⟩
instance : Emb Unit := ⟨fun _ => PyData.none⟩
instance : Emb PyData := ⟨fun d => d⟩
instance {α : Type} [Emb α] : Emb (List α) := ⟨fun xs => PyData.list (xs.map emb)⟩
instance {α : Type} [Emb α] : Emb (Option α) := ⟨fun o => match o with | none => PyData.none | some x => emb x⟩
structure T1 (α : Type) where
  p0 : α
  deriving DecidableEq
structure T2 (α β : Type) where
  p0 : α
  p1 : β
  deriving DecidableEq
structure T3 (α β γ : Type) where
  p0 : α
  p1 : β
  p2 : γ
  deriving DecidableEq
structure T4 (α β γ δ : Type) where
  p0 : α
  p1 : β
  p2 : γ
  p3 : δ
  deriving DecidableEq
structure T5 (α β γ δ ε : Type) where
  p0 : α
  p1 : β
  p2 : γ
  p3 : δ
  p4 : ε
  deriving DecidableEq
structure Tl (α : Type) where
  l : List α
/-- a dict -/
structure Dic (κ α : Type) where
  kvs : List (κ × α)
section
variable {α β γ δ ε κ : Type} [Emb α] [Emb β] [Emb γ] [Emb δ] [Emb ε] [Emb κ]
instance : Emb (T1 α) := ⟨fun t => PyData.tuple [emb t.p0]⟩
instance : Emb (T2 α β) := ⟨fun t => PyData.tuple [emb t.p0, emb t.p1]⟩
instance : Emb (T3 α β γ) := ⟨fun t => PyData.tuple [emb t.p0, emb t.p1, emb t.p2]⟩
instance : Emb (T4 α β γ δ) := ⟨fun t => PyData.tuple [emb t.p0, emb t.p1, emb t.p2, emb t.p3]⟩
instance : Emb (T5 α β γ δ ε) := ⟨fun t => PyData.tuple [emb t.p0, emb t.p1, emb t.p2, emb t.p3, emb t.p4]⟩
instance : Emb (Tl α) := ⟨fun t => PyData.tuple (t.l.map emb)⟩
instance : Emb (Dic κ α) := ⟨fun t => PyData.dict (t.kvs.map fun p => (emb p.1, emb p.2))⟩
end
/-- an own exception: its class by its number, its one argument -/
structure Exn where
  c : Nat
  a : PyData

/-- what a body leans on: what stood at its entry (h; for good: t), and what has come to stand for good (s) -/
structure Bs where
  h : Hp
  t : Hp
  s : Hp
structure Gr (B : List Addr) (b : Bs) (w' : Wl) : Prop where
  h : ∀ a o, a ∉ B → b.h a = some o → w'.h a = some o
  s : Ex b.s w'.s
  own : ∀ a, b.h a ≠ none → b.t a = none → w'.s a = none
  dom : ∀ a, b.h a ≠ none → w'.h a ≠ none
theorem Gr.trans {B : List Addr} {b : Bs} {w1 w2 : Wl} (a : Gr B b w1) (g : Grow [] w1 w2) : Gr B b w2 :=
  ⟨fun x o hx e => g.h x o (by simp) (a.h x o hx e), a.s.trans g.s, fun x h1 h2 => g.own x (a.dom x h1) (a.own x h1 h2), fun x e => g.dom x (a.dom x e)⟩
/-! ## slots -/
inductive FD where
  | st (d : PyData)
  | ol (ds : List PyData)
inductive OD where
  | lst (ds : List PyData)
  | dic (kvs : List (PyData × PyData))
  | mat (rows : List (List PyData))
  | matA (r : Addr) (ps : List Addr) (rows : List (List PyData))
  | ins (C : Addr) (fs : List (Str × FD))
inductive Sl where
  | junk
  | dat (d : PyData)
  | own (o : OD)
  | bor (o : OD)
  | ptr (p : Addr)
  | exc (a dd : Addr) (f : Str) (d : PyData)
abbrev Evm := List Sl
section
variable {K : PySem.W.Frag} {w w' : Wl} {w0 : Bs} {B : List Addr}
inductive RowsOk (K : PySem.W.Frag) (w : Wl) : List Addr → List (List PyData) → Prop
  | nil : RowsOk K w [] []
  | cons {p : Addr} {ps : List Addr} {vs : List V} {ds : List PyData} {rows : List (List PyData)} : w.h p = some (.lst vs) → RpAll K w.s vs ds → RowsOk K w ps rows → RowsOk K w (p :: ps) (ds :: rows)
inductive FldsOk (K : PySem.W.Frag) (w : Wl) : List (Str × V) → List (Str × FD) → List Addr → Prop
  | nil : FldsOk K w [] [] []
  | st {f : Str} {v : V} {d : PyData} {fvs : List (Str × V)} {fs : List (Str × FD)} {fq : List Addr} : Rp K w.s v d → FldsOk K w fvs fs fq → FldsOk K w ((f, v) :: fvs) ((f, .st d) :: fs) fq
  | ol {f : Str} {q : Addr} {vs : List V} {ds : List PyData} {fvs : List (Str × V)} {fs : List (Str × FD)} {fq : List Addr} : w.h q = some (.lst vs) → RpAll K w.s vs ds → FldsOk K w fvs fs fq →
      FldsOk K w ((f, .ref q) :: fvs) ((f, .ol ds) :: fs) (q :: fq)
def OwnOk (K : PySem.W.Frag) (w : Wl) (v : V) (o : OD) (fp : List Addr) : Prop :=
  match o with
  | .lst ds => ∃ p vs, v = .ref p ∧ fp = [p] ∧ w.h p = some (.lst vs) ∧ RpAll K w.s vs ds
  | .dic kvs => ∃ p kv, v = .ref p ∧ fp = [p] ∧ w.h p = some (.dK kv) ∧ RpKV K w.s kv kvs
  | .mat rows => ∃ r ps, v = .ref r ∧ fp = r :: ps ∧ w.h r = some (.lst (ps.map V.ref)) ∧ RowsOk K w ps rows
  | .matA r ps rows => v = .ref r ∧ fp = r :: ps ∧ w.h r = some (.lst (ps.map V.ref)) ∧ RowsOk K w ps rows
  | .ins C fs => ∃ p dx fvs fq, v = .ref p ∧ fp = p :: dx :: fq ∧ w.h p = some (.ins C dx fvs) ∧ w.h dx = some (.own p) ∧ FldsOk K w fvs fs fq
/-- what a slot holds; fp: the places that it alone may change -/
def SlOk (K : PySem.W.Frag) (B : List Addr) (w0 : Bs) (w : Wl) (x : Option V) (e : Sl) (fp : List Addr) : Prop :=
  match e with
  | .junk => fp = []
  | .dat d => fp = [] ∧ ∃ v, x = some v ∧ Rp K w.s v d
  | .own o => fp.Nodup ∧ (∀ a ∈ fp, w.s a = none ∧ w.h a ≠ none ∧ w0.h a = none) ∧ ∃ v, x = some v ∧ OwnOk K w v o fp
  | .bor o => fp.Nodup ∧ (∀ a ∈ fp, w.s a = none ∧ w.h a ≠ none ∧ (w0.h a = none ∨ a ∈ B)) ∧ ∃ v, x = some v ∧ OwnOk K w v o fp
  | .ptr p => fp = [] ∧ x = some (.ref p)
  | .exc a dd f d => fp = [] ∧ x = some (.ref a) ∧ ∃ v, w.s dd = some (.xd [(f, v)]) ∧ Rp K w.s v d
structure Sat (K : PySem.W.Frag) (B : List Addr) (w0 : Bs) (w : Wl) (σ : St) (env : Evm) : Prop where
  grow : Gr B w0 w
  len : σ.length = env.length
  sl : ∃ fps : Nat → List Addr, (∀ i, SlOk K B w0 w (σ.getD i none) (env.getD i .junk) (fps i)) ∧ ∀ i j a, i ≠ j → a ∈ fps i → a ∉ fps j

theorem exh (g : Grow [] w w') : Ex w.h w'.h := fun a o e => g.h a o (by simp) e
theorem RowsOk.mono (g : Grow [] w w') : ∀ {ps : List Addr} {rows : List (List PyData)}, RowsOk K w ps rows → RowsOk K w' ps rows
  | _, _, .nil => .nil
  | _, _, .cons h r t => .cons (exh g _ _ h) (r.mono g.s) (RowsOk.mono g t)
theorem FldsOk.mono (g : Grow [] w w') : ∀ {a : List (Str × V)} {b : List (Str × FD)} {c : List Addr}, FldsOk K w a b c → FldsOk K w' a b c
  | _, _, _, .nil => .nil
  | _, _, _, .st r t => .st (r.mono g.s) (FldsOk.mono g t)
  | _, _, _, .ol h r t => .ol (exh g _ _ h) (r.mono g.s) (FldsOk.mono g t)
theorem OwnOk.mono (g : Grow [] w w') {v : V} {o : OD} {fp : List Addr} (h : OwnOk K w v o fp) : OwnOk K w' v o fp := by
  cases o with
  | lst ds => obtain ⟨p, vs, e1, e2, e3, e4⟩ := h; exact ⟨p, vs, e1, e2, exh g _ _ e3, e4.mono g.s⟩
  | dic kvs => obtain ⟨p, vs, e1, e2, e3, e4⟩ := h; exact ⟨p, vs, e1, e2, exh g _ _ e3, e4.mono g.s⟩
  | mat rows => obtain ⟨p, vs, e1, e2, e3, e4⟩ := h; exact ⟨p, vs, e1, e2, exh g _ _ e3, e4.mono g⟩
  | matA p ps rows => obtain ⟨e1, e2, e3, e4⟩ := h; exact ⟨e1, e2, exh g _ _ e3, e4.mono g⟩
  | ins C fs => obtain ⟨p, dx, fvs, fq, e1, e2, e3, e4, e5⟩ := h; exact ⟨p, dx, fvs, fq, e1, e2, exh g _ _ e3, exh g _ _ e4, e5.mono g⟩
theorem SlOk.mono (g : Grow [] w w') {x : Option V} {e : Sl} {fp : List Addr} (h : SlOk K B w0 w x e fp) : SlOk K B w0 w' x e fp := by
  cases e with
  | junk => exact h
  | dat d => obtain ⟨e1, v, e2, e3⟩ := h; exact ⟨e1, v, e2, e3.mono g.s⟩
  | own o =>
    obtain ⟨n, a, v, e2, e3⟩ := h
    exact ⟨n, fun b hb => ⟨g.own b (a b hb).2.1 (a b hb).1, g.dom b (a b hb).2.1, (a b hb).2.2⟩, v, e2, e3.mono g⟩
  | bor o =>
    obtain ⟨n, a, v, e2, e3⟩ := h
    exact ⟨n, fun b hb => ⟨g.own b (a b hb).2.1 (a b hb).1, g.dom b (a b hb).2.1, (a b hb).2.2⟩, v, e2, e3.mono g⟩
  | ptr p => exact h
  | exc a dd f d => obtain ⟨e1, e2, v, e3, e4⟩ := h; exact ⟨e1, e2, v, g.s _ _ e3, e4.mono g.s⟩
theorem Sat.mono {σ : St} {env : Evm} (h : Sat K B w0 w σ env) (g : Grow [] w w') : Sat K B w0 w' σ env := by
  obtain ⟨a, b, fps, c, d⟩ := h
  exact ⟨a.trans g, b, fps, fun i => (c i).mono g, d⟩
theorem getD_set {α : Type} (l : List α) (i j : Nat) (x d : α) (h : i < l.length) : (l.set i x).getD j d = if j = i then x else l.getD j d := by
  rw [List.getD_eq_getElem?_getD, List.getElem?_set, List.getD_eq_getElem?_getD]
  by_cases e : i = j
  · subst e; rw [if_pos rfl, if_pos rfl, if_pos h]; rfl
  · rw [if_neg e, if_neg (fun q => e q.symm)]
structure SatF (K : PySem.W.Frag) (B : List Addr) (w0 : Bs) (w : Wl) (σ : L2.St) (env : Evm) (fps : Nat → List Addr) : Prop where
  grow : Gr B w0 w
  len : σ.length = env.length
  sl : ∀ i, SlOk K B w0 w (σ.getD i none) (env.getD i .junk) (fps i)
  dj : ∀ i j a, i ≠ j → a ∈ fps i → a ∉ fps j
theorem Sat.f {σ : L2.St} {env : Evm} (h : Sat K B w0 w σ env) : ∃ fps, SatF K B w0 w σ env fps := let ⟨a, b, fps, c, d⟩ := h; ⟨fps, a, b, c, d⟩
theorem SatF.sat {σ : L2.St} {env : Evm} {fps : Nat → List Addr} (h : SatF K B w0 w σ env fps) : Sat K B w0 w σ env := ⟨h.grow, h.len, fps, h.sl, h.dj⟩
theorem SatF.mono {σ : L2.St} {env : Evm} {fps : Nat → List Addr} (h : SatF K B w0 w σ env fps) (g : Grow [] w w') : SatF K B w0 w' σ env fps := ⟨h.grow.trans g, h.len, fun i => (h.sl i).mono g, h.dj⟩
theorem SatF.put {σ : L2.St} {env : Evm} {fps : Nat → List Addr} {i : Nat} {x : Option V} {e : Sl} {fp : List Addr} (h : SatF K B w0 w σ env fps) (hi : i < env.length) (he : SlOk K B w0 w x e fp)
    (hfp : ∀ a ∈ fp, ∀ j, j ≠ i → a ∉ fps j) : SatF K B w0 w (σ.set i x) (env.set i e) (fun j => if j = i then fp else fps j) := by
  obtain ⟨a, b, c, d⟩ := h
  refine ⟨a, by rw [List.length_set, List.length_set, b], fun j => ?_, fun j k z hjk hz => ?_⟩
  · rw [getD_set _ _ _ _ _ (by omega), getD_set _ _ _ _ _ hi]
    by_cases e : j = i
    · rw [if_pos e, if_pos e, if_pos e]; exact he
    · rw [if_neg e, if_neg e, if_neg e]; exact c j
  · have hz : z ∈ (if j = i then fp else fps j) := hz
    show z ∉ (if k = i then fp else fps k)
    by_cases e1 : j = i
    · rw [if_pos e1] at hz
      have e2 : k ≠ i := fun q => hjk (e1.trans q.symm)
      rw [if_neg e2]
      exact hfp z hz k e2
    · rw [if_neg e1] at hz
      by_cases e2 : k = i
      · rw [if_pos e2]; exact fun q => hfp z q j e1 hz
      · rw [if_neg e2]; exact d j k z hjk hz
/-- what is slot j's own was there -/
theorem SatF.there {σ : L2.St} {env : Evm} {fps : Nat → List Addr} (h : SatF K B w0 w σ env fps) {j : Nat} {a : Addr} (ha : a ∈ fps j) : w.s a = none ∧ w.h a ≠ none := by
  have c := h.sl j
  cases e : env.getD j .junk with
  | junk => rw [e] at c; rw [show fps j = [] from c] at ha; cases ha
  | dat d => rw [e] at c; rw [show fps j = [] from c.1] at ha; cases ha
  | own o => rw [e] at c; exact ⟨(c.2.1 a ha).1, (c.2.1 a ha).2.1⟩
  | bor o => rw [e] at c; exact ⟨(c.2.1 a ha).1, (c.2.1 a ha).2.1⟩
  | ptr p => rw [e] at c; rw [show fps j = [] from c.1] at ha; cases ha
  | exc b dd f d => rw [e] at c; rw [show fps j = [] from c.1] at ha; cases ha
theorem Sat.dat {σ : St} {env : Evm} {i : Nat} {v : V} {d : PyData} (h : Sat K B w0 w σ env) (hi : i < env.length) (r : Rp K w.s v d) : Sat K B w0 w (σ.set i (some v)) (env.set i (.dat d)) :=
  let ⟨_, f⟩ := h.f; (f.put (e := .dat d) hi (fp := []) ⟨rfl, v, rfl, r⟩ (fun _ ha => nomatch ha)).sat
theorem Sat.junk {σ : St} {env : Evm} {i : Nat} {x : Option V} (h : Sat K B w0 w σ env) (hi : i < env.length) : Sat K B w0 w (σ.set i x) (env.set i .junk) :=
  let ⟨_, f⟩ := h.f; (f.put (e := .junk) hi (fp := []) (show ([] : List Addr) = [] from rfl) (fun _ ha => nomatch ha)).sat
/-- what is told of an own thing leans on its own places alone -/
theorem RowsOk.frame : ∀ {ps : List Addr} {rows : List (List PyData)}, RowsOk K w ps rows → (∀ a ∈ ps, w'.h a = w.h a) → Ex w.s w'.s → RowsOk K w' ps rows
  | _, _, .nil, _, _ => .nil
  | _, _, .cons h r t, f, e => .cons ((f _ List.mem_cons_self).trans h) (r.mono e) (RowsOk.frame t (fun a ha => f a (List.mem_cons_of_mem _ ha)) e)
theorem FldsOk.frame : ∀ {a : List (Str × V)} {b : List (Str × FD)} {c : List Addr}, FldsOk K w a b c → (∀ x ∈ c, w'.h x = w.h x) → Ex w.s w'.s → FldsOk K w' a b c
  | _, _, _, .nil, _, _ => .nil
  | _, _, _, .st r t, f, e => .st (r.mono e) (FldsOk.frame t f e)
  | _, _, _, .ol h r t, f, e => .ol ((f _ List.mem_cons_self).trans h) (r.mono e) (FldsOk.frame t (fun a ha => f a (List.mem_cons_of_mem _ ha)) e)
theorem OwnOk.frame {v : V} {o : OD} {fp : List Addr} (h : OwnOk K w v o fp) (f : ∀ a ∈ fp, w'.h a = w.h a) (e : Ex w.s w'.s) : OwnOk K w' v o fp := by
  cases o with
  | lst ds => obtain ⟨p, vs, rfl, rfl, e3, e4⟩ := h; exact ⟨p, vs, rfl, rfl, (f p List.mem_cons_self).trans e3, e4.mono e⟩
  | dic kvs => obtain ⟨p, vs, rfl, rfl, e3, e4⟩ := h; exact ⟨p, vs, rfl, rfl, (f p List.mem_cons_self).trans e3, e4.mono e⟩
  | mat rows => obtain ⟨p, ps, rfl, rfl, e3, e4⟩ := h; exact ⟨p, ps, rfl, rfl, (f p List.mem_cons_self).trans e3, e4.frame (fun a ha => f a (List.mem_cons_of_mem _ ha)) e⟩
  | matA p ps rows => obtain ⟨rfl, rfl, e3, e4⟩ := h; exact ⟨rfl, rfl, (f p List.mem_cons_self).trans e3, e4.frame (fun a ha => f a (List.mem_cons_of_mem _ ha)) e⟩
  | ins C fs =>
    obtain ⟨p, dx, fvs, fq, rfl, rfl, e3, e4, e5⟩ := h
    exact ⟨p, dx, fvs, fq, rfl, rfl, (f p List.mem_cons_self).trans e3, (f dx (List.mem_cons_of_mem _ List.mem_cons_self)).trans e4, e5.frame (fun a ha => f a (List.mem_cons_of_mem _ (List.mem_cons_of_mem _ ha))) e⟩
theorem SlOk.frame {x : Option V} {e : Sl} {fp : List Addr} (h : SlOk K B w0 w x e fp) (f : ∀ a ∈ fp, w'.h a = w.h a ∧ w'.s a = w.s a) (ex : Ex w.s w'.s) : SlOk K B w0 w' x e fp := by
  cases e with
  | junk => exact h
  | dat d => obtain ⟨e1, v, e2, e3⟩ := h; exact ⟨e1, v, e2, e3.mono ex⟩
  | own o =>
    obtain ⟨n, a, v, e2, e3⟩ := h
    exact ⟨n, fun b hb => ⟨(f b hb).2.trans (a b hb).1, by rw [(f b hb).1]; exact (a b hb).2.1, (a b hb).2.2⟩, v, e2, e3.frame (fun b hb => (f b hb).1) ex⟩
  | bor o =>
    obtain ⟨n, a, v, e2, e3⟩ := h
    exact ⟨n, fun b hb => ⟨(f b hb).2.trans (a b hb).1, by rw [(f b hb).1]; exact (a b hb).2.1, (a b hb).2.2⟩, v, e2, e3.frame (fun b hb => (f b hb).1) ex⟩
  | ptr p => exact h
  | exc a dd f d => obtain ⟨e1, e2, v, e3, e4⟩ := h; exact ⟨e1, e2, v, ex _ _ e3, e4.mono ex⟩
/-- from w to w' only places of slot i's own are touched, and it holds e then -/
theorem SatF.turn {σ : L2.St} {env : Evm} {fps : Nat → List Addr} {i : Nat} {x : Option V} {e : Sl} {fp : List Addr} (h : SatF K B w0 w σ env fps) (hi : i < env.length) (g : Gr B w0 w') (ex : Ex w.s w'.s)
    (f : ∀ j, j ≠ i → ∀ a ∈ fps j, w'.h a = w.h a ∧ w'.s a = w.s a) (he : SlOk K B w0 w' x e fp) (hfp : ∀ a ∈ fp, ∀ j, j ≠ i → a ∉ fps j) : SatF K B w0 w' (σ.set i x) (env.set i e) (fun j => if j = i then fp else fps j) := by
  obtain ⟨_, b, c, d⟩ := h
  refine ⟨g, by rw [List.length_set, List.length_set, b], fun j => ?_, fun j k z hjk hz => ?_⟩
  · rw [getD_set _ _ _ _ _ (by omega), getD_set _ _ _ _ _ hi]
    by_cases e : j = i
    · rw [if_pos e, if_pos e, if_pos e]; exact he
    · rw [if_neg e, if_neg e, if_neg e]; exact (c j).frame (f j e) ex
  · have hz : z ∈ (if j = i then fp else fps j) := hz
    show z ∉ (if k = i then fp else fps k)
    by_cases e1 : j = i
    · rw [if_pos e1] at hz
      have e2 : k ≠ i := fun q => hjk (e1.trans q.symm)
      rw [if_neg e2]
      exact hfp z hz k e2
    · rw [if_neg e1] at hz
      by_cases e2 : k = i
      · rw [if_pos e2]; exact fun q => hfp z q j e1 hz
      · rw [if_neg e2]; exact d j k z hjk hz
/-- the second knows no more than the first -/
def Le : Evm → Evm → Prop
  | [], [] => True
  | e :: es, e' :: es' => (e' = .junk ∨ e' = e) ∧ Le es es'
  | _, _ => False
theorem Le.refl : ∀ e : Evm, Le e e
  | [] => trivial
  | _ :: es => ⟨.inr rfl, Le.refl es⟩
theorem Le.trans : ∀ {a b c : Evm}, Le a b → Le b c → Le a c
  | [], [], [], _, _ => trivial
  | x :: a, y :: b, z :: c, ⟨h1, h2⟩, ⟨h3, h4⟩ => ⟨by
      rcases h3 with h3 | h3
      · exact .inl h3
      · rw [h3]; exact h1, Le.trans h2 h4⟩
theorem Le.length : ∀ {a b : Evm}, Le a b → a.length = b.length
  | [], [], _ => rfl
  | _ :: a, _ :: b, h => congrArg (· + 1) (Le.length h.2)
theorem Le.get : ∀ {a b : Evm}, Le a b → ∀ i, b.getD i .junk = .junk ∨ b.getD i .junk = a.getD i .junk
  | [], [], _, _ => .inl rfl
  | _ :: _, _ :: _, h, 0 => h.1
  | _ :: a, _ :: b, h, i + 1 => Le.get (a := a) (b := b) h.2 i
open Classical in
theorem Sat.weak {σ : St} {env env' : Evm} (h : Sat K B w0 w σ env) (l : Le env env') : Sat K B w0 w σ env' := by
  obtain ⟨a, b, fps, c, d⟩ := h
  refine ⟨a, b.trans l.length, fun i => if env'.getD i .junk = env.getD i .junk then fps i else [], fun i => ?_, fun i j z hij hz => ?_⟩
  · dsimp only
    rcases l.get i with e | e
    · by_cases q : env'.getD i .junk = env.getD i .junk
      · rw [if_pos q, q]; exact c i
      · rw [if_neg q, e]; exact rfl
    · rw [if_pos e, e]; exact c i
  · dsimp only at hz ⊢
    by_cases q : env'.getD i .junk = env.getD i .junk
    · rw [if_pos q] at hz
      by_cases q' : env'.getD j .junk = env.getD j .junk
      · rw [if_pos q']; exact d i j z hij hz
      · rw [if_neg q']; simp
    · rw [if_neg q] at hz; simp at hz
theorem Sat.get {σ : St} {env : Evm} {i : Nat} {d : PyData} (h : Sat K B w0 w σ env) (he : env[i]? = some (.dat d)) : ∃ v, σ[i]? = some (some v) ∧ Rp K w.s v d := by
  obtain ⟨a, b, fps, c, _⟩ := h
  have q := c i
  rw [List.getD_eq_getElem?_getD, List.getD_eq_getElem?_getD, he] at q
  obtain ⟨_, v, e, r⟩ := q
  have hl : i < σ.length := by rw [b]; exact (List.getElem?_eq_some_iff.mp he).1
  refine ⟨v, ?_, r⟩
  rw [List.getElem?_eq_getElem hl] at e ⊢
  exact congrArg some e
theorem Sat.getO {σ : St} {env : Evm} {i : Nat} {o : OD} (h : Sat K B w0 w σ env) (he : env[i]? = some (.own o) ∨ env[i]? = some (.bor o)) : ∃ v fp, σ[i]? = some (some v) ∧ OwnOk K w v o fp := by
  obtain ⟨a, b, fps, c, _⟩ := h
  have q := c i
  have hl : i < σ.length := by rw [b]; rcases he with he | he <;> exact (List.getElem?_eq_some_iff.mp he).1
  rcases he with he | he <;>
  · rw [List.getD_eq_getElem?_getD, List.getD_eq_getElem?_getD, he] at q
    obtain ⟨_, _, v, e, r⟩ := q
    refine ⟨v, fps i, ?_, r⟩
    rw [List.getElem?_eq_getElem hl] at e ⊢
    exact congrArg some e
end
end Fw


namespace Fw
open PySem PySem.Spec L2 Emb
/-! ## worlds that grow -/
section
variable {K : PySem.W.Frag} {w w' : Wl} {w0 : Bs} {B : List Addr} {p : Addr} {o : HO}
def Wl.new (w : Wl) (p : Addr) (o : HO) (hp : w.h p = none) : Wl := ⟨w.s, upd w.h p o, fun a u e => by
  rw [upd_ne (ne_of_none (w.le a u e) hp)]
  exact w.le a u e⟩
theorem grow_new (hp : w.h p = none) : Grow [] w (w.new p o hp) := by
  refine ⟨fun a u _ e => ?_, Ex.refl _, fun a _ e => e, fun a e => ?_⟩
  · show upd w.h p o a = some u
    rw [upd_ne (ne_of_none e hp)]; exact e
  · show upd w.h p o a ≠ none
    intro q
    by_cases c : a = p
    · exact e (c ▸ hp)
    · rw [upd_ne c] at q; exact e q
theorem s_none (hp : w.h p = none) : w.s p = none := by
  cases e : w.s p with
  | none => rfl
  | some u => rw [w.le p u e] at hp; cases hp
def Wl.fix (w : Wl) (p : Addr) (o : HO) (h : w.h p = some o) : Wl := ⟨upd w.s p o, w.h, fun a u e => by
  by_cases c : a = p
  · subst c; rw [upd_same] at e; rw [h]; exact e
  · rw [upd_ne c] at e; exact w.le a u e⟩
theorem ex_fix (h : w.h p = some o) : Ex w.s (w.fix p o h).s := fun a u e => by
  show upd w.s p o a = some u
  by_cases c : a = p
  · subst c; rw [upd_same]; rw [w.le a u e] at h; exact h.symm
  · rw [upd_ne c]; exact e
theorem fix_same (h : w.h p = some o) : (w.fix p o h).s p = some o := upd_same
theorem grow_fix (g : Grow [] w w') (hp : w.h p = none) (h : w'.h p = some o) : Grow [] w (w'.fix p o h) := by
  refine ⟨fun a u hb e => g.h a u hb e, g.s.trans (ex_fix h), fun a e1 e2 => ?_, fun a e => g.dom a e⟩
  show upd w'.s p o a = none
  have c : a ≠ p := fun q => e1 (q ▸ hp)
  rw [upd_ne c]; exact g.own a e1 e2
/-- a new list for good -/
theorem rp_newL {vs : List V} {ds : List PyData} (hp : w.h p = none) (r : RpAll K w.s vs ds) :
    ∃ w' : Wl, w'.h = upd w.h p (.lst vs) ∧ Grow [] w w' ∧ Rp K w'.s (.ref p) (.list ds) := by
  have e : (w.new p (.lst vs) hp).h p = some (.lst vs) := upd_same
  have g := grow_fix (grow_new (o := .lst vs) hp) hp e
  exact ⟨(w.new p (.lst vs) hp).fix p (.lst vs) e, rfl, g, .lst upd_same (r.mono g.s)⟩
theorem rp_newT {vs : List V} {ds : List PyData} (hp : w.h p = none) (r : RpAll K w.s vs ds) :
    ∃ w' : Wl, w'.h = upd w.h p (.tup vs) ∧ Grow [] w w' ∧ Rp K w'.s (.ref p) (.tuple ds) := by
  have e : (w.new p (.tup vs) hp).h p = some (.tup vs) := upd_same
  have g := grow_fix (grow_new (o := .tup vs) hp) hp e
  exact ⟨(w.new p (.tup vs) hp).fix p (.tup vs) e, rfl, g, .tup (Or.inl (Or.inl upd_same)) (r.mono g.s)⟩
end
/-! ## what evaluates to what -/
section
variable (K : PySem.W.Frag)
def EvE (te : TE) (env : Evm) (d : PyData) : Prop := ∀ B w0 w σ, Sat K B w0 w σ env → ∀ Q : VK, (∀ v w', Grow [] w w' → Rp K w'.s v d → Q v w'.h) → te σ w.h Q
def EvT (tt : TT) (env : Evm) (b : Bool) : Prop := ∀ B w0 w σ, Sat K B w0 w σ env → ∀ Q : Bool → Hp → Prop, (∀ w', Grow [] w w' → Q b w'.h) → tt σ w.h Q
def EvA (ta : TA) (env : Evm) (ds : List PyData) : Prop := ∀ B w0 w σ, Sat K B w0 w σ env → ∀ Q : List V → Hp → Prop, (∀ vs w', Grow [] w w' → RpAll K w'.s vs ds → Q vs w'.h) → ta σ w.h Q
/-- a new list -/
def EvN (te : TE) (env : Evm) (ds : List PyData) : Prop := ∀ B w0 w σ, Sat K B w0 w σ env → ∀ Q : VK,
  (∀ p vs w', w.h p = none → Grow [] w w' → w'.h p = some (.lst vs) → w'.s p = none → RpAll K w'.s vs ds → Q (.ref p) w'.h) → te σ w.h Q
def EvO (to : TO) (env : Evm) (o : Option Int) : Prop := ∀ B w0 w σ, Sat K B w0 w σ env → ∀ Q : Option Int → Hp → Prop, (∀ w', Grow [] w w' → Q o w'.h) → to σ w.h Q
/-- a two-place operation on data; a one-place one; a call on data; one that makes a new list -/
def RV (r : R2) (x y z : PyData) : Prop := ∀ w u v, Rp K w.s u x → Rp K w.s v y → ∀ Q : VK, (∀ v' w', Grow [] w w' → Rp K w'.s v' z → Q v' w'.h) → r u v w.h Q
def RU (r : V → Hp → VK → Prop) (x z : PyData) : Prop := ∀ w u, Rp K w.s u x → ∀ Q : VK, (∀ v' w', Grow [] w w' → Rp K w'.s v' z → Q v' w'.h) → r u w.h Q
def RC (r : List V → Hp → VK → Prop) (ds : List PyData) (z : PyData) : Prop := ∀ w us, RpAll K w.s us ds → ∀ Q : VK, (∀ v' w', Grow [] w w' → Rp K w'.s v' z → Q v' w'.h) → r us w.h Q
def RCN (r : List V → Hp → VK → Prop) (ds : List PyData) (zs : List PyData) : Prop := ∀ w us, RpAll K w.s us ds → ∀ Q : VK,
  (∀ p vs w', w.h p = none → Grow [] w w' → w'.h p = some (.lst vs) → w'.s p = none → RpAll K w'.s vs zs → Q (.ref p) w'.h) → r us w.h Q
end
section
variable {K : PySem.W.Frag} {env : Evm} {te ta tb tc : TE} {x y z d : PyData} {r : R2} {t u : TT} {a b : Bool}
theorem EvN.e {ds : List PyData} (h : EvN K te env ds) : EvE K te env (.list ds) := fun B w0 w σ s Q q =>
  h B w0 w σ s Q fun p vs w' hp g e _ r => q (.ref p) (w'.fix p _ e) (grow_fix g hp e) (.lst (fix_same e) (r.mono (ex_fix e)))
theorem ev_var {i : Nat} (h : env[i]? = some (.dat d)) : EvE K (tVar i) env d := fun B w0 w σ s Q q => by
  obtain ⟨v, e, r⟩ := s.get h
  exact ⟨v, e, q v w (Grow.refl _ _) r⟩
theorem ev_c {v : V} (h : ∀ H, Rp K H v d) : EvE K (tC v) env d := fun B w0 w σ s Q q => q v w (Grow.refl _ _) (h _)
theorem ev_op (ha : EvE K ta env x) (hb : EvE K tb env y) (hr : RV K r x y z) : EvE K (tOp r ta tb) env z := fun B w0 w σ s Q q =>
  ha B w0 w σ s _ fun v w1 g1 r1 => hb B w0 w1 σ (s.mono g1) _ fun v2 w2 g2 r2 => hr w2 _ _ (r1.mono g2.s) r2 _ fun v3 w3 g3 r3 => q v3 w3 ((g1.trans g2).trans g3) r3
theorem ev_un {r : V → Hp → VK → Prop} (ha : EvE K ta env x) (hr : RU K r x z) : EvE K (tUn r ta) env z := fun B w0 w σ s Q q =>
  ha B w0 w σ s _ fun v w1 g1 r1 => hr w1 _ r1 _ fun v3 w3 g3 r3 => q v3 w3 (g1.trans g3) r3
theorem ev_CB {r : List V → Hp → VK → Prop} {ds : List PyData} {t : TA} (ha : EvA K t env ds) (hr : RC K r ds z) : EvE K (tCB r t) env z := fun B w0 w σ s Q q =>
  ha B w0 w σ s _ fun v w1 g1 r1 => hr w1 _ r1 _ fun v3 w3 g3 r3 => q v3 w3 (g1.trans g3) r3
theorem ev_CBN {r : List V → Hp → VK → Prop} {ds zs : List PyData} {t : TA} (ha : EvA K t env ds) (hr : RCN K r ds zs) : EvN K (tCB r t) env zs := fun B w0 w σ s Q q =>
  ha B w0 w σ s _ fun v w1 g1 r1 => hr w1 _ r1 _ fun p vs w3 hp g3 e1 e2 r3 => q p vs w3 (by
    cases e : w.h p with
    | none => rfl
    | some o => rw [exh g1 _ _ e] at hp; cases hp) (g1.trans g3) e1 e2 r3
theorem et_test (h : EvE K te env (.bool b)) : EvT K (tTest te) env b := fun B w0 w σ s Q q => h B w0 w σ s _ fun v w1 g1 r1 => by
  cases r1
  exact ⟨b, rfl, q w1 g1⟩
theorem et_B (h : EvE K te env (.bool b)) : EvT K (tB te) env b := et_test h
theorem et_and (h1 : EvT K t env a) (h2 : a = true → EvT K u env b) : EvT K (tAnd t u) env (a && b) := fun B w0 w σ s Q q => h1 B w0 w σ s _ fun w1 g1 => by
  cases a with
  | true => exact h2 rfl B w0 w1 σ (s.mono g1) Q fun w2 g2 => q w2 (g1.trans g2)
  | false => exact q w1 g1
theorem et_or (h1 : EvT K t env a) (h2 : a = false → EvT K u env b) : EvT K (tOr t u) env (a || b) := fun B w0 w σ s Q q => h1 B w0 w σ s _ fun w1 g1 => by
  cases a with
  | true => exact q w1 g1
  | false => exact h2 rfl B w0 w1 σ (s.mono g1) Q fun w2 g2 => q w2 (g1.trans g2)
theorem et_not (h1 : EvT K t env a) : EvT K (tNot t) env (!a) := fun B w0 w σ s Q q => h1 B w0 w σ s _ fun w1 g1 => q w1 g1
theorem ev_andV (h1 : EvE K ta env (.bool a)) (h2 : a = true → EvE K tb env (.bool b)) : EvE K (tAndV ta tb) env (.bool (a && b)) := fun B w0 w σ s Q q => h1 B w0 w σ s _ fun v w1 g1 r1 => by
  cases r1
  refine ⟨a, rfl, ?_⟩
  cases a with
  | true => exact h2 rfl B w0 w1 σ (s.mono g1) Q fun v w2 g2 r => q v w2 (g1.trans g2) r
  | false => exact q _ w1 g1 (.bl _)
theorem ev_orV (h1 : EvE K ta env (.bool a)) (h2 : a = false → EvE K tb env (.bool b)) : EvE K (tOrV ta tb) env (.bool (a || b)) := fun B w0 w σ s Q q => h1 B w0 w σ s _ fun v w1 g1 r1 => by
  cases r1
  refine ⟨a, rfl, ?_⟩
  cases a with
  | true => exact q _ w1 g1 (.bl _)
  | false => exact h2 rfl B w0 w1 σ (s.mono g1) Q fun v w2 g2 r => q v w2 (g1.trans g2) r
theorem ev_notV (h1 : EvE K ta env (.bool a)) : EvE K (tNotV ta) env (.bool (!a)) := fun B w0 w σ s Q q => h1 B w0 w σ s _ fun v w1 g1 r1 => by
  cases r1
  exact ⟨a, rfl, q _ w1 g1 (.bl _)⟩
theorem ev_if {c : Bool} (h : EvT K t env c) (h1 : c = true → EvE K ta env d) (h2 : c = false → EvE K tb env d) : EvE K (tIf t ta tb) env d := fun B w0 w σ s Q q => h B w0 w σ s _ fun w1 g1 => by
  cases c with
  | true => exact h1 rfl B w0 w1 σ (s.mono g1) Q fun v w2 g2 r => q v w2 (g1.trans g2) r
  | false => exact h2 rfl B w0 w1 σ (s.mono g1) Q fun v w2 g2 r => q v w2 (g1.trans g2) r
theorem ev_ifN {c : Bool} {ds : List PyData} (h : EvT K t env c) (h1 : c = true → EvN K ta env ds) (h2 : c = false → EvN K tb env ds) : EvN K (tIf t ta tb) env ds := fun B w0 w σ s Q q => h B w0 w σ s _ fun w1 g1 => by
  have bk : ∀ {p : Addr}, w1.h p = none → w.h p = none := fun {p} hp => by
    cases e : w.h p with
    | none => rfl
    | some o => rw [exh g1 _ _ e] at hp; cases hp
  cases c with
  | true => exact h1 rfl B w0 w1 σ (s.mono g1) Q fun p vs w2 hp g2 e1 e2 r => q p vs w2 (bk hp) (g1.trans g2) e1 e2 r
  | false => exact h2 rfl B w0 w1 σ (s.mono g1) Q fun p vs w2 hp g2 e1 e2 r => q p vs w2 (bk hp) (g1.trans g2) e1 e2 r
theorem ea_nil : EvA K tNil env [] := fun B w0 w σ s Q q => q [] w (Grow.refl _ _) .nil
theorem ea_cons {tr : TA} {ds : List PyData} (h : EvE K ta env x) (hr : EvA K tr env ds) : EvA K (tCons ta tr) env (x :: ds) := fun B w0 w σ s Q q =>
  h B w0 w σ s _ fun v w1 g1 r1 => hr B w0 w1 σ (s.mono g1) _ fun vs w2 g2 r2 => q (v :: vs) w2 (g1.trans g2) (.cons (r1.mono g2.s) r2)
theorem ev_tup {ta : TA} {ds : List PyData} (h : EvA K ta env ds) (hl : ds.length ≤ sizeLine) : EvE K (tTup ta) env (.tuple ds) := fun B w0 w σ s Q q =>
  h B w0 w σ s _ fun vs w1 g1 r1 => ⟨by rw [r1.length]; exact hl, fun p hp => by
    obtain ⟨w2, e2, g2, r2⟩ := rp_newT hp r1
    rw [← e2]
    exact q _ w2 (g1.trans g2) r2⟩
theorem en_lst {ta : TA} {ds : List PyData} (h : EvA K ta env ds) (hl : ds.length ≤ sizeLine) : EvN K (tLst ta) env ds := fun B w0 w σ s Q q =>
  h B w0 w σ s _ fun vs w1 g1 r1 => ⟨by rw [r1.length]; exact hl, fun p hp => q p vs (w1.new p (.lst vs) hp) (by
    cases e : w.h p with
    | none => rfl
    | some o => rw [exh g1 _ _ e] at hp; cases hp) (g1.trans (grow_new hp)) upd_same (s_none (w := w1) hp) r1⟩
theorem eo_none : EvO K tNoPart env none := fun B w0 w σ s Q q => q w (Grow.refl _ _)
theorem eo_some {i : Int} (h : EvE K te env (.int i)) : EvO K (tPart te) env (some i) := fun B w0 w σ s Q q => h B w0 w σ s _ fun v w1 g1 r1 => by
  cases r1
  exact ⟨i, rfl, q w1 g1⟩
end
/-! ## the static part of a context -/
structure Gc where
  P : Program
  w : World
  K : PySem.W.Frag
  mg : Str → Option Value
  base : Heap
  ct : Nat → Addr × Option Str
structure Sc extends Gc where
  N : List Str
  sc : Scope
  calm : Bool
  lvl : Nat
structure Dyn (S : Sc) (X : Cx) : Prop where
  P : X.prog = S.P
  w : X.w = S.w
  K : X.K = S.K
  mg : X.mg = S.mg
  base : X.base = S.base
  N : X.N = S.N
  sc : X.env.scope = S.sc
  calm : X.calm = S.calm
  room : S.calm = true → Room S.lvl X.A
  un : X.A.units + 64 < cLine
abbrev RelC (mg : Str → Option Value) (x : Str) (v : V) : Prop := ∃ u, mg x = some u ∧ RelV v u
def XE (S : Sc) (e : Expr) (env : Evm) (d : PyData) : Prop := ∃ t, (∀ X, Dyn S X → PE X e t) ∧ EvE S.K t env d
def XT (S : Sc) (e : Expr) (env : Evm) (b : Bool) : Prop := ∃ t, (∀ X, Dyn S X → PT X e t) ∧ EvT S.K t env b
def XW (S : Sc) (e : Expr) (env : Evm) (b : Bool) : Prop := ∃ t, (∀ X, Dyn S X → PW X e t) ∧ EvT S.K t env b
def XA (S : Sc) (es : List Expr) (env : Evm) (ds : List PyData) : Prop := ∃ t, (∀ X, Dyn S X → PA X es t) ∧ EvA S.K t env ds
def XN (S : Sc) (e : Expr) (env : Evm) (ds : List PyData) : Prop := ∃ t, (∀ X, Dyn S X → PE X e t) ∧ EvN S.K t env ds
def XO (S : Sc) (e : Option Expr) (env : Evm) (o : Option Int) : Prop := ∃ t, (∀ X, Dyn S X → PO X e t) ∧ EvO S.K t env o
section
variable {S : Sc} {env : Evm} {e a b c : Expr} {d x y z : PyData} {pos p : Pos} {i j : Int} {s : Str}
theorem XN.xe {ds : List PyData} (h : XN S a env ds) : XE S a env (.list ds) := let ⟨t, p, q⟩ := h; ⟨t, p, q.e⟩
theorem XE.to (h : XE S e env d) (q : d = x) : XE S e env x := q ▸ h
theorem XT.to {b c : Bool} (h : XT S e env b) (q : b = c) : XT S e env c := q ▸ h
theorem xe_var (i : Nat) {x : Str} (hN : S.N[i]? = some x := by rfl) (hv : Vis S.sc x := by first | exact Or.inl rfl | exact Or.inr (Or.inl rfl) | exact Or.inr (Or.inr rfl)) (he : env[i]? = some (.dat d) := by rfl)
    (h1 : (x == ("__debug__" : Str)) = false := by decide) (h2 : (x == ("__classdict__" : Str)) = false := by decide) : XE S (.Name x pos) env d :=
  ⟨tVar i, fun X D => pe_var (by rw [D.N]; exact hN) (by rw [D.sc]; exact hv) h1 h2, ev_var he⟩
theorem xe_int {k} : XE S (.Constant (.int i) k pos) env (.int i) := ⟨_, fun X D => pe_int, ev_c fun _ => .int i⟩
theorem xe_bl {k} {b : Bool} : XE S (.Constant (.bool b) k pos) env (.bool b) := ⟨_, fun X D => pe_bl, ev_c fun _ => .bl b⟩
theorem xe_non {k} : XE S (.Constant .none k pos) env .none := ⟨_, fun X D => pe_non, ev_c fun _ => .non⟩
theorem xe_str {k} : XE S (.Constant (.str s) k pos) env (.str s) := ⟨_, fun X D => pe_str, ev_c fun _ => .str s⟩
def Glo (S : Sc) (x : Str) : Prop := S.sc.names.lookup x = some .globalImplicit
theorem Glo.gl {x : Str} {X : Cx} (h : Glo S x) (D : Dyn S X) : Gl X x := by
  show X.env.scope.names.lookup x = _
  rw [D.sc]; exact h
theorem xe_glob {v : V} {x : Str} (hm : RelC S.mg x v) (r : ∀ H, Rp S.K H v d) (hg : Glo S x := by rfl) (hd : (x == ("__debug__" : Str)) = false := by decide) : XE S (.Name x pos) env d := by
  obtain ⟨u, h1, h2⟩ := hm
  exact ⟨_, fun X D => pe_glob (hg.gl D) (by rw [D.mg]; exact h1) h2 hd, ev_c r⟩
theorem xe_globI {x : Str} (hm : RelC S.mg x (.int i)) (hg : Glo S x := by rfl) (hd : (x == ("__debug__" : Str)) = false := by decide) : XE S (.Name x pos) env (.int i) := xe_glob hm (fun _ => .int i) hg hd
theorem xe_globS {x : Str} (hm : RelC S.mg x (.str s)) (hg : Glo S x := by rfl) (hd : (x == ("__debug__" : Str)) = false := by decide) : XE S (.Name x pos) env (.str s) := xe_glob hm (fun _ => .str s) hg hd
/-! operators -/
theorem xe_op {op : Operator} {r : R2} (ho : ∀ X, Dyn S X → OpR X (binaryOp op) r) (hr : RV S.K r x y z) (ha : XE S a env x) (hb : XE S b env y) : XE S (.BinOp a op b pos) env z := by
  obtain ⟨ta, pa, ea⟩ := ha
  obtain ⟨tb, pb, eb⟩ := hb
  exact ⟨tOp r ta tb, fun X D => pe_op (ho X D) (pa X D) (pb X D), ev_op ea eb hr⟩
theorem xe_un {op : UnaryOp} {r : V → Hp → VK → Prop} (ho : ∀ X, Dyn S X → UnR X (unaryOp op) r) (hr : RU S.K r x z) (ha : XE S a env x) : XE S (.UnaryOp op a pos) env z := by
  obtain ⟨ta, pa, ea⟩ := ha
  exact ⟨tUn r ta, fun X D => pe_un (ho X D) (pa X D), ev_un ea hr⟩
end
section
variable {K : PySem.W.Frag} {i j : Int}
theorem rv_I0 {g : Int → Int → Int} : RV K (rI0 fun i j => .int (g i j)) (.int i) (.int j) (.int (g i j)) := fun w u v r1 r2 Q q => by
  cases r1; cases r2
  exact ⟨i, j, rfl, rfl, q _ w (Grow.refl _ _) (.int _)⟩
theorem rv_B0 {g : Int → Int → Bool} : RV K (rI0 fun i j => .bl (g i j)) (.int i) (.int j) (.bool (g i j)) := fun w u v r1 r2 Q q => by
  cases r1; cases r2
  exact ⟨i, j, rfl, rfl, q _ w (Grow.refl _ _) (.bl _)⟩
theorem rv_I {C : Int → Int → Prop} {g : Int → Int → Int} (hc : C i j) : RV K (rI C fun i j => .int (g i j)) (.int i) (.int j) (.int (g i j)) := fun w u v r1 r2 Q q => by
  cases r1; cases r2
  exact ⟨i, j, rfl, rfl, hc, q _ w (Grow.refl _ _) (.int _)⟩
theorem ru_I {g : Int → Int} : RU K (rU fun i => .int (g i)) (.int i) (.int (g i)) := fun w u r1 Q q => by
  cases r1
  exact ⟨i, rfl, q _ w (Grow.refl _ _) (.int _)⟩
end
section
variable {S : Sc} {env : Evm} {e a b c : Expr} {d x y z : PyData} {pos p : Pos} {i j : Int} {s s' : Str}
theorem xe_add (ha : XE S a env (.int i)) (hb : XE S b env (.int j)) : XE S (.BinOp a .Add b pos) env (.int (i + j)) := xe_op (fun _ _ => op_add) rv_I0 ha hb
theorem xe_sub (ha : XE S a env (.int i)) (hb : XE S b env (.int j)) : XE S (.BinOp a .Sub b pos) env (.int (i - j)) := xe_op (fun _ _ => op_sub) rv_I0 ha hb
theorem xe_mul (h : CMul i j) (ha : XE S a env (.int i)) (hb : XE S b env (.int j)) : XE S (.BinOp a .Mult b pos) env (.int (i * j)) := xe_op (fun _ _ => op_mul) (rv_I h) ha hb
theorem xe_div (h : CDiv i j) (ha : XE S a env (.int i)) (hb : XE S b env (.int j)) : XE S (.BinOp a .FloorDiv b pos) env (.int (i / j)) := xe_op (fun _ _ => op_fdiv) (rv_I h) ha hb
theorem xe_mod (h : 0 < j) (ha : XE S a env (.int i)) (hb : XE S b env (.int j)) : XE S (.BinOp a .Mod b pos) env (.int (i % j)) := xe_op (fun _ _ => op_mod) (rv_I (C := fun _ j => 0 < j) h) ha hb
theorem xe_pow (h : CPow i j) (ha : XE S a env (.int i)) (hb : XE S b env (.int j)) : XE S (.BinOp a .Pow b pos) env (.int (i ^ j.toNat)) := xe_op (fun _ _ => op_pow) (rv_I (g := fun i j => i ^ j.toNat) h) ha hb
theorem xe_neg (ha : XE S a env (.int i)) : XE S (.UnaryOp .USub a pos) env (.int (-i)) := xe_un (fun _ _ => un_neg) ru_I ha
theorem rv_cat {K : PySem.W.Frag} (h : s.length + s'.length ≤ sizeLine) : RV K (fun x y H Q => ∃ i j, x = .str i ∧ y = .str j ∧ i.length + j.length ≤ sizeLine ∧ Q (.str (i ++ j)) H) (.str s) (.str s') (.str (s ++ s')) := fun w u v r1 r2 Q q => by
  cases r1; cases r2
  exact ⟨_, _, rfl, rfl, h, q _ w (Grow.refl _ _) (.str _)⟩
theorem xe_cat (h : s.length + s'.length ≤ sizeLine) (ha : XE S a env (.str s)) (hb : XE S b env (.str s')) : XE S (.BinOp a .Add b pos) env (.str (s ++ s')) := xe_op (fun _ _ => op_add_str) (rv_cat h) ha hb
/-! comparisons -/
theorem xe_cmp {op : CmpOp} {r : R2} (ho : ∀ X, Dyn S X → OpR X (compareOp op) r) (hr : RV S.K r x y z) (hm : behindInMarks op b = false) (ha : XE S a env x) (hb : XE S b env y) : XE S (.Compare a [op] [b] pos) env z := by
  obtain ⟨ta, pa, ea⟩ := ha
  obtain ⟨tb, pb, eb⟩ := hb
  exact ⟨tOp r ta tb, fun X D => pe_cmpR (ho X D) (pa X D) (pb X D) hm, ev_op ea eb hr⟩
theorem xt_cmp {op : CmpOp} {r : R2} {k : Bool} (ho : ∀ X, Dyn S X → OpR X (compareOp op) r) (hr : RV S.K r x y (.bool k)) (hm : behindInMarks op b = false) (ha : XE S a env x) (hb : XE S b env y) : XT S (.Compare a [op] [b] pos) env k := by
  obtain ⟨ta, pa, ea⟩ := ha
  obtain ⟨tb, pb, eb⟩ := hb
  exact ⟨tTest (tOp r ta tb), fun X D => pt_cmpR (ho X D) (pa X D) (pb X D) hm, et_test (ev_op ea eb hr)⟩
theorem xe_lt (ha : XE S a env (.int i)) (hb : XE S b env (.int j)) : XE S (.Compare a [.Lt] [b] pos) env (.bool (decide (i < j))) := xe_cmp (fun _ _ => op_lt) rv_B0 (nomark _) ha hb
theorem xe_le (ha : XE S a env (.int i)) (hb : XE S b env (.int j)) : XE S (.Compare a [.LtE] [b] pos) env (.bool (decide (i ≤ j))) := xe_cmp (fun _ _ => op_le) rv_B0 (nomark _) ha hb
theorem xe_gt (ha : XE S a env (.int i)) (hb : XE S b env (.int j)) : XE S (.Compare a [.Gt] [b] pos) env (.bool (decide (j < i))) := xe_cmp (fun _ _ => op_gt) (rv_B0 (g := fun i j => decide (j < i))) (nomark _) ha hb
theorem xe_ge (ha : XE S a env (.int i)) (hb : XE S b env (.int j)) : XE S (.Compare a [.GtE] [b] pos) env (.bool (decide (j ≤ i))) := xe_cmp (fun _ _ => op_ge) (rv_B0 (g := fun i j => decide (j ≤ i))) (nomark _) ha hb
theorem xt_lt (ha : XE S a env (.int i)) (hb : XE S b env (.int j)) : XT S (.Compare a [.Lt] [b] pos) env (decide (i < j)) := xt_cmp (fun _ _ => op_lt) rv_B0 (nomark _) ha hb
theorem xt_le (ha : XE S a env (.int i)) (hb : XE S b env (.int j)) : XT S (.Compare a [.LtE] [b] pos) env (decide (i ≤ j)) := xt_cmp (fun _ _ => op_le) rv_B0 (nomark _) ha hb
theorem xt_gt (ha : XE S a env (.int i)) (hb : XE S b env (.int j)) : XT S (.Compare a [.Gt] [b] pos) env (decide (j < i)) := xt_cmp (fun _ _ => op_gt) (rv_B0 (g := fun i j => decide (j < i))) (nomark _) ha hb
theorem xt_ge (ha : XE S a env (.int i)) (hb : XE S b env (.int j)) : XT S (.Compare a [.GtE] [b] pos) env (decide (j ≤ i)) := xt_cmp (fun _ _ => op_ge) (rv_B0 (g := fun i j => decide (j ≤ i))) (nomark _) ha hb
/-- == of any data that == can be asked of -/
theorem rv_eqD {K : PySem.W.Frag} (h1 : SeqAt.shaped x = true) (h2 : SeqAt.shaped y = true) : RV K (rEqD K) x y (.bool (PyData.eqv x y)) := fun w u v r1 r2 Q q =>
  ⟨x, y, (r1.mono w.le).dp (SeqAt.canLay_of_shaped h1), (r2.mono w.le).dp (SeqAt.canLay_of_shaped h2), h1, h2, q _ w (Grow.refl _ _) (.bl _)⟩
end
end Fw


namespace Fw
open PySem PySem.Spec L2 Emb
section
variable {K : PySem.W.Frag} {i j : Int} {s s' : Str} {x y z d : PyData} {a b : Bool}
theorem rv_eqI : RV K rEq (.int i) (.int j) (.bool (decide (i = j))) := fun w u v r1 r2 Q q => by
  cases r1; cases r2
  exact ⟨rfl, q _ w (Grow.refl _ _) (by rw [show decide (V.int i = V.int j) = decide (i = j) by simp]; exact .bl _)⟩
theorem rv_neI : RV K rNe (.int i) (.int j) (.bool (!decide (i = j))) := fun w u v r1 r2 Q q => by
  cases r1; cases r2
  exact ⟨rfl, q _ w (Grow.refl _ _) (by rw [show decide (V.int i = V.int j) = decide (i = j) by simp]; exact .bl _)⟩
theorem rv_eqS : RV K rEq (.str s) (.str s') (.bool (decide (s = s'))) := fun w u v r1 r2 Q q => by
  cases r1; cases r2
  exact ⟨rfl, q _ w (Grow.refl _ _) (by rw [show decide (V.str s = V.str s') = decide (s = s') by simp]; exact .bl _)⟩
theorem rv_neS : RV K rNe (.str s) (.str s') (.bool (!decide (s = s'))) := fun w u v r1 r2 Q q => by
  cases r1; cases r2
  exact ⟨rfl, q _ w (Grow.refl _ _) (by rw [show decide (V.str s = V.str s') = decide (s = s') by simp]; exact .bl _)⟩
theorem rv_eqB : RV K rEq (.bool a) (.bool b) (.bool (decide (a = b))) := fun w u v r1 r2 Q q => by
  cases r1; cases r2
  exact ⟨rfl, q _ w (Grow.refl _ _) (by rw [show decide (V.bl a = V.bl b) = decide (a = b) by simp]; exact .bl _)⟩
theorem rv_neB : RV K rNe (.bool a) (.bool b) (.bool (!decide (a = b))) := fun w u v r1 r2 Q q => by
  cases r1; cases r2
  exact ⟨rfl, q _ w (Grow.refl _ _) (by rw [show decide (V.bl a = V.bl b) = decide (a = b) by simp]; exact .bl _)⟩
theorem rv_neD (h1 : SeqAt.shaped x = true) (h2 : SeqAt.shaped y = true) : RV K (rNeD K) x y (.bool (!PyData.eqv x y)) := fun w u v r1 r2 Q q =>
  ⟨x, y, (r1.mono w.le).dp (SeqAt.canLay_of_shaped h1), (r2.mono w.le).dp (SeqAt.canLay_of_shaped h2), h1, h2, q _ w (Grow.refl _ _) (.bl _)⟩
def isN : PyData → Bool
  | .none => true
  | _ => false
theorem isN_of {H : Hp} {v : V} (r : Rp K H v d) : decide (v = .non) = isN d := by cases r <;> rfl
theorem rv_isN : RV K (fun x y H Q => y = .non ∧ Q (.bl (decide (x = .non))) H) d .none (.bool (isN d)) := fun w u v r1 r2 Q q => by
  cases r2
  exact ⟨rfl, by rw [isN_of r1]; exact q _ w (Grow.refl _ _) (.bl _)⟩
theorem rv_notN : RV K (fun x y H Q => y = .non ∧ Q (.bl (!decide (x = .non))) H) d .none (.bool (!isN d)) := fun w u v r1 r2 Q q => by
  cases r2
  exact ⟨rfl, by rw [isN_of r1]; exact q _ w (Grow.refl _ _) (.bl _)⟩
/-- one sign -/
def sg (c : Nat) : Str := ⟨#[c]⟩
theorem rv_inS {c : Nat} : RV K (fun x y H Q => ∃ (c : Nat) (z : Str), x = .str ⟨#[c]⟩ ∧ y = .str z ∧ Q (.bl (decide (c ∈ z.cps.toList))) H) (.str (sg c)) (.str s) (.bool (decide (c ∈ s.cps.toList))) := fun w u v r1 r2 Q q => by
  cases r1; cases r2
  exact ⟨c, s, rfl, rfl, q _ w (Grow.refl _ _) (.bl _)⟩
theorem rv_notInS {c : Nat} : RV K (fun x y H Q => ∃ (c : Nat) (z : Str), x = .str ⟨#[c]⟩ ∧ y = .str z ∧ Q (.bl (!decide (c ∈ z.cps.toList))) H) (.str (sg c)) (.str s) (.bool (!decide (c ∈ s.cps.toList))) := fun w u v r1 r2 Q q => by
  cases r1; cases r2
  exact ⟨c, s, rfl, rfl, q _ w (Grow.refl _ _) (.bl _)⟩
/-- flat data -/
def flatD : PyData → Bool
  | .none => true
  | .bool _ => true
  | .int _ => true
  | .str _ => true
  | _ => false
theorem flat_of {H : Hp} {v : V} (r : Rp K H v d) : flatV v = flatD d := by cases r <;> rfl
theorem eqV_of {H : Hp} {u v : V} (r : Rp K H u x) (r' : Rp K H v y) (h : flatD x = true) : eqV u v = PyData.eqv x y := by
  cases r <;> cases r' <;> first | rfl | (cases h; done) | skip
theorem flats_of {H : Hp} : ∀ {vs : List V} {ds : List PyData}, RpAll K H vs ds → vs.all flatV = ds.all flatD
  | _, _, .nil => rfl
  | _, _, .cons r t => by rw [List.all_cons, List.all_cons, flat_of r, flats_of t]
def inD (x : PyData) (ds : List PyData) : Bool := ds.any fun y => PyData.eqv y x
theorem inV_of {H : Hp} {u : V} (r : Rp K H u x) : ∀ {vs : List V} {ds : List PyData}, RpAll K H vs ds → ds.all flatD = true → inV u vs = inD x ds
  | _, _, .nil, _ => rfl
  | v :: vs, d :: ds, .cons r' t, h => by
    rw [List.all_cons, Bool.and_eq_true] at h
    have ih := inV_of r t h.2
    show (eqV v u || inV u vs) = (PyData.eqv d x || inD x ds)
    rw [eqV_of r' r h.1, ih]
theorem rv_inD {neg : Bool} {ds : List PyData} (hy : y = .list ds ∨ y = .tuple ds) (hx : flatD x = true) (ha : ds.all flatD = true) : RV K (rIn K neg) x y (.bool (if neg then !inD x ds else inD x ds)) := fun w u v r1 r2 Q q => by
  have r1' := r1.mono w.le
  have r2' := r2.mono w.le
  rcases hy with rfl | rfl
  · cases r2' with
    | lst h t => exact ⟨_, _, rfl, .inl (SqL.of h), (flat_of r1').trans hx, (flats_of t).trans ha, by rw [inV_of r1' t ha]; exact q _ w (Grow.refl _ _) (.bl _)⟩
  · cases r2' with
    | tup h t => exact ⟨_, _, rfl, .inr h, (flat_of r1').trans hx, (flats_of t).trans ha, by rw [inV_of r1' t ha]; exact q _ w (Grow.refl _ _) (.bl _)⟩
theorem ints_inj : ∀ {ns ms : List Int}, ns.map PyData.int = ms.map PyData.int → ns = ms
  | [], [], _ => rfl
  | [], _ :: _, h => by cases h
  | _ :: _, [], h => by cases h
  | n :: ns, m :: ms, h => by
    rw [List.map_cons, List.map_cons] at h
    injection h with h1 h2
    injection h1 with h1
    rw [h1, ints_inj h2]
theorem rp_scr {H : Hp} {v : V} {ns : List Int} (r : Rp K H v (scrD ns)) : ∃ a, v = .ref a ∧ SqL K H a (ns.map V.int) := by
  generalize e : scrD ns = d at r
  cases r with
  | @dct a kvs ds h t =>
    have e2 : [(PyData.none, PyData.list (ns.map PyData.int))] = ds := by injection e
    clear e
    revert e2
    cases t with
    | nil => intro e2; cases e2
    | @cons k _ _ _ _ r t =>
      intro e2
      injection e2 with e3 _
      injection e3 with e4 _
      cases k <;> cases e4
  | scr h =>
    injection e with e
    injection e with e _
    injection e with _ e
    injection e with e
    rw [ints_inj e]
    exact ⟨_, rfl, h⟩
  | _ => cases e
/-! index -/
theorem rv_ixL {ds : List PyData} (ha : atI ds i = some d) : RV K (rIxL K) (.list ds) (.int i) d := fun w u v r1 r2 Q q => by
  cases r2
  cases r1 with
  | lst h t =>
    unfold atI at ha
    rw [← t.length] at ha
    cases e : ixN (List.length _) i with
    | none => rw [e] at ha; cases ha
    | some k =>
      rw [e] at ha
      obtain ⟨v, hv, r⟩ := t.get ha
      exact ⟨_, _, i, v, rfl, rfl, SqL.of (w.le _ _ h), by unfold atI; rw [e]; exact hv, q v w (Grow.refl _ _) r⟩
theorem rv_ixT {ds : List PyData} (ha : atI ds i = some d) : RV K (rIxT K) (.tuple ds) (.int i) d := fun w u v r1 r2 Q q => by
  cases r2
  cases r1 with
  | tup h t =>
    unfold atI at ha
    rw [← t.length] at ha
    cases e : ixN (List.length _) i with
    | none => rw [e] at ha; cases ha
    | some k =>
      rw [e] at ha
      obtain ⟨v, hv, r⟩ := t.get ha
      exact ⟨_, _, i, v, rfl, rfl, ex_sqT w.le h, by unfold atI; rw [e]; exact hv, q v w (Grow.refl _ _) r⟩
theorem rv_ixScr {ns : List Int} (ha : atI ns i = some j) : RV K (rIxL K) (scrD ns) (.int i) (.int j) := fun w u v r1 r2 Q q => by
  cases r2
  obtain ⟨p, rfl, h⟩ := rp_scr r1
  refine ⟨_, _, i, .int j, rfl, rfl, ex_sqL w.le h, ?_, q _ w (Grow.refl _ _) (.int _)⟩
  unfold atI at ha ⊢
  rw [List.length_map]
  cases e : ixN ns.length i with
  | none => rw [e] at ha; cases ha
  | some k =>
    rw [e] at ha
    show (ns.map V.int)[k]? = _
    have ha : ns[k]? = some j := ha
    rw [List.getElem?_map, ha]
    rfl
theorem rv_ixS {c : Nat} (hl : s.length ≤ sizeLine) (ha : atI s.cps.toList i = some c) : RV K rIxS (.str s) (.int i) (.str (sg c)) := fun w u v r1 r2 Q q => by
  cases r1; cases r2
  exact ⟨_, i, c, rfl, rfl, hl, ha, q _ w (Grow.refl _ _) (.str _)⟩
/-! built-in calls -/
def rLen (K : PySem.W.Frag) : List V → Hp → VK → Prop := fun xs H Q => ∃ x n, xs = [x] ∧ LenV K x H n ∧ Q (.int n) H
def lenD : PyData → Nat
  | .str s => s.length
  | .list ds => ds.length
  | .tuple ds => ds.length
  | _ => 0
theorem rc_lenS (h : s.length ≤ sizeLine) : RC K (rLen K) [.str s] (.int s.length) := fun w us r Q q => by
  cases r with
  | cons r t => cases t; cases r; exact ⟨_, _, rfl, ⟨h, rfl⟩, q _ w (Grow.refl _ _) (.int _)⟩
theorem rc_lenL {ds : List PyData} : RC K (rLen K) [.list ds] (.int ds.length) := fun w us r Q q => by
  cases r with
  | cons r t =>
    cases t
    cases r with
    | lst h t => exact ⟨_, _, rfl, .inl ⟨_, SqL.of (w.le _ _ h), rfl⟩, by rw [t.length]; exact q _ w (Grow.refl _ _) (.int _)⟩
theorem rc_lenT {ds : List PyData} : RC K (rLen K) [.tuple ds] (.int ds.length) := fun w us r Q q => by
  cases r with
  | cons r t =>
    cases t
    cases r with
    | tup h t => exact ⟨_, _, rfl, .inr ⟨_, ex_sqT w.le h, rfl⟩, by rw [t.length]; exact q _ w (Grow.refl _ _) (.int _)⟩
theorem rc_lenScr {ns : List Int} : RC K (rLen K) [scrD ns] (.int ns.length) := fun w us r Q q => by
  cases r with
  | cons r t =>
    cases t
    obtain ⟨p, rfl, h⟩ := rp_scr r
    exact ⟨_, _, rfl, .inl ⟨_, ex_sqL w.le h, rfl⟩, by rw [List.length_map]; exact q _ w (Grow.refl _ _) (.int _)⟩
theorem rp_list {H : Hp} {v : V} {ds : List PyData} (r : Rp K H v (.list ds)) : ∃ a vs, v = .ref a ∧ H a = some (.lst vs) ∧ RpAll K H vs ds := by
  cases r with
  | lst h t => exact ⟨_, _, rfl, h, t⟩
theorem rpA1 {H : Hp} {us : List V} (r : RpAll K H us [x]) : ∃ v, us = [v] ∧ Rp K H v x := by
  cases r with
  | cons r t => cases t; exact ⟨_, rfl, r⟩
theorem rpA2 {H : Hp} {us : List V} (r : RpAll K H us [x, y]) : ∃ v u, us = [v, u] ∧ Rp K H v x ∧ Rp K H u y := by
  cases r with
  | cons r t => cases t with
    | cons r' t => cases t; exact ⟨_, _, rfl, r, r'⟩
theorem rpA3 {H : Hp} {us : List V} (r : RpAll K H us [x, y, z]) : ∃ v u t, us = [v, u, t] ∧ Rp K H v x ∧ Rp K H u y ∧ Rp K H t z := by
  cases r with
  | cons r t => cases t with
    | cons r' t => cases t with
      | cons r'' t => cases t; exact ⟨_, _, _, rfl, r, r', r''⟩
theorem rc_all {bs : List Bool} : RC K (rAll K) [.list (bs.map .bool)] (.bool (bs.all id)) := fun w us r Q q => by
  obtain ⟨v, rfl, r1⟩ := rpA1 r
  obtain ⟨a, vs, rfl, h, t⟩ := rp_list r1
  rw [t.of_bls] at h
  exact ⟨a, bs, rfl, SqL.of (w.le _ _ h), q _ w (Grow.refl _ _) (.bl _)⟩
theorem rc_any {bs : List Bool} : RC K (rAny K) [.list (bs.map .bool)] (.bool (bs.any id)) := fun w us r Q q => by
  obtain ⟨v, rfl, r1⟩ := rpA1 r
  obtain ⟨a, vs, rfl, h, t⟩ := rp_list r1
  rw [t.of_bls] at h
  exact ⟨a, bs, rfl, SqL.of (w.le _ _ h), q _ w (Grow.refl _ _) (.bl _)⟩
theorem rc_sum {ns : List Int} : RC K (rSum K) [.list (ns.map .int)] (.int ns.sum) := fun w us r Q q => by
  obtain ⟨v, rfl, r1⟩ := rpA1 r
  obtain ⟨a, vs, rfl, h, t⟩ := rp_list r1
  rw [t.of_ints] at h
  exact ⟨a, ns, rfl, SqL.of (w.le _ _ h), q _ w (Grow.refl _ _) (.int _)⟩
/-- the least, the greatest of a list -/
def lmin : List Int → Int
  | [] => 0
  | x :: xs => xs.foldl min x
def lmax : List Int → Int
  | [] => 0
  | x :: xs => xs.foldl max x
theorem foldl_min_le : ∀ (xs : List Int) (a : Int), xs.foldl min a ≤ a ∧ (∀ y ∈ xs, xs.foldl min a ≤ y) ∧ (xs.foldl min a = a ∨ xs.foldl min a ∈ xs)
  | [], a => ⟨Int.le_refl _, (fun _ h => nomatch h), .inl rfl⟩
  | x :: xs, a => by
    obtain ⟨h1, h2, h3⟩ := foldl_min_le xs (min a x)
    rw [List.foldl_cons]
    refine ⟨by omega, fun y hy => ?_, ?_⟩
    · rcases List.mem_cons.mp hy with rfl | hy
      · omega
      · exact h2 y hy
    · rcases h3 with h3 | h3
      · rw [h3]
        by_cases c : a ≤ x
        · exact .inl (by omega)
        · exact .inr (by rw [show min a x = x by omega]; exact List.mem_cons_self)
      · exact .inr (List.mem_cons_of_mem _ h3)
theorem foldl_max_le : ∀ (xs : List Int) (a : Int), a ≤ xs.foldl max a ∧ (∀ y ∈ xs, y ≤ xs.foldl max a) ∧ (xs.foldl max a = a ∨ xs.foldl max a ∈ xs)
  | [], a => ⟨Int.le_refl _, (fun _ h => nomatch h), .inl rfl⟩
  | x :: xs, a => by
    obtain ⟨h1, h2, h3⟩ := foldl_max_le xs (max a x)
    rw [List.foldl_cons]
    refine ⟨by omega, fun y hy => ?_, ?_⟩
    · rcases List.mem_cons.mp hy with rfl | hy
      · omega
      · exact h2 y hy
    · rcases h3 with h3 | h3
      · rw [h3]
        by_cases c : x ≤ a
        · exact .inl (by omega)
        · exact .inr (by rw [show max a x = x by omega]; exact List.mem_cons_self)
      · exact .inr (List.mem_cons_of_mem _ h3)
theorem lmin_mem {ns : List Int} (h : ns ≠ []) : lmin ns ∈ ns := by
  cases ns with
  | nil => exact absurd rfl h
  | cons x xs =>
    rcases (foldl_min_le xs x).2.2 with e | e
    · exact List.mem_cons.mpr (.inl e)
    · exact List.mem_cons_of_mem _ e
theorem lmin_le {ns : List Int} {y : Int} (h : y ∈ ns) : lmin ns ≤ y := by
  cases ns with
  | nil => cases h
  | cons x xs =>
    rcases List.mem_cons.mp h with rfl | h
    · exact (foldl_min_le xs _).1
    · exact (foldl_min_le xs x).2.1 y h
theorem lmax_mem {ns : List Int} (h : ns ≠ []) : lmax ns ∈ ns := by
  cases ns with
  | nil => exact absurd rfl h
  | cons x xs =>
    rcases (foldl_max_le xs x).2.2 with e | e
    · exact List.mem_cons.mpr (.inl e)
    · exact List.mem_cons_of_mem _ e
theorem le_lmax {ns : List Int} {y : Int} (h : y ∈ ns) : y ≤ lmax ns := by
  cases ns with
  | nil => cases h
  | cons x xs =>
    rcases List.mem_cons.mp h with rfl | h
    · exact (foldl_max_le xs _).1
    · exact (foldl_max_le xs x).2.1 y h
theorem rc_min {ns : List Int} (hn : ns ≠ []) : RC K (rMin K) [.list (ns.map .int)] (.int (lmin ns)) := fun w us r Q q => by
  obtain ⟨v, rfl, r1⟩ := rpA1 r
  obtain ⟨a, vs, rfl, h, t⟩ := rp_list r1
  rw [t.of_ints] at h
  refine ⟨a, ns, rfl, SqL.of (w.le _ _ h), List.length_pos_iff.mpr hn, fun m h1 h2 => ?_⟩
  have e : m = lmin ns := Int.le_antisymm (h2 _ (lmin_mem hn)) (lmin_le h1)
  rw [e]; exact q _ w (Grow.refl _ _) (.int _)
theorem rc_max {ns : List Int} (hn : ns ≠ []) : RC K (rMax K) [.list (ns.map .int)] (.int (lmax ns)) := fun w us r Q q => by
  obtain ⟨v, rfl, r1⟩ := rpA1 r
  obtain ⟨a, vs, rfl, h, t⟩ := rp_list r1
  rw [t.of_ints] at h
  refine ⟨a, ns, rfl, SqL.of (w.le _ _ h), List.length_pos_iff.mpr hn, fun m h1 h2 => ?_⟩
  have e : m = lmax ns := Int.le_antisymm (le_lmax h1) (h2 _ (lmax_mem hn))
  rw [e]; exact q _ w (Grow.refl _ _) (.int _)
theorem rc_abs : RC K (fun xs H Q => ∃ i, xs = [.int i] ∧ Q (.int (if i < 0 then -i else i)) H) [.int i] (.int (if i < 0 then -i else i)) := fun w us r Q q => by
  obtain ⟨v, rfl, r1⟩ := rpA1 r
  cases r1
  exact ⟨i, rfl, q _ w (Grow.refl _ _) (.int _)⟩
theorem rc_max2 : RC K (fun xs H Q => ∃ i j, xs = [.int i, .int j] ∧ Q (.int (if j > i then j else i)) H) [.int i, .int j] (.int (max i j)) := fun w us r Q q => by
  obtain ⟨v, u, rfl, r1, r2⟩ := rpA2 r
  cases r1; cases r2
  exact ⟨i, j, rfl, by rw [show (if j > i then j else i) = max i j by split <;> omega]; exact q _ w (Grow.refl _ _) (.int _)⟩
theorem rc_min2 : RC K (fun xs H Q => ∃ i j, xs = [.int i, .int j] ∧ Q (.int (if j < i then j else i)) H) [.int i, .int j] (.int (min i j)) := fun w us r Q q => by
  obtain ⟨v, u, rfl, r1, r2⟩ := rpA2 r
  cases r1; cases r2
  exact ⟨i, j, rfl, by rw [show (if j < i then j else i) = min i j by split <;> omega]; exact q _ w (Grow.refl _ _) (.int _)⟩
theorem rc_int1 : RC K (fun xs H Q => (∃ i, xs = [.int i] ∧ Q (.int i) H) ∨ ∃ k, xs = [.bl k] ∧ Q (.int (if k then 1 else 0)) H) [.int i] (.int i) := fun w us r Q q => by
  obtain ⟨v, rfl, r1⟩ := rpA1 r
  cases r1
  exact .inl ⟨i, rfl, q _ w (Grow.refl _ _) (.int _)⟩
theorem rc_intB : RC K (fun xs H Q => (∃ i, xs = [.int i] ∧ Q (.int i) H) ∨ ∃ k, xs = [.bl k] ∧ Q (.int (if k then 1 else 0)) H) [.bool b] (.int (if b then 1 else 0)) := fun w us r Q q => by
  obtain ⟨v, rfl, r1⟩ := rpA1 r
  cases r1
  exact .inr ⟨b, rfl, q _ w (Grow.refl _ _) (.int _)⟩
/-- the text of an int -/
def strI (i : Int) : Str := (toString i : String)
theorem rc_strI (h : i.natAbs.log2 < 1920) : RC K (fun xs H Q => ∃ i, xs = [.int i] ∧ i.natAbs.log2 < 1920 ∧ Q (.str (toString i)) H) [.int i] (.str (strI i)) := fun w us r Q q => by
  obtain ⟨v, rfl, r1⟩ := rpA1 r
  cases r1
  exact ⟨i, rfl, h, q _ w (Grow.refl _ _) (.str _)⟩
theorem rc_intS (h : PySem.intText? s = some i) (hl : s.length ≤ 640) : RC K (fun xs H Q => ∃ a n, xs = [.str a] ∧ PySem.intText? a = some n ∧ a.length ≤ 640 ∧ Q (.int n) H) [.str s] (.int i) := fun w us r Q q => by
  obtain ⟨v, rfl, r1⟩ := rpA1 r
  cases r1
  exact ⟨s, i, rfl, h, hl, q _ w (Grow.refl _ _) (.int _)⟩
def rListOf (K : PySem.W.Frag) : List V → Hp → VK → Prop := fun xs H Q => ∃ p ys, xs = [.ref p] ∧ (SqL K H p ys ∨ SqT K H p ys) ∧ ∀ l, H l = none → Q (.ref l) (upd H l (.lst ys))
theorem rc_list {ds : List PyData} : RCN K (rListOf K) [.list ds] ds := fun w us r Q q => by
  obtain ⟨v, rfl, r1⟩ := rpA1 r
  obtain ⟨a, vs, rfl, h, t⟩ := rp_list r1
  exact ⟨a, vs, rfl, .inl (SqL.of (w.le _ _ h)), fun l hl => q l vs (w.new l (.lst vs) hl) hl (grow_new hl) upd_same (s_none (w := w) hl) t⟩
theorem rc_listT {ds : List PyData} : RCN K (rListOf K) [.tuple ds] ds := fun w us r Q q => by
  obtain ⟨v, rfl, r1⟩ := rpA1 r
  cases r1 with
  | tup h t => exact ⟨_, _, rfl, .inr (ex_sqT w.le h), fun l hl => q l _ (w.new l (.lst _) hl) hl (grow_new hl) upd_same (s_none (w := w) hl) t⟩
/-! isinstance -/
def tyD : PyData → String
  | .none => "NoneType"
  | .bool _ => "bool"
  | .int _ => "int"
  | .str _ => "str"
  | .list _ => "list"
  | .tuple _ => "tuple"
  | .dict _ => "dict"
def noScr : PyData → Bool
  | .dict _ => false
  | _ => true
theorem tyx_of {H : Hp} {v : V} (r : Rp K H v d) (h : noScr d = true) : TyX K H v (.type (tyD d)) := by
  cases r with
  | non => exact .base .non
  | bl b => exact .base (.bl b)
  | int i => exact .base (.int i)
  | str i => exact .base (.str i)
  | lst e t => exact .base (.lst e)
  | tup e t =>
    rcases e with (e | ⟨o, e⟩) | ⟨o, its, n, e, c, _⟩
    · exact .base (.tup e)
    · exact .fTuple e
    · exact .kTuple e c
  | dct e t => cases h
  | scr e => cases h
end
end Fw


namespace Fw
open PySem PySem.Spec L2 Emb
section
variable {S : Sc} {env : Evm} {e a b c o : Expr} {es : List Expr} {d x y z : PyData} {pos p : Pos} {i j : Int} {s s' : Str} {ds zs : List PyData} {k k' : Bool}
/-! == and the like -/
theorem xe_eqI (ha : XE S a env (.int i)) (hb : XE S b env (.int j)) : XE S (.Compare a [.Eq] [b] pos) env (.bool (decide (i = j))) := xe_cmp (fun _ _ => op_eq) rv_eqI (nomark _) ha hb
theorem xe_neI (ha : XE S a env (.int i)) (hb : XE S b env (.int j)) : XE S (.Compare a [.NotEq] [b] pos) env (.bool (!decide (i = j))) := xe_cmp (fun _ _ => op_ne) rv_neI (nomark _) ha hb
theorem xe_eqS (ha : XE S a env (.str s)) (hb : XE S b env (.str s')) : XE S (.Compare a [.Eq] [b] pos) env (.bool (decide (s = s'))) := xe_cmp (fun _ _ => op_eq) rv_eqS (nomark _) ha hb
theorem xe_neS (ha : XE S a env (.str s)) (hb : XE S b env (.str s')) : XE S (.Compare a [.NotEq] [b] pos) env (.bool (!decide (s = s'))) := xe_cmp (fun _ _ => op_ne) rv_neS (nomark _) ha hb
theorem xt_eqI (ha : XE S a env (.int i)) (hb : XE S b env (.int j)) : XT S (.Compare a [.Eq] [b] pos) env (decide (i = j)) := xt_cmp (fun _ _ => op_eq) rv_eqI (nomark _) ha hb
theorem xt_neI (ha : XE S a env (.int i)) (hb : XE S b env (.int j)) : XT S (.Compare a [.NotEq] [b] pos) env (!decide (i = j)) := xt_cmp (fun _ _ => op_ne) rv_neI (nomark _) ha hb
theorem xt_eqS (ha : XE S a env (.str s)) (hb : XE S b env (.str s')) : XT S (.Compare a [.Eq] [b] pos) env (decide (s = s')) := xt_cmp (fun _ _ => op_eq) rv_eqS (nomark _) ha hb
theorem xt_neS (ha : XE S a env (.str s)) (hb : XE S b env (.str s')) : XT S (.Compare a [.NotEq] [b] pos) env (!decide (s = s')) := xt_cmp (fun _ _ => op_ne) rv_neS (nomark _) ha hb
theorem eqD_op {X : Cx} (D : Dyn S X) : OpR X (compareOp .Eq) (rEqD S.K) := by rw [← D.K]; exact op_eqD D.un
theorem neD_op {X : Cx} (D : Dyn S X) : OpR X (compareOp .NotEq) (rNeD S.K) := by rw [← D.K]; exact op_neD D.un
theorem xe_eqD (h1 : SeqAt.shaped x = true) (h2 : SeqAt.shaped y = true) (ha : XE S a env x) (hb : XE S b env y) : XE S (.Compare a [.Eq] [b] pos) env (.bool (PyData.eqv x y)) := xe_cmp (fun _ D => eqD_op D) (rv_eqD h1 h2) (nomark _) ha hb
theorem xe_neD (h1 : SeqAt.shaped x = true) (h2 : SeqAt.shaped y = true) (ha : XE S a env x) (hb : XE S b env y) : XE S (.Compare a [.NotEq] [b] pos) env (.bool (!PyData.eqv x y)) := xe_cmp (fun _ D => neD_op D) (rv_neD h1 h2) (nomark _) ha hb
theorem xt_eqD (h1 : SeqAt.shaped x = true) (h2 : SeqAt.shaped y = true) (ha : XE S a env x) (hb : XE S b env y) : XT S (.Compare a [.Eq] [b] pos) env (PyData.eqv x y) := xt_cmp (fun _ D => eqD_op D) (rv_eqD h1 h2) (nomark _) ha hb
theorem xt_neD (h1 : SeqAt.shaped x = true) (h2 : SeqAt.shaped y = true) (ha : XE S a env x) (hb : XE S b env y) : XT S (.Compare a [.NotEq] [b] pos) env (!PyData.eqv x y) := xt_cmp (fun _ D => neD_op D) (rv_neD h1 h2) (nomark _) ha hb
theorem xe_isN {k} {p' : Pos} (ha : XE S a env d) : XE S (.Compare a [.Is] [.Constant .none k p'] pos) env (.bool (isN d)) := xe_cmp (fun _ _ => op_isN) rv_isN (nomark _) ha xe_non
theorem xe_notN {k} {p' : Pos} (ha : XE S a env d) : XE S (.Compare a [.IsNot] [.Constant .none k p'] pos) env (.bool (!isN d)) := xe_cmp (fun _ _ => op_notN) rv_notN (nomark _) ha xe_non
theorem xt_isN {k} {p' : Pos} (ha : XE S a env d) : XT S (.Compare a [.Is] [.Constant .none k p'] pos) env (isN d) := xt_cmp (fun _ _ => op_isN) rv_isN (nomark _) ha xe_non
theorem xt_notN {k} {p' : Pos} (ha : XE S a env d) : XT S (.Compare a [.IsNot] [.Constant .none k p'] pos) env (!isN d) := xt_cmp (fun _ _ => op_notN) rv_notN (nomark _) ha xe_non
theorem xe_inS {n : Nat} (ha : XE S a env (.str (sg n))) (hb : XE S b env (.str s)) (hm : behindInMarks .In b = false := by rfl) : XE S (.Compare a [.In] [b] pos) env (.bool (decide (n ∈ s.cps.toList))) := xe_cmp (fun _ _ => op_in_sign) rv_inS hm ha hb
theorem xt_inS {n : Nat} (ha : XE S a env (.str (sg n))) (hb : XE S b env (.str s)) (hm : behindInMarks .In b = false := by rfl) : XT S (.Compare a [.In] [b] pos) env (decide (n ∈ s.cps.toList)) := xt_cmp (fun _ _ => op_in_sign) rv_inS hm ha hb
theorem xe_notInS {n : Nat} (ha : XE S a env (.str (sg n))) (hb : XE S b env (.str s)) (hm : behindInMarks .NotIn b = false := by rfl) : XE S (.Compare a [.NotIn] [b] pos) env (.bool (!decide (n ∈ s.cps.toList))) := xe_cmp (fun _ _ => op_notIn_sign) rv_notInS hm ha hb
theorem xt_notInS {n : Nat} (ha : XE S a env (.str (sg n))) (hb : XE S b env (.str s)) (hm : behindInMarks .NotIn b = false := by rfl) : XT S (.Compare a [.NotIn] [b] pos) env (!decide (n ∈ s.cps.toList)) := xt_cmp (fun _ _ => op_notIn_sign) rv_notInS hm ha hb
theorem xe_inD (hy : y = .list ds ∨ y = .tuple ds) (hx : flatD x = true) (hf : ds.all flatD = true) (ha : XE S a env x) (hb : XE S b env y) (hm : behindInMarks .In b = false := by rfl) : XE S (.Compare a [.In] [b] pos) env (.bool (inD x ds)) :=
  xe_cmp (fun X D => by rw [← D.K]; exact op_in_seq) (rv_inD (neg := false) hy hx hf) hm ha hb
theorem xt_inD (hy : y = .list ds ∨ y = .tuple ds) (hx : flatD x = true) (hf : ds.all flatD = true) (ha : XE S a env x) (hb : XE S b env y) (hm : behindInMarks .In b = false := by rfl) : XT S (.Compare a [.In] [b] pos) env (inD x ds) :=
  xt_cmp (fun X D => by rw [← D.K]; exact op_in_seq) (rv_inD (neg := false) hy hx hf) hm ha hb
theorem xe_notInD (hy : y = .list ds ∨ y = .tuple ds) (hx : flatD x = true) (hf : ds.all flatD = true) (ha : XE S a env x) (hb : XE S b env y) (hm : behindInMarks .NotIn b = false := by rfl) : XE S (.Compare a [.NotIn] [b] pos) env (.bool (!inD x ds)) :=
  xe_cmp (fun X D => by rw [← D.K]; exact op_notIn_seq) (rv_inD (neg := true) hy hx hf) hm ha hb
theorem xt_notInD (hy : y = .list ds ∨ y = .tuple ds) (hx : flatD x = true) (hf : ds.all flatD = true) (ha : XE S a env x) (hb : XE S b env y) (hm : behindInMarks .NotIn b = false := by rfl) : XT S (.Compare a [.NotIn] [b] pos) env (!inD x ds) :=
  xt_cmp (fun X D => by rw [← D.K]; exact op_notIn_seq) (rv_inD (neg := true) hy hx hf) hm ha hb
/-! chains -/
theorem ev_chain {K : PySem.W.Frag} {r r' : R2} {ta tb tc : TE} (ha : EvE K ta env x) (hb : EvE K tb env y) (hr : RV K r x y (.bool k)) (hc : k = true → EvE K tc env z) (hr' : k = true → RV K r' y z (.bool k')) : EvE K (tChain r r' ta tb tc) env (.bool (k && k')) := fun B w0 w σ s Q q =>
  ha B w0 w σ s _ fun v w1 g1 r1 => hb B w0 w1 σ (s.mono g1) _ fun v2 w2 g2 r2 => hr w2 _ _ (r1.mono g2.s) r2 _ fun v3 w3 g3 r3 => by
    cases r3
    refine ⟨k, rfl, ?_⟩
    have g := (g1.trans g2).trans g3
    cases k with
    | true => exact hc rfl B w0 w3 σ (s.mono g) _ fun v4 w4 g4 r4 => hr' rfl w4 _ _ (r2.mono (g3.trans g4).s) r4 _ fun v5 w5 g5 r5 => q v5 w5 ((g.trans g4).trans g5) r5
    | false => exact q _ w3 g (.bl _)
theorem xe_chain {op op' : CmpOp} {r r' : R2} (ho : ∀ X, Dyn S X → OpR X (compareOp op) r) (ho' : ∀ X, Dyn S X → OpR X (compareOp op') r') (hr : RV S.K r x y (.bool k)) (hr' : RV S.K r' y z (.bool k'))
    (ha : XE S a env x) (hb : XE S b env y) (hc : k = true → XE S c env z) (hm : lastMarks [op, op'] [b, c] = false := by with_unfolding_all rfl) : XE S (.Compare a [op, op'] [b, c] pos) env (.bool (k && k')) := by
  obtain ⟨ta, pa, ea⟩ := ha
  obtain ⟨tb, pb, eb⟩ := hb
  cases k with
  | true =>
    obtain ⟨tc, pc, ec⟩ := hc rfl
    exact ⟨_, fun X D => pe_chain (ho X D) (ho' X D) (pa X D) (pb X D) (pc X D) hm, ev_chain ea eb hr (fun _ => ec) (fun _ => hr')⟩
  | false =>
    refine ⟨_, fun X D => pe_chain (ho X D) (ho' X D) (pa X D) (pb X D) (tc := fun _ _ _ => False) ⟨fun _ _ _ _ _ _ h => h.elim⟩ hm, ?_⟩
    exact ev_chain (z := .none) ea eb hr (fun h => nomatch h) (fun h => nomatch h)
theorem xt_chain {op op' : CmpOp} {r r' : R2} (ho : ∀ X, Dyn S X → OpR X (compareOp op) r) (ho' : ∀ X, Dyn S X → OpR X (compareOp op') r') (hr : RV S.K r x y (.bool k)) (hr' : RV S.K r' y z (.bool k'))
    (ha : XE S a env x) (hb : XE S b env y) (hc : k = true → XE S c env z) (hm : lastMarks [op, op'] [b, c] = false := by with_unfolding_all rfl) : XT S (.Compare a [op, op'] [b, c] pos) env (k && k') := by
  obtain ⟨ta, pa, ea⟩ := ha
  obtain ⟨tb, pb, eb⟩ := hb
  cases k with
  | true =>
    obtain ⟨tc, pc, ec⟩ := hc rfl
    exact ⟨_, fun X D => pt_chain (ho X D) (ho' X D) (pa X D) (pb X D) (pc X D) hm, et_test (ev_chain ea eb hr (fun _ => ec) (fun _ => hr'))⟩
  | false =>
    refine ⟨_, fun X D => pt_chain (ho X D) (ho' X D) (pa X D) (pb X D) (tc := fun _ _ _ => False) ⟨fun _ _ _ _ _ _ h => h.elim⟩ hm, ?_⟩
    exact et_test (ev_chain (z := .none) ea eb hr (fun h => nomatch h) (fun h => nomatch h))
theorem xe_lele {l : Int} (ha : XE S a env (.int i)) (hb : XE S b env (.int j)) (hc : XE S c env (.int l)) (hm : lastMarks [.LtE, .LtE] [b, c] = false := by with_unfolding_all rfl) : XE S (.Compare a [.LtE, .LtE] [b, c] pos) env (.bool (decide (i ≤ j) && decide (j ≤ l))) :=
  xe_chain (fun _ _ => op_le) (fun _ _ => op_le) rv_B0 rv_B0 ha hb (fun _ => hc) hm
theorem xt_lele {l : Int} (ha : XE S a env (.int i)) (hb : XE S b env (.int j)) (hc : XE S c env (.int l)) (hm : lastMarks [.LtE, .LtE] [b, c] = false := by with_unfolding_all rfl) : XT S (.Compare a [.LtE, .LtE] [b, c] pos) env (decide (i ≤ j) && decide (j ≤ l)) :=
  xt_chain (fun _ _ => op_le) (fun _ _ => op_le) rv_B0 rv_B0 ha hb (fun _ => hc) hm
/-! tests -/
theorem xt_val (h : XE S a env (.bool k)) (he : ∀ env whole, isTrue a env whole = (do let v ← whole; standAt a.pos; holding [v] (truthy v)) := by intro _ _; rfl) : XT S a env k := by
  obtain ⟨t, p, q⟩ := h
  exact ⟨_, fun X D => pt_val (p X D) (he _), et_B q⟩
theorem XW.pt (h : XW S a env k) : XT S a env k := let ⟨t, p, q⟩ := h; ⟨t, fun X D => (p X D).pt, q⟩
theorem et_of_if {K : PySem.W.Frag} {t : TT} (h : EvT K t env k) {b : Bool} (e : k = b) : EvT K t env b := e ▸ h
theorem xw_and1 (h : XT S a env k) : XW S (.BoolOp .And [a] pos) env k := let ⟨t, p, q⟩ := h; ⟨t, fun X D => pw_and1 (p X D), q⟩
theorem xw_or1 (h : XT S a env k) : XW S (.BoolOp .Or [a] pos) env k := let ⟨t, p, q⟩ := h; ⟨t, fun X D => pw_or1 (p X D), q⟩
theorem xw_and (h : XT S a env k) (h' : k = true → XW S (.BoolOp .And (b :: es) pos) env k') : XW S (.BoolOp .And (a :: b :: es) pos) env (k && k') := by
  obtain ⟨t, p, q⟩ := h
  cases k with
  | true => obtain ⟨t', p', q'⟩ := h' rfl; exact ⟨_, fun X D => pw_and (p X D) (p' X D), et_and q fun _ => q'⟩
  | false => exact ⟨_, fun X D => pw_and (p X D) (tB' := fun _ _ _ => False) ⟨fun _ _ _ _ _ _ _ h => h.elim⟩, et_and q fun h => nomatch h⟩
theorem xw_or (h : XT S a env k) (h' : k = false → XW S (.BoolOp .Or (b :: es) pos) env k') : XW S (.BoolOp .Or (a :: b :: es) pos) env (k || k') := by
  obtain ⟨t, p, q⟩ := h
  cases k with
  | false => obtain ⟨t', p', q'⟩ := h' rfl; exact ⟨_, fun X D => pw_or (p X D) (p' X D), et_or q fun _ => q'⟩
  | true => exact ⟨_, fun X D => pw_or (p X D) (tB' := fun _ _ _ => False) ⟨fun _ _ _ _ _ _ _ h => h.elim⟩, et_or q fun h => nomatch h⟩
theorem xt_not (h : XT S a env k) : XT S (.UnaryOp .Not a pos) env (!k) := let ⟨t, p, q⟩ := h; ⟨_, fun X D => pt_not (p X D), et_not q⟩
theorem xe_one {op} (h : XE S a env d) : XE S (.BoolOp op [a] pos) env d := let ⟨t, p, q⟩ := h; ⟨t, fun X D => pe_one (p X D), q⟩
theorem xe_and (h : XE S a env (.bool k)) (h' : k = true → XE S (.BoolOp .And (b :: es) pos) env (.bool k')) : XE S (.BoolOp .And (a :: b :: es) pos) env (.bool (k && k')) := by
  obtain ⟨t, p, q⟩ := h
  cases k with
  | true => obtain ⟨t', p', q'⟩ := h' rfl; exact ⟨_, fun X D => pe_and (p X D) (p' X D), ev_andV q fun _ => q'⟩
  | false => exact ⟨_, fun X D => pe_and (p X D) (tb := fun _ _ _ => False) ⟨fun _ _ _ _ _ _ h => h.elim⟩, ev_andV q fun h => nomatch h⟩
theorem xe_or (h : XE S a env (.bool k)) (h' : k = false → XE S (.BoolOp .Or (b :: es) pos) env (.bool k')) : XE S (.BoolOp .Or (a :: b :: es) pos) env (.bool (k || k')) := by
  obtain ⟨t, p, q⟩ := h
  cases k with
  | false => obtain ⟨t', p', q'⟩ := h' rfl; exact ⟨_, fun X D => pe_or (p X D) (p' X D), ev_orV q fun _ => q'⟩
  | true => exact ⟨_, fun X D => pe_or (p X D) (tb := fun _ _ _ => False) ⟨fun _ _ _ _ _ _ h => h.elim⟩, ev_orV q fun h => nomatch h⟩
theorem xe_not (h : XE S a env (.bool k)) : XE S (.UnaryOp .Not a pos) env (.bool (!k)) := let ⟨t, p, q⟩ := h; ⟨_, fun X D => pe_not (p X D), ev_notV q⟩
/-- a if c else b -/
theorem xe_if (h : XT S c env k) (h1 : k = true → XE S a env d) (h2 : k = false → XE S b env d) : XE S (.IfExp c a b pos) env d := by
  obtain ⟨t, p, q⟩ := h
  cases k with
  | true => obtain ⟨t1, p1, q1⟩ := h1 rfl; exact ⟨_, fun X D => pe_ifExp (p X D) (p1 X D) (tb := fun _ _ _ => False) ⟨fun _ _ _ _ _ _ h => h.elim⟩, ev_if q (fun _ => q1) (fun h => nomatch h)⟩
  | false => obtain ⟨t1, p1, q1⟩ := h2 rfl; exact ⟨_, fun X D => pe_ifExp (p X D) (ta := fun _ _ _ => False) ⟨fun _ _ _ _ _ _ h => h.elim⟩ (p1 X D), ev_if q (fun h => nomatch h) (fun _ => q1)⟩
/-! truth of values -/
def truD : PyData → Option Bool
  | .none => some false
  | .bool b => some b
  | .int i => some (i != 0)
  | .str s => if s.length ≤ sizeLine then some ((s.length : Int) != 0) else none
  | .list ds => some (!ds.isEmpty)
  | .tuple ds => some (!ds.isEmpty)
  | .dict _ => none
theorem isE_of {K : PySem.W.Frag} {H : Hp} {vs : List V} {ds : List PyData} (r : RpAll K H vs ds) : vs.isEmpty = ds.isEmpty := by cases r <;> rfl
theorem xt_tru (h : XE S a env d) (ht : truD d = some k) (he : ∀ env whole, isTrue a env whole = (do let v ← whole; standAt a.pos; holding [v] (truthy v)) := by intro _ _; rfl) : XT S a env k := by
  obtain ⟨t, p, q⟩ := h
  refine ⟨fun σ H Q => t σ H fun x H' => ∃ k, TruV S.K x H' k ∧ Q k H', fun X D => by rw [← D.K]; exact pt_truth (p X D) (he _), fun B w0 w σ s Q qq => q B w0 w σ s _ fun v w1 g1 r1 => ⟨k, ?_, qq w1 g1⟩⟩
  have r1 := r1.mono w1.le
  cases r1 with
  | non => injection ht with ht; exact ht.symm
  | bl b => injection ht with ht; exact ht.symm
  | int b => injection ht with ht; exact ht.symm
  | str b =>
    have ht : (if b.length ≤ sizeLine then some ((b.length : Int) != 0) else none) = some k := ht
    by_cases c : b.length ≤ sizeLine
    · rw [if_pos c] at ht; injection ht with ht; exact ⟨c, ht.symm⟩
    · rw [if_neg c] at ht; cases ht
  | lst h t => injection ht with ht; exact .inl ⟨_, SqL.of h, by rw [isE_of t]; exact ht.symm⟩
  | tup h t => injection ht with ht; exact .inr (.inl ⟨_, h, by rw [isE_of t]; exact ht.symm⟩)
  | dct h t => cases ht
  | scr h => cases ht
/-! displays -/
theorem xa_nil : XA S [] env [] := ⟨_, fun X D => pa_nil, ea_nil⟩
theorem xa_cons (h : XE S a env d) (h' : XA S es env ds) (hs : ∀ env, starEach (a :: es) env = (false, eval a env) :: starEach es env := by intro _; rfl) : XA S (a :: es) env (d :: ds) := by
  obtain ⟨t, p, q⟩ := h
  obtain ⟨t', p', q'⟩ := h'
  exact ⟨_, fun X D => pa_cons (p X D) (p' X D) (hs _), ea_cons q q'⟩
theorem xe_tup {n} (h : XA S es env ds) (hl : ds.length ≤ sizeLine := by first | exact Nat.le_of_ble_eq_true rfl | decide) : XE S (.Tuple es n pos) env (.tuple ds) := let ⟨t, p, q⟩ := h; ⟨_, fun X D => pe_tup (p X D), ev_tup q hl⟩
theorem xn_lst (h : XA S es env ds) (hl : ds.length ≤ sizeLine := by first | exact Nat.le_of_ble_eq_true rfl | decide) : XN S (.List es pos) env ds := let ⟨t, p, q⟩ := h; ⟨_, fun X D => pe_lst (p X D), en_lst q hl⟩
/-! subscripts -/
theorem xe_ix {r : R2} (hr : ∀ X, Dyn S X → IxR X r) (hv : RV S.K r x y z) (ha : XE S a env x) (hb : XE S b env y) (hs : PlainIx b := by intro _ _; rfl) : XE S (.Subscript a b pos) env z := by
  obtain ⟨ta, pa, ea⟩ := ha
  obtain ⟨tb, pb, eb⟩ := hb
  exact ⟨tOp r ta tb, fun X D => pe_ix (hr X D) (pa X D) (pb X D) hs, ev_op ea eb hv⟩
theorem ix_listS {X : Cx} (D : Dyn S X) : IxR X (rIxL S.K) := by rw [← D.K]; exact ix_list
theorem ix_tupS {X : Cx} (D : Dyn S X) : IxR X (rIxT S.K) := by rw [← D.K]; exact ix_tup
theorem xe_ixL (h : atI ds i = some d) (ha : XE S a env (.list ds)) (hb : XE S b env (.int i)) (hs : PlainIx b := by intro _ _; rfl) : XE S (.Subscript a b pos) env d := xe_ix (fun _ D => ix_listS D) (rv_ixL h) ha hb hs
theorem xe_ixT (h : atI ds i = some d) (ha : XE S a env (.tuple ds)) (hb : XE S b env (.int i)) (hs : PlainIx b := by intro _ _; rfl) : XE S (.Subscript a b pos) env d := xe_ix (fun _ D => ix_tupS D) (rv_ixT h) ha hb hs
theorem xe_ixScr {ns : List Int} (h : atI ns i = some j) (ha : XE S a env (scrD ns)) (hb : XE S b env (.int i)) (hs : PlainIx b := by intro _ _; rfl) : XE S (.Subscript a b pos) env (.int j) := xe_ix (fun _ D => ix_listS D) (rv_ixScr h) ha hb hs
theorem xe_ixS {n : Nat} (hl : s.length ≤ sizeLine) (h : atI s.cps.toList i = some n) (ha : XE S a env (.str s)) (hb : XE S b env (.int i)) (hs : PlainIx b := by intro _ _; rfl) : XE S (.Subscript a b pos) env (.str (sg n)) := xe_ix (fun _ _ => ix_str) (rv_ixS hl h) ha hb hs
/-- slices -/
def cut {α : Type} (xs : List α) (lo hi : Option Int) : List α := (xs.drop (HT.sIx xs.length 0 lo)).take (HT.sIx xs.length xs.length hi - HT.sIx xs.length 0 lo)
theorem xo_none : XO S none env none := ⟨_, fun X D => po_none, eo_none⟩
theorem xo_some (h : XE S a env (.int i)) : XO S (some a) env (some i) := let ⟨t, p, q⟩ := h; ⟨_, fun X D => po_some (p X D), eo_some q⟩
theorem xe_slS {lo hi : Option Expr} {l h : Option Int} {p2 : Pos} (hz : s.length ≤ sizeLine) (ha : XE S a env (.str s)) (hl : XO S lo env l) (hh : XO S hi env h) : XE S (.Subscript a (.Slice lo hi none p2) pos) env (.str (cutS s l h)) := by
  obtain ⟨ta, pa, ea⟩ := ha
  obtain ⟨tl, pl, el⟩ := hl
  obtain ⟨th, ph, eh⟩ := hh
  refine ⟨tSl rSlS ta tl th, fun X D => pe_slice sl_str (pa X D) (pl X D) (ph X D), fun B w0 w σ s Q q => ea B w0 w σ s _ fun v w1 g1 r1 => el B w0 w1 σ (s.mono g1) _ fun w2 g2 => eh B w0 w2 σ (s.mono (g1.trans g2)) _ fun w3 g3 => ?_⟩
  cases r1
  exact ⟨_, rfl, hz, q _ w3 ((g1.trans g2).trans g3) (.str _)⟩
theorem rp_cut {K : PySem.W.Frag} {H : Hp} {vs : List V} {l h : Option Int} (t : RpAll K H vs ds) : RpAll K H (cutV vs l h) (cut ds l h) := by
  unfold cutV cut
  rw [t.length]
  exact (t.drop _).take _
theorem xn_slL {lo hi : Option Expr} {l h : Option Int} {p2 : Pos} (ha : XE S a env (.list ds)) (hl : XO S lo env l) (hh : XO S hi env h) : XN S (.Subscript a (.Slice lo hi none p2) pos) env (cut ds l h) := by
  obtain ⟨ta, pa, ea⟩ := ha
  obtain ⟨tl, pl, el⟩ := hl
  obtain ⟨th, ph, eh⟩ := hh
  refine ⟨tSl (rSlL S.K) ta tl th, fun X D => by rw [← D.K]; exact pe_slice sl_list (pa X D) (pl X D) (ph X D), fun B w0 w σ s Q q => ea B w0 w σ s _ fun v w1 g1 r1 => el B w0 w1 σ (s.mono g1) _ fun w2 g2 => eh B w0 w2 σ (s.mono (g1.trans g2)) _ fun w3 g3 => ?_⟩
  obtain ⟨p, vs, rfl, hp, t⟩ := rp_list (r1.mono (g2.trans g3).s)
  refine ⟨p, vs, rfl, SqL.of (w3.le _ _ hp), fun u hu => ?_⟩
  have g := (g1.trans g2).trans g3
  exact q u _ (w3.new u _ hu) (by
    cases e : w.h u with
    | none => rfl
    | some o => rw [exh g _ _ e] at hu; cases hu) (g.trans (grow_new hu)) upd_same (s_none (w := w3) hu) (rp_cut t)
/-! calls of built-ins -/
theorem xe_callB {id : String} {x : Str} {r : List V → Hp → VK → Prop} (hc : ∀ X, Dyn S X → CallR X (.builtin id) r) (hr : RC S.K r (d :: ds) z) (hm : S.mg x = none) (hv : bootBuiltins x = some (.builtin id)) (ha : XA S (a :: es) env (d :: ds))
    (hg : Glo S x := by rfl) (hn : x ≠ "__name__" := by decide) (hdb : (x == ("__debug__" : Str)) = false := by decide)
    (he : ∀ env, starEach (a :: es) env = (false, eval a env) :: starEach es env := by intro _; rfl) (hpl : ∀ env, (backTo pos (starEach es env)).any (·.1) = false := by intro _; rfl) : XE S (.Call (.Name x p) (a :: es) [] pos) env z := by
  obtain ⟨t, pt, et⟩ := ha
  exact ⟨_, fun X D => pe_callB (hc X D) (hg.gl D) (by rw [D.mg]; exact hm) hv (pt X D) hn hdb (he _) (hpl _), ev_CB et hr⟩
theorem xn_callB {id : String} {x : Str} {r : List V → Hp → VK → Prop} (hc : ∀ X, Dyn S X → CallR X (.builtin id) r) (hr : RCN S.K r (d :: ds) zs) (hm : S.mg x = none) (hv : bootBuiltins x = some (.builtin id)) (ha : XA S (a :: es) env (d :: ds))
    (hg : Glo S x := by rfl) (hn : x ≠ "__name__" := by decide) (hdb : (x == ("__debug__" : Str)) = false := by decide)
    (he : ∀ env, starEach (a :: es) env = (false, eval a env) :: starEach es env := by intro _; rfl) (hpl : ∀ env, (backTo pos (starEach es env)).any (·.1) = false := by intro _; rfl) : XN S (.Call (.Name x p) (a :: es) [] pos) env zs := by
  obtain ⟨t, pt, et⟩ := ha
  exact ⟨_, fun X D => pe_callB (hc X D) (hg.gl D) (by rw [D.mg]; exact hm) hv (pt X D) hn hdb (he _) (hpl _), ev_CBN et hr⟩
theorem xe_callTy {T : String} {x : Str} {r : List V → Hp → VK → Prop} (hc : ∀ X, Dyn S X → CallR X (.type T) r) (hr : RC S.K r (d :: ds) z) (hm : S.mg x = none) (hv : bootBuiltins x = some (.type T)) (ha : XA S (a :: es) env (d :: ds))
    (hg : Glo S x := by rfl) (hn : x ≠ "__name__" := by decide) (hdb : (x == ("__debug__" : Str)) = false := by decide)
    (he : ∀ env, starEach (a :: es) env = (false, eval a env) :: starEach es env := by intro _; rfl) (hpl : ∀ env, (backTo pos (starEach es env)).any (·.1) = false := by intro _; rfl) : XE S (.Call (.Name x p) (a :: es) [] pos) env z := by
  obtain ⟨t, pt, et⟩ := ha
  exact ⟨_, fun X D => pe_callTy (hc X D) (hg.gl D) (by rw [D.mg]; exact hm) hv (pt X D) hn hdb (he _) (hpl _), ev_CB et hr⟩
theorem xn_callTy {T : String} {x : Str} {r : List V → Hp → VK → Prop} (hc : ∀ X, Dyn S X → CallR X (.type T) r) (hr : RCN S.K r (d :: ds) zs) (hm : S.mg x = none) (hv : bootBuiltins x = some (.type T)) (ha : XA S (a :: es) env (d :: ds))
    (hg : Glo S x := by rfl) (hn : x ≠ "__name__" := by decide) (hdb : (x == ("__debug__" : Str)) = false := by decide)
    (he : ∀ env, starEach (a :: es) env = (false, eval a env) :: starEach es env := by intro _; rfl) (hpl : ∀ env, (backTo pos (starEach es env)).any (·.1) = false := by intro _; rfl) : XN S (.Call (.Name x p) (a :: es) [] pos) env zs := by
  obtain ⟨t, pt, et⟩ := ha
  exact ⟨_, fun X D => pe_callTy (hc X D) (hg.gl D) (by rw [D.mg]; exact hm) hv (pt X D) hn hdb (he _) (hpl _), ev_CBN et hr⟩
end
end Fw


namespace Fw
open PySem PySem.Spec L2 Emb
open PyProof.Rows (boot_abs boot_all boot_any boot_int boot_isinstance boot_list boot_max boot_min boot_range boot_reversed boot_sorted boot_str boot_sum boot_tuple boot_zip)
section
variable {S : Sc} {env : Evm} {e a b c o : Expr} {es : List Expr} {d x y z : PyData} {pos p : Pos} {i j : Int} {s s' : Str} {ds zs : List PyData} {k k' : Bool}
theorem rLen_ok {X : Cx} (D : Dyn S X) : CallR X (.builtin "len") (rLen S.K) := by rw [← D.K]; exact call_len
theorem stE (e : Expr) (es : List Expr) : (∀ env, starEach (e :: es) env = (false, eval e env) :: starEach es env) → True := fun _ => trivial
theorem xe_lenS (hz : s.length ≤ sizeLine) (hm : S.mg "len" = none) (ha : XE S a env (.str s)) (hg : Glo S "len" := by rfl) (he : ∀ env, starEach (a :: []) env = (false, eval a env) :: starEach [] env := by intro _; rfl) : XE S (.Call (.Name "len" p) [a] [] pos) env (.int s.length) :=
  xe_callB (fun _ D => rLen_ok D) (rc_lenS hz) hm (by decide +kernel) (xa_cons ha xa_nil he) hg (by decide) (by decide) he (by intro _; rfl)
theorem xe_lenL (hm : S.mg "len" = none) (ha : XE S a env (.list ds)) (hg : Glo S "len" := by rfl) (he : ∀ env, starEach (a :: []) env = (false, eval a env) :: starEach [] env := by intro _; rfl) : XE S (.Call (.Name "len" p) [a] [] pos) env (.int ds.length) :=
  xe_callB (fun _ D => rLen_ok D) rc_lenL hm (by decide +kernel) (xa_cons ha xa_nil he) hg (by decide) (by decide) he (by intro _; rfl)
theorem xe_lenT (hm : S.mg "len" = none) (ha : XE S a env (.tuple ds)) (hg : Glo S "len" := by rfl) (he : ∀ env, starEach (a :: []) env = (false, eval a env) :: starEach [] env := by intro _; rfl) : XE S (.Call (.Name "len" p) [a] [] pos) env (.int ds.length) :=
  xe_callB (fun _ D => rLen_ok D) rc_lenT hm (by decide +kernel) (xa_cons ha xa_nil he) hg (by decide) (by decide) he (by intro _; rfl)
theorem xe_lenScr {ns : List Int} (hm : S.mg "len" = none) (ha : XE S a env (scrD ns)) (hg : Glo S "len" := by rfl) (he : ∀ env, starEach (a :: []) env = (false, eval a env) :: starEach [] env := by intro _; rfl) : XE S (.Call (.Name "len" p) [a] [] pos) env (.int ns.length) :=
  xe_callB (fun _ D => rLen_ok D) rc_lenScr hm (by decide +kernel) (xa_cons ha xa_nil he) hg (by decide) (by decide) he (by intro _; rfl)
theorem xe_all {bs : List Bool} (hc : S.calm = true) (hm : S.mg "all" = none) (ha : XE S a env (.list (bs.map .bool))) (hg : Glo S "all" := by rfl) (he : ∀ env, starEach (a :: []) env = (false, eval a env) :: starEach [] env := by intro _; rfl) : XE S (.Call (.Name "all" p) [a] [] pos) env (.bool (bs.all id)) :=
  xe_callB (fun X D => by rw [← D.K]; exact cr_all (D.calm.trans hc)) rc_all hm (by decide +kernel) (xa_cons ha xa_nil he) hg (by decide) (by decide) he (by intro _; rfl)
theorem xe_any {bs : List Bool} (hc : S.calm = true) (hm : S.mg "any" = none) (ha : XE S a env (.list (bs.map .bool))) (hg : Glo S "any" := by rfl) (he : ∀ env, starEach (a :: []) env = (false, eval a env) :: starEach [] env := by intro _; rfl) : XE S (.Call (.Name "any" p) [a] [] pos) env (.bool (bs.any id)) :=
  xe_callB (fun X D => by rw [← D.K]; exact cr_any (D.calm.trans hc)) rc_any hm (by decide +kernel) (xa_cons ha xa_nil he) hg (by decide) (by decide) he (by intro _; rfl)
theorem xe_sum {ns : List Int} (hc : S.calm = true) (hm : S.mg "sum" = none) (ha : XE S a env (.list (ns.map .int))) (hg : Glo S "sum" := by rfl) (he : ∀ env, starEach (a :: []) env = (false, eval a env) :: starEach [] env := by intro _; rfl) : XE S (.Call (.Name "sum" p) [a] [] pos) env (.int ns.sum) :=
  xe_callB (fun X D => by rw [← D.K]; exact cr_sum (D.calm.trans hc)) rc_sum hm (by decide +kernel) (xa_cons ha xa_nil he) hg (by decide) (by decide) he (by intro _; rfl)
theorem xe_min {ns : List Int} (hn : ns ≠ []) (hc : S.calm = true) (hm : S.mg "min" = none) (ha : XE S a env (.list (ns.map .int))) (hg : Glo S "min" := by rfl) (he : ∀ env, starEach (a :: []) env = (false, eval a env) :: starEach [] env := by intro _; rfl) : XE S (.Call (.Name "min" p) [a] [] pos) env (.int (lmin ns)) :=
  xe_callB (fun X D => by rw [← D.K]; exact cr_min (D.calm.trans hc)) (rc_min hn) hm (by decide +kernel) (xa_cons ha xa_nil he) hg (by decide) (by decide) he (by intro _; rfl)
theorem xe_max {ns : List Int} (hn : ns ≠ []) (hc : S.calm = true) (hm : S.mg "max" = none) (ha : XE S a env (.list (ns.map .int))) (hg : Glo S "max" := by rfl) (he : ∀ env, starEach (a :: []) env = (false, eval a env) :: starEach [] env := by intro _; rfl) : XE S (.Call (.Name "max" p) [a] [] pos) env (.int (lmax ns)) :=
  xe_callB (fun X D => by rw [← D.K]; exact cr_max (D.calm.trans hc)) (rc_max hn) hm (by decide +kernel) (xa_cons ha xa_nil he) hg (by decide) (by decide) he (by intro _; rfl)
theorem xe_min2 (hc : S.calm = true) (hm : S.mg "min" = none) (ha : XE S a env (.int i)) (hb : XE S b env (.int j)) (hg : Glo S "min" := by rfl) (he : ∀ env, starEach (a :: [b]) env = (false, eval a env) :: starEach [b] env := by intro _; rfl) (he2 : ∀ env, starEach (b :: []) env = (false, eval b env) :: starEach [] env := by intro _; rfl)
    (hpl : ∀ env, (backTo pos (starEach [b] env)).any (·.1) = false := by intro _; rfl) : XE S (.Call (.Name "min" p) [a, b] [] pos) env (.int (min i j)) :=
  xe_callB (fun X D => call_min2 (D.calm.trans hc)) rc_min2 hm (by decide +kernel) (xa_cons ha (xa_cons hb xa_nil he2) he) hg (by decide) (by decide) he hpl
theorem xe_max2 (hc : S.calm = true) (hm : S.mg "max" = none) (ha : XE S a env (.int i)) (hb : XE S b env (.int j)) (hg : Glo S "max" := by rfl) (he : ∀ env, starEach (a :: [b]) env = (false, eval a env) :: starEach [b] env := by intro _; rfl) (he2 : ∀ env, starEach (b :: []) env = (false, eval b env) :: starEach [] env := by intro _; rfl)
    (hpl : ∀ env, (backTo pos (starEach [b] env)).any (·.1) = false := by intro _; rfl) : XE S (.Call (.Name "max" p) [a, b] [] pos) env (.int (max i j)) :=
  xe_callB (fun X D => call_max2 (D.calm.trans hc)) rc_max2 hm (by decide +kernel) (xa_cons ha (xa_cons hb xa_nil he2) he) hg (by decide) (by decide) he hpl
theorem xe_abs (hm : S.mg "abs" = none) (ha : XE S a env (.int i)) (hg : Glo S "abs" := by rfl) (he : ∀ env, starEach (a :: []) env = (false, eval a env) :: starEach [] env := by intro _; rfl) : XE S (.Call (.Name "abs" p) [a] [] pos) env (.int (if i < 0 then -i else i)) :=
  xe_callB (fun X D => call_abs) rc_abs hm (by decide +kernel) (xa_cons ha xa_nil he) hg (by decide) (by decide) he (by intro _; rfl)
theorem xe_intI (hm : S.mg "int" = none) (ha : XE S a env (.int i)) (hg : Glo S "int" := by rfl) (he : ∀ env, starEach (a :: []) env = (false, eval a env) :: starEach [] env := by intro _; rfl) : XE S (.Call (.Name "int" p) [a] [] pos) env (.int i) :=
  xe_callTy (fun X D => call_int1) rc_int1 hm (by decide +kernel) (xa_cons ha xa_nil he) hg (by decide) (by decide) he (by intro _; rfl)
theorem xe_intB (hm : S.mg "int" = none) (ha : XE S a env (.bool k)) (hg : Glo S "int" := by rfl) (he : ∀ env, starEach (a :: []) env = (false, eval a env) :: starEach [] env := by intro _; rfl) : XE S (.Call (.Name "int" p) [a] [] pos) env (.int (if k then 1 else 0)) :=
  xe_callTy (fun X D => call_int1) rc_intB hm (by decide +kernel) (xa_cons ha xa_nil he) hg (by decide) (by decide) he (by intro _; rfl)
theorem xe_intS (h : PySem.intText? s = some i) (hl : s.length ≤ 640) (hm : S.mg "int" = none) (ha : XE S a env (.str s)) (hg : Glo S "int" := by rfl) (he : ∀ env, starEach (a :: []) env = (false, eval a env) :: starEach [] env := by intro _; rfl) : XE S (.Call (.Name "int" p) [a] [] pos) env (.int i) :=
  xe_callTy (fun X D => call_int_str) (rc_intS h hl) hm (by decide +kernel) (xa_cons ha xa_nil he) hg (by decide) (by decide) he (by intro _; rfl)
theorem xe_strI (h : i.natAbs.log2 < 1920) (hm : S.mg "str" = none) (ha : XE S a env (.int i)) (hg : Glo S "str" := by rfl) (he : ∀ env, starEach (a :: []) env = (false, eval a env) :: starEach [] env := by intro _; rfl) : XE S (.Call (.Name "str" p) [a] [] pos) env (.str (strI i)) :=
  xe_callTy (fun X D => call_str_int) (rc_strI h) hm (by decide +kernel) (xa_cons ha xa_nil he) hg (by decide) (by decide) he (by intro _; rfl)
theorem listOf_ok {X : Cx} (D : Dyn S X) : CallR X (.type "list") (rListOf S.K) := by rw [← D.K]; exact call_list_of
theorem xn_list (hm : S.mg "list" = none) (ha : XE S a env (.list ds)) (hg : Glo S "list" := by rfl) (he : ∀ env, starEach (a :: []) env = (false, eval a env) :: starEach [] env := by intro _; rfl) : XN S (.Call (.Name "list" p) [a] [] pos) env ds :=
  xn_callTy (fun X D => listOf_ok D) rc_list hm (by decide +kernel) (xa_cons ha xa_nil he) hg (by decide) (by decide) he (by intro _; rfl)
theorem xn_listT (hm : S.mg "list" = none) (ha : XE S a env (.tuple ds)) (hg : Glo S "list" := by rfl) (he : ∀ env, starEach (a :: []) env = (false, eval a env) :: starEach [] env := by intro _; rfl) : XN S (.Call (.Name "list" p) [a] [] pos) env ds :=
  xn_callTy (fun X D => listOf_ok D) rc_listT hm (by decide +kernel) (xa_cons ha xa_nil he) hg (by decide) (by decide) he (by intro _; rfl)
/-- isinstance(a, T) -/
theorem xe_isi {T : Str} {n : String} {p1 : Pos} (hd : noScr d = true) (hk : kitB (tyD d) n = some k) (hm : S.mg "isinstance" = none) (hmT : S.mg T = none) (hv : bootBuiltins T = some (.type n)) (ha : XE S a env d)
    (hg : Glo S "isinstance" := by rfl) (hgT : Glo S T := by rfl) (hn : T ≠ "__name__" := by decide) (hdb : (T == ("__debug__" : Str)) = false := by decide)
    (he : ∀ env, starEach (a :: [.Name T p1]) env = (false, eval a env) :: starEach [.Name T p1] env := by intro _; rfl) : XE S (.Call (.Name "isinstance" p) [a, .Name T p1] [] pos) env (.bool k) := by
  obtain ⟨t, pt, et⟩ := ha
  refine ⟨tCB (rIsi S.K) (tCons t (tCons (tC (.ty n)) tNil)), fun X D => pe_callB (id := "isinstance") (by rw [← D.K]; exact call_isi) (hg.gl D) (by rw [D.mg]; exact hm) (by decide +kernel) (pa_cons (pt X D) (pa_cons (pe_bltn (hgT.gl D) (by rw [D.mg]; exact hmT) hv (show RelV (.ty n) (.type n) from rfl) hn hdb) pa_nil) (he _)) (by decide) (by decide) (he _) rfl, ?_⟩
  intro B w0 w σ s Q q
  refine et B w0 w σ s _ fun v w1 g1 r1 => ?_
  exact ⟨v, .ty n, _, _, k, rfl, .ty n, tyx_of (r1.mono w1.le) hd, kit_ty hk, q _ w1 g1 (.bl _)⟩
/-! methods of texts and lists -/
def RM (K : PySem.W.Frag) (r : V → List V → Hp → VK → Prop) (x : PyData) (ds : List PyData) (z : PyData) : Prop := ∀ w u us, Rp K w.s u x → RpAll K w.s us ds → ∀ Q : VK, (∀ v' w', Grow [] w w' → Rp K w'.s v' z → Q v' w'.h) → r u us w.h Q
def RMN (K : PySem.W.Frag) (r : V → List V → Hp → VK → Prop) (x : PyData) (ds : List PyData) (zs : List PyData) : Prop := ∀ w u us, Rp K w.s u x → RpAll K w.s us ds → ∀ Q : VK,
  (∀ p vs w', w.h p = none → Grow [] w w' → w'.h p = some (.lst vs) → w'.s p = none → RpAll K w'.s vs zs → Q (.ref p) w'.h) → r u us w.h Q
theorem ty_of {K : PySem.W.Frag} {H : Hp} {v : V} {T : String} (hT : T = tyD d) (h : match d with | .str _ => True | .list _ => True | _ => False) (r : Rp K H v d) : tyV K T v H := by
  subst hT
  cases r with
  | str s => rfl
  | lst e t => exact .inl ⟨rfl, _, SqL.of e⟩
  | _ => exact h.elim
theorem bk_none {w w1 : Wl} {p : Addr} (g : Grow [] w w1) (hp : w1.h p = none) : w.h p = none := by
  cases e : w.h p with
  | none => rfl
  | some o => rw [exh g _ _ e] at hp; cases hp
theorem xe_bm {T id : String} {name : Str} {apos : Pos} {r : V → List V → Hp → VK → Prop} (pa : PlainAttrs T) (slot : Slot T name id) (hty : typeOf (.builtin id) = pure (.type "method_descriptor")) (hm : ∀ X, Dyn S X → MtR X id r)
    (hT : T = tyD x) (hx : match x with | .str _ => True | .list _ => True | _ => False) (hr : RM S.K r x (d :: ds) z) (ho : XE S o env x) (ha : XA S (e :: es) env (d :: ds))
    (hbase : ∀ env, attributeBase o name env (eval o env) = eval o env := by intro _; rfl)
    (hfew : ∀ env, ((backTo pos (starEach (e :: es) env)).all (fun x => !x.1) && (backToKw pos (keywordEach [] env)).all (fun x => x.1.isSome)
      && decide ((e :: es).length + ([] : List Keyword).length + (if ([] : List Keyword).isEmpty then 0 else 1) < 30)) = true := by intro _; rfl)
    (hline : (apos.endLine == pos.line) = true := by rfl) (hs : ∀ env, starEach (e :: es) env = (false, eval e env) :: starEach es env := by intro _; rfl) (hplain : ∀ env, (backTo pos (starEach es env)).any (·.1) = false := by intro _; rfl) :
    XE S (.Call (.Attribute o name apos) (e :: es) [] pos) env z := by
  obtain ⟨to, po, eo⟩ := ho
  obtain ⟨ta, pa', ea⟩ := ha
  refine ⟨tBM S.K T r to ta, fun X D => by rw [← D.K]; exact pe_bm pa slot hty (hm X D) (po X D) (pa' X D) (hbase _) (hfew _) hline (hs _) (hplain _), fun B w0 w σ s Q q => eo B w0 w σ s _ fun v w1 g1 r1 => ⟨ty_of hT hx (r1.mono w1.le), ea B w0 w1 σ (s.mono g1) _ fun us w2 g2 r2 => hr w2 v us (r1.mono g2.s) r2 _ fun v3 w3 g3 r3 => q v3 w3 ((g1.trans g2).trans g3) r3⟩⟩
theorem xn_bm {T id : String} {name : Str} {apos : Pos} {r : V → List V → Hp → VK → Prop} (pa : PlainAttrs T) (slot : Slot T name id) (hty : typeOf (.builtin id) = pure (.type "method_descriptor")) (hm : ∀ X, Dyn S X → MtR X id r)
    (hT : T = tyD x) (hx : match x with | .str _ => True | .list _ => True | _ => False) (hr : RMN S.K r x (d :: ds) zs) (ho : XE S o env x) (ha : XA S (e :: es) env (d :: ds))
    (hbase : ∀ env, attributeBase o name env (eval o env) = eval o env := by intro _; rfl)
    (hfew : ∀ env, ((backTo pos (starEach (e :: es) env)).all (fun x => !x.1) && (backToKw pos (keywordEach [] env)).all (fun x => x.1.isSome)
      && decide ((e :: es).length + ([] : List Keyword).length + (if ([] : List Keyword).isEmpty then 0 else 1) < 30)) = true := by intro _; rfl)
    (hline : (apos.endLine == pos.line) = true := by rfl) (hs : ∀ env, starEach (e :: es) env = (false, eval e env) :: starEach es env := by intro _; rfl) (hplain : ∀ env, (backTo pos (starEach es env)).any (·.1) = false := by intro _; rfl) :
    XN S (.Call (.Attribute o name apos) (e :: es) [] pos) env zs := by
  obtain ⟨to, po, eo⟩ := ho
  obtain ⟨ta, pa', ea⟩ := ha
  refine ⟨tBM S.K T r to ta, fun X D => by rw [← D.K]; exact pe_bm pa slot hty (hm X D) (po X D) (pa' X D) (hbase _) (hfew _) hline (hs _) (hplain _), fun B w0 w σ s Q q => eo B w0 w σ s _ fun v w1 g1 r1 => ⟨ty_of hT hx (r1.mono w1.le), ea B w0 w1 σ (s.mono g1) _ fun us w2 g2 r2 => hr w2 v us (r1.mono g2.s) r2 _ fun p vs w3 hp g3 e1 e2 r3 => q p vs w3 (bk_none (g1.trans g2) hp) ((g1.trans g2).trans g3) e1 e2 r3⟩⟩
theorem rm_starts {K : PySem.W.Frag} : RM K (fun x xs H Q => ∃ a b, x = .str a ∧ xs = [.str b] ∧ Q (.bl (Txt.startswith a b)) H) (.str s) [.str s'] (.bool (Txt.startswith s s')) := fun w u us r1 r2 Q q => by
  obtain ⟨v, rfl, r3⟩ := rpA1 r2
  cases r1; cases r3
  exact ⟨_, _, rfl, rfl, q _ w (Grow.refl _ _) (.bl _)⟩
theorem xe_starts {apos : Pos} (ho : XE S o env (.str s)) (ha : XE S a env (.str s')) (hbase : ∀ env, attributeBase o "startswith" env (eval o env) = eval o env := by intro _; rfl) (hline : (apos.endLine == pos.line) = true := by rfl)
    (hs : ∀ env, starEach (a :: []) env = (false, eval a env) :: starEach [] env := by intro _; rfl)
    (hfew : ∀ env, ((backTo pos (starEach (a :: []) env)).all (fun x => !x.1) && (backToKw pos (keywordEach [] env)).all (fun x => x.1.isSome)
      && decide ((a :: []).length + ([] : List Keyword).length + (if ([] : List Keyword).isEmpty then 0 else 1) < 30)) = true := by intro _; rfl) :
    XE S (.Call (.Attribute o "startswith" apos) [a] [] pos) env (.bool (Txt.startswith s s')) :=
  xe_bm PySem.F.plainAttrs_str PySem.F.slot_str_startswith PySem.F.type_str_startswith (fun _ _ => mt_startswith) rfl trivial rm_starts ho (xa_cons ha xa_nil hs) hbase hfew hline hs (by intro _; rfl)
theorem strs_len {α : Type} (f : α → PyData) (l : List α) : (l.map f).length = l.length := List.length_map ..
theorem rm_split {K : PySem.W.Frag} (h1 : (s'.length == 0) = false) (h2 : s.length + 2 ≤ sizeLine) : RMN K (fun x xs H Q => ∃ a b, x = .str a ∧ xs = [.str b] ∧ (b.length == 0) = false ∧ a.length + 2 ≤ sizeLine ∧ rNewStrs (Txt.split a b) H Q) (.str s) [.str s'] ((Txt.split s s').map .str) := fun w u us r1 r2 Q q => by
  obtain ⟨v, rfl, r3⟩ := rpA1 r2
  cases r1; cases r3
  exact ⟨_, _, rfl, rfl, h1, h2, fun p hp => q p _ (w.new p _ hp) hp (grow_new hp) upd_same (s_none (w := w) hp) (RpAll.strs _)⟩
theorem xn_split {apos : Pos} (h1 : (s'.length == 0) = false) (h2 : s.length + 2 ≤ sizeLine) (ho : XE S o env (.str s)) (ha : XE S a env (.str s')) (hbase : ∀ env, attributeBase o "split" env (eval o env) = eval o env := by intro _; rfl) (hline : (apos.endLine == pos.line) = true := by rfl)
    (hs : ∀ env, starEach (a :: []) env = (false, eval a env) :: starEach [] env := by intro _; rfl)
    (hfew : ∀ env, ((backTo pos (starEach (a :: []) env)).all (fun x => !x.1) && (backToKw pos (keywordEach [] env)).all (fun x => x.1.isSome)
      && decide ((a :: []).length + ([] : List Keyword).length + (if ([] : List Keyword).isEmpty then 0 else 1) < 30)) = true := by intro _; rfl) :
    XN S (.Call (.Attribute o "split" apos) [a] [] pos) env ((Txt.split s s').map .str) :=
  xn_bm PySem.F.plainAttrs_str PySem.F.slot_str_split PySem.F.type_str_split (fun _ _ => mt_split) rfl trivial (rm_split h1 h2) ho (xa_cons ha xa_nil hs) hbase hfew hline hs (by intro _; rfl)
theorem rm_join {K : PySem.W.Frag} {ts : List Str} (h : (ts.map (·.length)).sum + ts.length * s.length ≤ 16777216) : RM K (fun x xs H Q => ∃ a p, ∃ ys : List Str, x = .str a ∧ xs = [.ref p] ∧ (SqL K H p (ys.map V.str) ∨ SqT K H p (ys.map V.str)) ∧
    (ys.map (·.length)).sum + ys.length * a.length ≤ 16777216 ∧ Q (.str (Txt.join a ys)) H) (.str s) [.list (ts.map .str)] (.str (Txt.join s ts)) := fun w u us r1 r2 Q q => by
  obtain ⟨v, rfl, r3⟩ := rpA1 r2
  cases r1
  obtain ⟨p, vs, rfl, hp, t⟩ := rp_list r3
  rw [t.of_strs] at hp
  exact ⟨_, p, ts, rfl, rfl, .inl (SqL.of (w.le _ _ hp)), h, q _ w (Grow.refl _ _) (.str _)⟩
theorem xe_join {apos : Pos} {ts : List Str} (h : (ts.map (·.length)).sum + ts.length * s.length ≤ 16777216) (ho : XE S o env (.str s)) (ha : XE S a env (.list (ts.map .str))) (hbase : ∀ env, attributeBase o "join" env (eval o env) = eval o env := by intro _; rfl) (hline : (apos.endLine == pos.line) = true := by rfl)
    (hs : ∀ env, starEach (a :: []) env = (false, eval a env) :: starEach [] env := by intro _; rfl)
    (hfew : ∀ env, ((backTo pos (starEach (a :: []) env)).all (fun x => !x.1) && (backToKw pos (keywordEach [] env)).all (fun x => x.1.isSome)
      && decide ((a :: []).length + ([] : List Keyword).length + (if ([] : List Keyword).isEmpty then 0 else 1) < 30)) = true := by intro _; rfl) :
    XE S (.Call (.Attribute o "join" apos) [a] [] pos) env (.str (Txt.join s ts)) :=
  xe_bm PySem.F.plainAttrs_str PySem.F.slot_str_join PySem.F.type_str_join (fun X D => by rw [← D.K]; exact mt_join) rfl trivial (rm_join h) ho (xa_cons ha xa_nil hs) hbase hfew hline hs (by intro _; rfl)
/-- text * int -/
def repS (s : Str) (n : Int) : Str := ⟨(List.replicate n.toNat s.cps.toList).flatten.toArray⟩
def rRepS : R2 := fun x y H Q => ∃ s n, x = .str s ∧ y = .int n ∧ (0 ≤ n ∧ n < 2 ^ 62 ∧ s.length * n.toNat ≤ sizeLine) ∧ Q (.str (repS s n)) H
theorem foldl_app (a : Array Nat) : ∀ (k : Nat) (acc : Array Nat), ((List.replicate k a).foldl (· ++ ·) acc).toList = acc.toList ++ (List.replicate k a.toList).flatten
  | 0, acc => by simp
  | k + 1, acc => by
    rw [List.replicate_succ, List.foldl_cons, foldl_app a k, List.replicate_succ, List.flatten_cons]
    simp
theorem repS_eq (s : Str) (n : Int) : (⟨(List.replicate n.toNat s.cps).foldl (· ++ ·) #[]⟩ : Str) = repS s n := by
  apply TL.ext_tl
  show ((List.replicate n.toNat s.cps).foldl (· ++ ·) #[]).toList = (repS s n).cps.toList
  rw [foldl_app]
  simp [repS]
theorem repS_len (s : Str) (n : Int) : (repS s n).length = s.length * n.toNat := by
  have e : (repS s n).length = (List.replicate n.toNat s.cps.toList).flatten.length := by
    show (List.toArray _).size = _
    simp [repS]
  rw [e, PyProof.Rows.lm_len_rep_flat, Nat.mul_comm]
  rfl
theorem op_repS {X : Cx} : OpR X (binaryOp .Mult) rRepS := by
  intro pins s σ H x y v u Q I rx ry h
  obtain ⟨z, n, rfl, rfl, ⟨h0, h1, h2⟩, q⟩ := h
  obtain ⟨t, rfl⟩ := rx
  obtain ⟨t', rfl⟩ := ry
  have hz : n.toNat = n := Int.toNat_of_nonneg h0
  have hb : z.length * n.toNat ≤ 16777216 := by have e := sizeLine_eq; omega
  refine PySem.P.mul_str ?_ (fun c1 c2 => ?_) (fun c1 c2 => ?_) ?_
  · rw [decide_eq_false (show ¬ n < -(2 ^ 63 : Int) by omega), decide_eq_false (show ¬ n ≥ 2 ^ 63 by omega)]; rfl
  · intro c
    have hn : 0 < n := by omega
    have h3 : (z.length : Int) * n ≤ 16777216 := by
      have h3 := Int.ofNat_le.mpr hb
      rw [Int.natCast_mul, hz] at h3
      exact h3
    have h4 : (2 ^ 63 - 1) / n < (z.length : Int) := c
    have h5 : (2 ^ 63 - 1 : Int) < z.length * n := (Int.ediv_lt_iff_lt_mul hn).mp h4
    omega
  · show decide (z.length * n.toNat > sizeLine) = false
    exact decide_eq_false (by omega)
  · by_cases c : n < 1
    · rw [if_pos c]
      have e : n.toNat = 0 := by omega
      have e2 : repS z n = Str.empty := by unfold repS; rw [e]; rfl
      exact ⟨by decide, .str (repS z n), H, I.tok _, ⟨_, by rw [e2]⟩, q⟩
    · rw [if_neg c]
      by_cases c2 : (n == 1 || z.length == 0) = true
      · rw [if_pos c2]
        refine ⟨.str (repS z n), H, I, ⟨t, ?_⟩, q⟩
        have : repS z n = z := by
          rcases Bool.or_eq_true_iff.mp c2 with c3 | c3
          · have e : n = 1 := by simpa using c3
            subst e
            apply TL.ext_tl
            show (repS z 1).cps.toList = z.cps.toList
            simp [repS]
          · have e : z.length = 0 := by simpa using c3
            have e2 : z.cps.toList = [] := by
              apply List.eq_nil_of_length_eq_zero
              have : z.cps.size = 0 := e
              simpa using this
            apply TL.ext_tl
            show (repS z n).cps.toList = z.cps.toList
            simp [repS, e2]
        rw [this]
      · rw [if_neg c2, repS_eq]
        exact ⟨by rw [repS_len]; exact h2, .str (repS z n), H, I.tok _, ⟨_, rfl⟩, q⟩
theorem xe_repS (h : 0 ≤ i ∧ i < 2 ^ 62 ∧ s.length * i.toNat ≤ sizeLine) (ha : XE S a env (.str s)) (hb : XE S b env (.int i)) : XE S (.BinOp a .Mult b pos) env (.str (repS s i)) :=
  xe_op (fun _ _ => op_repS) (fun w u v r1 r2 Q q => by cases r1; cases r2; exact ⟨_, _, rfl, rfl, h, q _ w (Grow.refl _ _) (.str _)⟩) ha hb
end
end Fw


namespace Fw
open PySem PySem.Spec L2 Emb
/-! ## what is walked -/
def Src (K : PySem.W.Frag) (J : It) (s1 : Hp) (xs : List PyData) : Prop := ∀ (i : Nat) (w' : Wl), Ex s1 w'.s →
  (i < xs.length → J.go i w'.h ∧ ∀ x H', J.yld i w'.h x H' → ∃ w'' d, w''.h = H' ∧ Grow [] w' w'' ∧ xs[i]? = some d ∧ Rp K w''.s x d) ∧ (xs.length ≤ i → J.stop i w'.h)
def EvI (K : PySem.W.Frag) (wi : TI) (env : Evm) (xs : List PyData) : Prop := ∀ B w0 w σ, Sat K B w0 w σ env → ∀ R : It → Hp → Prop, (∀ J w1, Grow [] w w1 → Src K J w1.s xs → R J w1.h) → wi σ w.h R
def XI (S : Sc) (tg iter : Expr) (env : Evm) (xs : List PyData) : Prop := ∃ wi, (∀ X, Dyn S X → PI X tg iter wi) ∧ EvI S.K wi env xs
section
variable {S : Sc} {env : Evm} {tg e a b c o : Expr} {es : List Expr} {d x y z : PyData} {pos p : Pos} {i j : Int} {s s' : Str} {ds zs : List PyData}
theorem src_list {K : PySem.W.Frag} {a : Addr} {s1 : Hp} {vs : List V} (h : s1 a = some (.lst vs)) (r : RpAll K s1 vs ds) : Src K (Itl K a) s1 ds := fun i w' e => by
  have h' : SqL K w'.h a vs := SqL.of (w'.le _ _ (e _ _ h))
  have r' := r.mono e
  refine ⟨fun hi => ⟨?_, ?_⟩, fun hi => ⟨vs, h', by rw [r.length]; exact hi⟩⟩
  · obtain ⟨v, hv, _⟩ := r.get (List.getElem?_eq_getElem hi)
    exact ⟨vs, v, h', hv⟩
  · rintro x H' ⟨rfl, q⟩
    obtain ⟨d, hd, rd⟩ := r'.getV (q vs h')
    exact ⟨w', d, rfl, Grow.refl _ _, hd, rd⟩
theorem xi_list (h : XE S a env (.list ds)) : XI S tg a env ds := by
  obtain ⟨t, p, q⟩ := h
  refine ⟨iList S.K t, fun X D => by rw [← D.K]; exact pi_list (p X D), fun B w0 w σ s R k => q B w0 w σ s _ fun v w1 g1 r1 => ?_⟩
  obtain ⟨u, vs, rfl, hp, t⟩ := rp_list r1
  exact ⟨u, rfl, ⟨vs, SqL.of (w1.le _ _ hp)⟩, k _ w1 g1 (src_list hp t)⟩
theorem xi_tup (h : XE S a env (.tuple ds)) : XI S tg a env ds := by
  obtain ⟨t, p, q⟩ := h
  refine ⟨iTup S.K t, fun X D => by rw [← D.K]; exact pi_tup (p X D), fun B w0 w σ s R k => q B w0 w σ s _ fun v w1 g1 r1 => ?_⟩
  cases r1 with
  | @tup u vs _ hp t =>
    refine ⟨u, rfl, ⟨vs, ex_sqT w1.le hp⟩, k _ w1 g1 fun i w' e => ?_⟩
    have h' : SqT S.K w'.h u vs := ex_sqT w'.le (ex_sqT e hp)
    have r' := t.mono e
    refine ⟨fun hi => ⟨?_, ?_⟩, fun hi => ⟨vs, h', by rw [t.length]; exact hi⟩⟩
    · obtain ⟨v, hv, _⟩ := t.get (List.getElem?_eq_getElem hi)
      exact ⟨vs, v, h', hv⟩
    · rintro x H' ⟨rfl, q⟩
      obtain ⟨d, hd, rd⟩ := r'.getV (q vs h')
      exact ⟨w', d, rfl, Grow.refl _ _, hd, rd⟩
theorem xi_str (h : XE S a env (.str s)) : XI S tg a env (s.cps.toList.map fun c => .str (sg c)) := by
  obtain ⟨t, p, q⟩ := h
  refine ⟨iStr t, fun X D => pi_str (p X D), fun B w0 w σ s' R k => q B w0 w σ s' _ fun v w1 g1 r1 => ?_⟩
  cases r1
  refine ⟨_, rfl, k _ w1 g1 fun i w' e => ⟨fun hi => ⟨?_, ?_⟩, fun hi => ?_⟩⟩
  · show i < s.cps.size
    rw [List.length_map] at hi; exact hi
  · rintro x H' ⟨rfl, c, hc, rfl⟩
    refine ⟨w', .str (sg c), rfl, Grow.refl _ _, ?_, .str _⟩
    rw [List.getElem?_map]
    have : s.cps.toList[i]? = some c := by simpa using hc
    rw [this]; rfl
  · show s.cps.size ≤ i
    rw [List.length_map] at hi; exact hi
/-- lo, lo + 1, .. (n of them); lo, lo + c, .. -/
def rng (lo : Int) (n : Nat) : List Int := (List.range n).map fun (i : Nat) => lo + (i : Int)
def rngC (lo c : Int) (n : Nat) : List Int := (List.range n).map fun (i : Nat) => lo + (i : Int) * c
theorem rng_len (lo : Int) (n : Nat) : (rng lo n).length = n := by unfold rng; rw [List.length_map, List.length_range]
theorem rngC_len (lo c : Int) (n : Nat) : (rngC lo c n).length = n := by unfold rngC; rw [List.length_map, List.length_range]
theorem rng_get {lo : Int} {n i : Nat} (h : i < n) : (rng lo n)[i]? = some (lo + i) := by unfold rng; rw [List.getElem?_map, List.getElem?_range h]; rfl
theorem rngC_get {lo c : Int} {n i : Nat} (h : i < n) : (rngC lo c n)[i]? = some (lo + i * c) := by unfold rngC; rw [List.getElem?_map, List.getElem?_range h]; rfl
theorem mem_rng {lo : Int} {n : Nat} {x : Int} (h : x ∈ rng lo n) : lo ≤ x ∧ x < lo + n := by
  unfold rng at h
  obtain ⟨k, hk, rfl⟩ := List.mem_map.mp h
  have := List.mem_range.mp hk
  omega
theorem mem_rngC {lo c : Int} {n : Nat} {x : Int} (h : x ∈ rngC lo c n) : ∃ k : Nat, k < n ∧ x = lo + k * c := by
  unfold rngC at h
  obtain ⟨k, hk, rfl⟩ := List.mem_map.mp h
  exact ⟨k, List.mem_range.mp hk, rfl⟩
theorem src_rng {K : PySem.W.Frag} {lo : Int} {n : Nat} {s1 : Hp} : Src K (Itr lo n) s1 ((rng lo n).map .int) := fun i w' e => by
  rw [List.length_map, rng_len]
  refine ⟨fun hi => ⟨hi, ?_⟩, fun hi => hi⟩
  rintro x H' ⟨rfl, rfl⟩
  exact ⟨w', _, rfl, Grow.refl _ _, by rw [List.getElem?_map, rng_get hi]; rfl, .int _⟩
theorem src_rngC {K : PySem.W.Frag} {lo c : Int} {n : Nat} {s1 : Hp} : Src K (Itc lo c n) s1 ((rngC lo c n).map .int) := fun i w' e => by
  rw [List.length_map, rngC_len]
  refine ⟨fun hi => ⟨hi, ?_⟩, fun hi => hi⟩
  rintro x H' ⟨rfl, rfl⟩
  exact ⟨w', _, rfl, Grow.refl _ _, by rw [List.getElem?_map, rngC_get hi]; rfl, .int _⟩
theorem xi_range1 (h : -(2 ^ 62) ≤ i ∧ i < 2 ^ 62) (hm : S.mg "range" = none) (ha : XE S a env (.int i)) (hg : Glo S "range" := by rfl) (hs : ∀ env, starEach [a] env = (false, eval a env) :: starEach [] env := by intro _; rfl) :
    XI S tg (.Call (.Name "range" p) [a] [] pos) env ((rng 0 i.toNat).map .int) := by
  obtain ⟨t, pt, q⟩ := ha
  refine ⟨iRng1 (tCons t tNil), fun X D => pi_range1 (hg.gl D) (by rw [D.mg]; exact hm) (pa_cons (pt X D) pa_nil (hs _)) (hs _), fun B w0 w σ s R k => q B w0 w σ s _ fun v w1 g1 r1 => ?_⟩
  cases r1
  exact ⟨i, rfl, h.1, h.2, k _ w1 g1 src_rng⟩
theorem xi_range2 (h : -(2 ^ 62) ≤ i ∧ i < 2 ^ 62 ∧ -(2 ^ 62) ≤ j ∧ j < 2 ^ 62) (hm : S.mg "range" = none) (ha : XE S a env (.int i)) (hb : XE S b env (.int j)) (hg : Glo S "range" := by rfl)
    (hs : ∀ env, starEach [a, b] env = (false, eval a env) :: starEach [b] env := by intro _; rfl) (hs2 : ∀ env, starEach [b] env = (false, eval b env) :: starEach [] env := by intro _; rfl) :
    XI S tg (.Call (.Name "range" p) [a, b] [] pos) env ((rng i (j - i).toNat).map .int) := by
  obtain ⟨t, pt, q⟩ := ha
  obtain ⟨t2, pt2, q2⟩ := hb
  refine ⟨iRng2 (tCons t (tCons t2 tNil)), fun X D => pi_range2 (hg.gl D) (by rw [D.mg]; exact hm) (pa_cons (pt X D) (pa_cons (pt2 X D) pa_nil (hs2 _)) (hs _)) (by rw [hs, hs2]; rfl) (hs2 _), fun B w0 w σ s R k => q B w0 w σ s _ fun v w1 g1 r1 => q2 B w0 w1 σ (s.mono g1) _ fun v2 w2 g2 r2 => ?_⟩
  cases r1
  cases r2
  exact ⟨i, j, rfl, h, k _ w2 (g1.trans g2) src_rng⟩
theorem xi_range3 {c' : Int} {n : Nat} (h : RgC i j c' n) (hm : S.mg "range" = none) (ha : XE S a env (.int i)) (hb : XE S b env (.int j)) (hc : XE S c env (.int c')) (hg : Glo S "range" := by rfl)
    (hs : ∀ env, starEach [a, b, c] env = (false, eval a env) :: starEach [b, c] env := by intro _; rfl) (hs2 : ∀ env, starEach [b, c] env = (false, eval b env) :: starEach [c] env := by intro _; rfl) (hs3 : ∀ env, starEach [c] env = (false, eval c env) :: starEach [] env := by intro _; rfl)
    (hpl : ∀ env, (backTo pos (starEach [b, c] env)).any (·.1) = false := by intro _; rfl) :
    XI S tg (.Call (.Name "range" p) [a, b, c] [] pos) env ((rngC i c' n).map .int) := by
  obtain ⟨t, pt, q⟩ := ha
  obtain ⟨t2, pt2, q2⟩ := hb
  obtain ⟨t3, pt3, q3⟩ := hc
  refine ⟨iRng3 (tCons t (tCons t2 (tCons t3 tNil))), fun X D => pi_range3 (hg.gl D) (by rw [D.mg]; exact hm) (pa_cons (pt X D) (pa_cons (pt2 X D) (pa_cons (pt3 X D) pa_nil (hs3 _)) (hs2 _)) (hs _)) (hs _) (hpl _),
    fun B w0 w σ s R k => q B w0 w σ s _ fun v w1 g1 r1 => q2 B w0 w1 σ (s.mono g1) _ fun v2 w2 g2 r2 => q3 B w0 w2 σ (s.mono (g1.trans g2)) _ fun v3 w3 g3 r3 => ?_⟩
  cases r1
  cases r2
  cases r3
  exact ⟨i, j, c', n, rfl, h, k _ w3 ((g1.trans g2).trans g3) src_rngC⟩
/-- pairs -/
def pairD (a b : PyData) : PyData := .tuple [a, b]
def enumD (ds : List PyData) : List PyData := (List.range ds.length).zipWith (fun (k : Nat) d => .tuple [.int (k : Int), d]) ds
theorem src_enum {K : PySem.W.Frag} {a : Addr} {s1 : Hp} {vs : List V} (h : s1 a = some (.lst vs)) (r : RpAll K s1 vs ds) : Src K (Ite K a) s1 (enumD ds) := fun i w' e => by
  have h' : SqL K w'.h a vs := SqL.of (w'.le _ _ (e _ _ h))
  have r' := r.mono e
  rw [show (enumD ds).length = ds.length by unfold enumD; rw [List.length_zipWith, List.length_range, Nat.min_self]]
  refine ⟨fun hi => ⟨?_, ?_⟩, fun hi => ⟨vs, h', by rw [r.length]; exact hi⟩⟩
  · obtain ⟨v, hv, _⟩ := r.get (List.getElem?_eq_getElem hi)
    exact ⟨vs, v, h', hv⟩
  · rintro x H' ⟨T, y, rfl, hT, rfl, q⟩
    obtain ⟨d, hd, rd⟩ := r'.getV (q vs h')
    obtain ⟨w2, e2, g2, r2⟩ := rp_newT (K := K) (vs := [.int (i : Int), y]) (ds := [.int (i : Int), d]) hT (.cons (.int _) (.cons rd .nil))
    refine ⟨w2, _, e2, g2, ?_, r2⟩
    unfold enumD
    rw [List.getElem?_zipWith, List.getElem?_range hi, hd]
theorem xi_enum {elts : List Expr} {kk : Nat} {tpos : Pos} (hm : S.mg "enumerate" = none) (ha : XE S a env (.list ds)) (hg : Glo S "enumerate" := by rfl) (hs : ∀ env, starEach [a] env = (false, eval a env) :: starEach [] env := by intro _; rfl) :
    XI S (.Tuple elts kk tpos) (.Call (.Name "enumerate" p) [a] [] pos) env (enumD ds) := by
  obtain ⟨t, pt, q⟩ := ha
  refine ⟨iEnum S.K (tCons t tNil), fun X D => by rw [← D.K]; exact pi_enum (hg.gl D) (by rw [D.mg]; exact hm) (pa_cons (pt X D) pa_nil (hs _)) (hs _), fun B w0 w σ s R k => q B w0 w σ s _ fun v w1 g1 r1 => ?_⟩
  obtain ⟨u, vs, rfl, hp, t⟩ := rp_list r1
  exact ⟨u, vs, rfl, SqL.of (w1.le _ _ hp), k _ w1 g1 (src_enum hp t)⟩
theorem src_zip {K : PySem.W.Frag} {a b : Addr} {s1 : Hp} {vs us : List V} (h : s1 a = some (.lst vs)) (hb : s1 b = some (.lst us)) (r : RpAll K s1 vs ds) (r2 : RpAll K s1 us zs) : Src K (Itz K a b) s1 (ds.zipWith (fun x y => .tuple [x, y]) zs) := fun i w' e => by
  have h' : SqL K w'.h a vs := SqL.of (w'.le _ _ (e _ _ h))
  have hb' : SqL K w'.h b us := SqL.of (w'.le _ _ (e _ _ hb))
  have r' := r.mono e
  have r2' := r2.mono e
  rw [List.length_zipWith]
  refine ⟨fun hi => ⟨?_, ?_⟩, fun hi => ⟨vs, us, h', hb', by rw [r.length, r2.length]; omega⟩⟩
  · obtain ⟨v, hv, _⟩ := r.get (List.getElem?_eq_getElem (show i < ds.length by omega))
    obtain ⟨u, hu, _⟩ := r2.get (List.getElem?_eq_getElem (show i < zs.length by omega))
    exact ⟨vs, us, v, u, h', hb', hv, hu⟩
  · rintro x H' ⟨T, y, z, rfl, hT, rfl, q, q2⟩
    obtain ⟨d, hd, rd⟩ := r'.getV (q vs h')
    obtain ⟨d2, hd2, rd2⟩ := r2'.getV (q2 us hb')
    obtain ⟨w2, e2, g2, r2⟩ := rp_newT (K := K) (vs := [y, z]) (ds := [d, d2]) hT (.cons rd (.cons rd2 .nil))
    refine ⟨w2, _, e2, g2, ?_, r2⟩
    rw [List.getElem?_zipWith, hd, hd2]
theorem xi_zip {elts : List Expr} {kk : Nat} {tpos : Pos} (hm : S.mg "zip" = none) (ha : XE S a env (.list ds)) (hb : XE S b env (.list zs)) (hg : Glo S "zip" := by rfl)
    (hs : ∀ env, starEach [a, b] env = (false, eval a env) :: starEach [b] env := by intro _; rfl) (hs2 : ∀ env, starEach [b] env = (false, eval b env) :: starEach [] env := by intro _; rfl) (hpl : ∀ env, (backTo pos (starEach [b] env)).any (·.1) = false := by intro _; rfl) :
    XI S (.Tuple elts kk tpos) (.Call (.Name "zip" p) [a, b] [] pos) env (ds.zipWith (fun x y => .tuple [x, y]) zs) := by
  obtain ⟨t, pt, q⟩ := ha
  obtain ⟨t2, pt2, q2⟩ := hb
  refine ⟨iZip S.K (tCons t (tCons t2 tNil)), fun X D => by rw [← D.K]; exact pi_zip (hg.gl D) (by rw [D.mg]; exact hm) (pa_cons (pt X D) (pa_cons (pt2 X D) pa_nil (hs2 _)) (hs _)) (hs _) (hpl _),
    fun B w0 w σ s R k => q B w0 w σ s _ fun v w1 g1 r1 => q2 B w0 w1 σ (s.mono g1) _ fun v2 w2 g2 r2 => ?_⟩
  obtain ⟨u, vs, rfl, hp, t⟩ := rp_list (r1.mono g2.s)
  obtain ⟨u2, vs2, rfl, hp2, t2⟩ := rp_list r2
  exact ⟨u, u2, vs, vs2, rfl, SqL.of (w2.le _ _ hp), SqL.of (w2.le _ _ hp2), k _ w2 (g1.trans g2) (src_zip hp hp2 t t2)⟩
theorem xi_rev (hm : S.mg "reversed" = none) (ha : XE S a env (.list ds)) (hg : Glo S "reversed" := by rfl) (hs : ∀ env, starEach [a] env = (false, eval a env) :: starEach [] env := by intro _; rfl) :
    XI S tg (.Call (.Name "reversed" p) [a] [] pos) env ds.reverse := by
  obtain ⟨t, pt, q⟩ := ha
  refine ⟨iRev S.K (tCons t tNil), fun X D => by rw [← D.K]; exact pi_reversed (hg.gl D) (by rw [D.mg]; exact hm) (pa_cons (pt X D) pa_nil (hs _)) (hs _), fun B w0 w σ s R k => q B w0 w σ s _ fun v w1 g1 r1 => ?_⟩
  obtain ⟨u, vs, rfl, hp, t⟩ := rp_list r1
  refine ⟨u, vs, rfl, SqL.of (w1.le _ _ hp), k _ w1 g1 fun i w' e => ?_⟩
  have h' : SqL S.K w'.h u vs := SqL.of (w'.le _ _ (e _ _ hp))
  have r' := t.mono e
  rw [List.length_reverse]
  refine ⟨fun hi => ⟨?_, ?_⟩, fun hi => by show vs.length ≤ i; rw [t.length]; exact hi⟩
  · have hi' : vs.length - 1 - i < vs.length := by rw [t.length]; omega
    exact ⟨by rw [t.length]; exact hi, vs, _, h', List.getElem?_eq_getElem hi'⟩
  · rintro x H' ⟨rfl, q⟩
    obtain ⟨d, hd, rd⟩ := r'.getV (q vs h')
    rw [t.length] at hd
    exact ⟨w', d, rfl, Grow.refl _ _, by rw [List.getElem?_reverse hi]; exact hd, rd⟩
end
/-! ## targets -/
def EvG (K : PySem.W.Frag) (g : TG) (ts : List Nat) (env : Evm) (d : PyData) (env' : Evm) : Prop := ∀ B w0 w σ v, Sat K B w0 w σ env → Rp K w.s v d → ∀ Q : St → Hp → Prop,
  (∀ σ' : St, Sat K B w0 w σ' env' → σ'.length = σ.length → (∀ j, j ∉ ts → σ'[j]? = σ[j]?) → Q σ' w.h) → g v σ w.h Q
def XG (S : Sc) (tg : Expr) (ts : List Nat) (F : PyData → Evm → Evm) (P : Evm → PyData → Prop) : Prop := ∃ g, (∀ X, Dyn S X → PG X tg g) ∧ ∀ env d, P env d → EvG S.K g ts env d (F d env)
section
variable {S : Sc} {pos p : Pos} {x y z u : Str}
theorem evg_name {K : PySem.W.Frag} {i : Nat} {env : Evm} {d : PyData} (hi : i < env.length) : EvG K (gName i) [i] env d (env.set i (.dat d)) := fun B w0 w σ v s r Q q =>
  q _ (s.dat hi r) (List.length_set ..) fun j hj => by rw [List.getElem?_set]; exact if_neg (fun e => hj (by rw [e]; exact List.mem_singleton_self _))
theorem xg_name (i : Nat) (hN : S.N.Nodup) (hi : S.N[i]? = some x := by rfl) (hl : S.sc.names.lookup x = some .local := by rfl) : XG S (.Name x pos) [i] (fun d env => env.set i (.dat d)) (fun env _ => i < env.length) :=
  ⟨gName i, fun X D => pg_name (by rw [D.N]; exact hN) (by rw [D.N]; exact hi) (by rw [D.sc]; exact .inl hl) (.inr (by rw [D.sc]; exact hl)), fun env d hi => evg_name hi⟩
def itemsD : PyData → List PyData
  | .tuple ds => ds
  | _ => []
def putL : List Nat → List PyData → Evm → Evm
  | j :: js, d :: ds, env => putL js ds (env.set j (.dat d))
  | _, _, env => env
theorem xg_tup2 (i j : Nat) {k : Nat} (hc : S.calm = true) (hN : S.N.Nodup) {p1 p2 : Pos} (hi : S.N[i]? = some x := by rfl) (hj : S.N[j]? = some y := by rfl) (hl : S.sc.names.lookup x = some .local := by rfl) (hl2 : S.sc.names.lookup y = some .local := by rfl) :
    XG S (.Tuple [.Name x p1, .Name y p2] k pos) [i, j] (fun d env => putL [i, j] (itemsD d) env) (fun env d => i < env.length ∧ j < env.length ∧ ∃ a b, d = .tuple [a, b]) := by
  have n1 : ∀ X, Dyn S X → PG X (.Name x p1) (gName i) := fun X D => pg_name (by rw [D.N]; exact hN) (by rw [D.N]; exact hi) (by rw [D.sc]; exact .inl hl) (.inr (by rw [D.sc]; exact hl))
  have n2 : ∀ X, Dyn S X → PG X (.Name y p2) (gName j) := fun X D => pg_name (by rw [D.N]; exact hN) (by rw [D.N]; exact hj) (by rw [D.sc]; exact .inl hl2) (.inr (by rw [D.sc]; exact hl2))
  refine ⟨gTup S.K 2 (gCons (gName i) (gCons (gName j) gNil)), fun X D => by rw [← D.K]; exact pg_tup (D.calm.trans hc) (pgs_cons (n1 X D) (pgs_cons (n2 X D) pgs_nil)), ?_⟩
  rintro env d ⟨h1, h2, a, b, rfl⟩ B w0 w σ v s r Q q
  cases r with
  | tup hp t =>
    cases t with
    | cons r1 t => cases t with
      | cons r2 t =>
        cases t
        refine ⟨_, _, rfl, ex_sqT w.le hp, rfl, _, _, rfl, _, _, rfl, rfl, ?_⟩
        refine q _ ((s.dat h1 r1).dat (by rw [List.length_set]; exact h2) r2) (by rw [List.length_set, List.length_set]) fun m hm => ?_
        rw [List.getElem?_set_ne (fun e => hm (by rw [← e]; exact List.mem_cons_of_mem _ List.mem_cons_self)), List.getElem?_set_ne (fun e => hm (by rw [← e]; exact List.mem_cons_self))]
theorem xg_tup3 (i j l : Nat) {k : Nat} (hc : S.calm = true) (hN : S.N.Nodup) {p1 p2 p3 : Pos} (hi : S.N[i]? = some x := by rfl) (hj : S.N[j]? = some y := by rfl) (hl' : S.N[l]? = some z := by rfl) (hl : S.sc.names.lookup x = some .local := by rfl) (hl2 : S.sc.names.lookup y = some .local := by rfl) (hl3 : S.sc.names.lookup z = some .local := by rfl) :
    XG S (.Tuple [.Name x p1, .Name y p2, .Name z p3] k pos) [i, j, l] (fun d env => putL [i, j, l] (itemsD d) env) (fun env d => i < env.length ∧ j < env.length ∧ l < env.length ∧ ∃ a b c, d = .tuple [a, b, c]) := by
  have n1 : ∀ X, Dyn S X → PG X (.Name x p1) (gName i) := fun X D => pg_name (by rw [D.N]; exact hN) (by rw [D.N]; exact hi) (by rw [D.sc]; exact .inl hl) (.inr (by rw [D.sc]; exact hl))
  have n2 : ∀ X, Dyn S X → PG X (.Name y p2) (gName j) := fun X D => pg_name (by rw [D.N]; exact hN) (by rw [D.N]; exact hj) (by rw [D.sc]; exact .inl hl2) (.inr (by rw [D.sc]; exact hl2))
  have n3 : ∀ X, Dyn S X → PG X (.Name z p3) (gName l) := fun X D => pg_name (by rw [D.N]; exact hN) (by rw [D.N]; exact hl') (by rw [D.sc]; exact .inl hl3) (.inr (by rw [D.sc]; exact hl3))
  refine ⟨gTup S.K 3 (gCons (gName i) (gCons (gName j) (gCons (gName l) gNil))), fun X D => by rw [← D.K]; exact pg_tup (D.calm.trans hc) (pgs_cons (n1 X D) (pgs_cons (n2 X D) (pgs_cons (n3 X D) pgs_nil))), ?_⟩
  rintro env d ⟨h1, h2, h3, a, b, c, rfl⟩ B w0 w σ v s r Q q
  cases r with
  | tup hp t =>
    cases t with
    | cons r1 t => cases t with
      | cons r2 t => cases t with
        | cons r3 t =>
          cases t
          refine ⟨_, _, rfl, ex_sqT w.le hp, rfl, _, _, rfl, _, _, rfl, _, _, rfl, rfl, ?_⟩
          refine q _ (((s.dat h1 r1).dat (by rw [List.length_set]; exact h2) r2).dat (by rw [List.length_set, List.length_set]; exact h3) r3) (by rw [List.length_set, List.length_set, List.length_set]) fun m hm => ?_
          rw [List.getElem?_set_ne (fun e => hm (by rw [← e]; simp)), List.getElem?_set_ne (fun e => hm (by rw [← e]; simp)), List.getElem?_set_ne (fun e => hm (by rw [← e]; simp))]
end
/-! ## comprehensions -/
def Sc.blk (S : Sc) (scope : Scope) : Sc := { S with sc := relS scope S.sc }
def wipeE (env : Evm) : List Nat → Evm
  | [] => env
  | v :: vs => (wipeE env vs).set v .junk
theorem Dyn.blk {S : Sc} {X : Cx} (D : Dyn S X) (scope : Scope) (s : Shared) (H : Hp) (C : Addr) (cl : List (Str × Addr)) (fp : List Addr) : Dyn (S.blk scope) (X.blk s H scope (compEnvC scope cl C X.env) fp) where
  P := D.P
  w := D.w
  K := D.K
  mg := D.mg
  base := D.base
  N := D.N
  sc := by
    show relS scope X.env.scope = relS scope S.sc
    rw [D.sc]
  calm := D.calm
  room := D.room
  un := D.un
theorem Sat.wiped {K : PySem.W.Frag} {B : List Addr} {w0 : Bs} {w : Wl} {σ : St} {env : Evm} (h : Sat K B w0 w σ env) : ∀ vs : List Nat, Sat K B w0 w (wipe σ vs) (wipeE env vs)
  | [] => h
  | v :: vs => by
    have ih := Sat.wiped h vs
    show Sat K B w0 w ((wipe σ vs).set v none) ((wipeE env vs).set v .junk)
    by_cases c : v < (wipeE env vs).length
    · exact ih.junk c
    · have c2 : (wipe σ vs).length ≤ v := by rw [ih.len]; omega
      rw [List.set_eq_of_length_le c2, List.set_eq_of_length_le (by omega)]
      exact ih
theorem wipe_get (σ : St) (vs : List Nat) (j : Nat) : (wipe σ vs)[j]? = if j ∈ vs then (σ[j]?).map (fun _ => none) else σ[j]? := by
  induction vs with
  | nil => simp [wipe]
  | cons v vs ih =>
    show ((wipe σ vs).set v none)[j]? = _
    by_cases c : v = j
    · subst c
      rw [if_pos List.mem_cons_self, List.getElem?_set_self']
      rw [ih]
      by_cases c2 : v ∈ vs
      · rw [if_pos c2]; cases σ[v]? <;> rfl
      · rw [if_neg c2]; cases σ[v]? <;> rfl
    · rw [List.getElem?_set_ne c, ih]
      by_cases c2 : j ∈ vs
      · rw [if_pos c2, if_pos (List.mem_cons_of_mem _ c2)]
      · rw [if_neg c2, if_neg (by intro q; rcases List.mem_cons.mp q with q | q; exact c q.symm; exact c2 q)]
theorem wipe_back {σ σ' : St} {vs ts : List Nat} (hl : σ'.length = σ.length) (hts : ∀ j ∈ ts, j ∈ vs) (h : ∀ j, j ∉ ts → σ'[j]? = (wipe σ vs)[j]?) : wipe σ' vs = wipe σ vs := by
  apply List.ext_getElem?
  intro j
  rw [wipe_get, wipe_get]
  by_cases c : j ∈ vs
  · rw [if_pos c, if_pos c]
    by_cases c2 : j < σ.length
    · rw [List.getElem?_eq_getElem c2, List.getElem?_eq_getElem (by omega)]; rfl
    · rw [List.getElem?_eq_none (by omega), List.getElem?_eq_none (by omega)]
  · rw [if_neg c, if_neg c, h j (fun q => c (hts j q)), wipe_get, if_neg c]
theorem pe_sup {X : Cx} {e : Expr} {ι : Sort _} {t : ι → TE} (h : ∀ i, PE X e (t i)) : PE X e (fun σ H Q => ∃ i, t i σ H Q) := ⟨fun pins s σ H Q I ⟨i, q⟩ => (h i).run pins s σ H Q I q⟩
theorem pts_sup {X : Cx} {es : List Expr} {ι : Sort _} {t : ι → TT} (h : ∀ i, PTs X es (t i)) : PTs X es (fun σ H Q => ∃ i, t i σ H Q) := ⟨fun pins s σ H Q I ⟨i, q⟩ => (h i).run pins s σ H Q I q⟩
def XTs (S : Sc) (es : List Expr) (env : Evm) (b : Bool) : Prop := ∃ t, (∀ X, Dyn S X → PTs X es t) ∧ EvT S.K t env b
section
variable {S : Sc} {env : Evm} {tg elt iter a : Expr} {ifs : List Expr} {scope : Scope} {own : List (Str × Nat)} {pos : Pos} {ts : List Nat} {F : PyData → Evm → Evm} {P : Evm → PyData → Prop}
theorem xts_nil : XTs S [] env true := ⟨tYes, fun X D => pts_nil, fun B w0 w σ s Q q => q w (Grow.refl _ _)⟩
theorem xts_one {b : Bool} (h : XT S a env b) : XTs S [a] env b := let ⟨t, p, q⟩ := h; ⟨t, fun X D => pts_one (p X D), q⟩
def XLc (S : Sc) (elt tg iter : Expr) (ifs : List Expr) (scope : Scope) (own : List (Str × Nat)) (env : Evm) (zs : List PyData) : Prop := ∃ wi g tt te,
  (∀ X, Dyn S X → PI X tg iter wi) ∧ (∀ X, Dyn (S.blk scope) X → PG X tg g) ∧ (∀ X, Dyn (S.blk scope) X → PTs X ifs tt) ∧ (∀ X, Dyn (S.blk scope) X → PE X elt te) ∧ EvN S.K (tLc wi g tt te (own.map (·.2))) env zs
theorem xn_lc {zs : List PyData} (own : List (Str × Nat)) (h : XLc S elt tg iter ifs scope own env zs) (hc : S.calm = true) (hN : S.N.Nodup) (ok : blkC S.N S.sc scope own = true := by first | (dsimp only; decide +kernel) | decide +kernel) (hs : ∀ env x, foldedSetIterable iter env x = pure x := by intro _ _; rfl) :
    XN S (.ListComp elt [⟨tg, iter, ifs, 0⟩] scope pos) env zs := by
  obtain ⟨wi, g, tt, te, pi, pg, ptt, pte, q⟩ := h
  exact ⟨tLc wi g tt te (own.map (·.2)), fun X D => pe_lc (D.calm.trans hc) (by rw [D.N]; exact hN) (pi X D) (by rw [D.N, D.sc]; exact blkOk_by ok) (fun s H C cl fp => pg _ (D.blk scope s H C cl fp)) (fun s H C cl fp => ptt _ (D.blk scope s H C cl fp))
    (fun s H C cl fp => pte _ (D.blk scope s H C cl fp)) (hs _), q⟩
theorem xlc0 {α : Type} (e : α → PyData) (f : α → PyData) (p : α → Bool) {xs : List α} (hi : XI S tg iter env (xs.map e)) (hc : S.calm = true) (hN : S.N.Nodup) (hl : xs.length ≤ sizeLine) 
    (hg : XG (S.blk scope) tg ts F P) (hts : ∀ j ∈ ts, j ∈ own.map (·.2)) (hP : ∀ x ∈ xs, P (wipeE env (own.map (·.2))) (e x))
    (ht : ∀ x ∈ xs, XTs (S.blk scope) ifs (F (e x) (wipeE env (own.map (·.2)))) (p x)) (he : ∀ x ∈ xs, p x = true → XE (S.blk scope) elt (F (e x) (wipeE env (own.map (·.2)))) (f x))
    : XLc S elt tg iter ifs scope own env ((xs.filter p).map f) := by
  obtain ⟨wi, pi, ei⟩ := hi
  obtain ⟨g, pg, eg⟩ := hg
  let tt : TT := fun σ H Q => ∃ i : { x : α // x ∈ xs }, (Classical.choose (ht i.1 i.2)) σ H Q
  let te : TE := fun σ H Q => ∃ i : { x : α // x ∈ xs ∧ p x = true }, (Classical.choose (he i.1 i.2.1 i.2.2)) σ H Q
  have ptt : ∀ X, Dyn (S.blk scope) X → PTs X ifs tt := fun X D => pts_sup fun i => (Classical.choose_spec (ht i.1 i.2)).1 X D
  have pte : ∀ X, Dyn (S.blk scope) X → PE X elt te := fun X D => pe_sup fun i => (Classical.choose_spec (he i.1 i.2.1 i.2.2)).1 X D
  have ett : ∀ x (hx : x ∈ xs), EvT S.K tt (F (e x) (wipeE env (own.map (·.2)))) (p x) := fun x hx B w0 w σ s Q q => ⟨⟨x, hx⟩, (Classical.choose_spec (ht x hx)).2 B w0 w σ s Q q⟩
  have ete : ∀ x (hx : x ∈ xs) (hp : p x = true), EvE S.K te (F (e x) (wipeE env (own.map (·.2)))) (f x) := fun x hx hp B w0 w σ s Q q => ⟨⟨x, hx, hp⟩, (Classical.choose_spec (he x hx hp)).2 B w0 w σ s Q q⟩
  refine ⟨wi, g, tt, te, pi, pg, ptt, pte, ?_⟩
  intro B w0 w σ sat Q q
  refine ei B w0 w σ sat _ fun J w1 g1 src D hD => ?_
  have hD0 : w.h D = none := bk_none g1 hD
  refine ⟨fun i m H => i + m = xs.length ∧ ∃ (w' : Wl) (vs : List V), w'.h = H ∧ Grow [] w1 w' ∧ w'.h D = some (.lst vs) ∧ w'.s D = none ∧ RpAll S.K w'.s vs (((xs.take i).filter p).map f), ⟨xs.length, by omega, w1.new D (.lst []) hD, [], rfl, grow_new hD, upd_same, s_none (w := w1) hD, .nil⟩, ?_⟩
  rintro i m H ⟨him, w', vs, rfl, g2, hv, hsD, rv⟩
  have hsrc := src i w' g2.s
  rw [List.length_map] at hsrc
  by_cases hlt : i < xs.length
  · right
    obtain ⟨hgo, hy⟩ := hsrc.1 hlt
    refine ⟨hgo, fun H' => i + 1 + (m - 1) = xs.length ∧ ∃ (w' : Wl) (vs : List V), w'.h = H' ∧ Grow [] w1 w' ∧ w'.h D = some (.lst vs) ∧ w'.s D = none ∧ RpAll S.K w'.s vs (((xs.take (i + 1)).filter p).map f), fun H' h => ⟨m - 1, by omega, h⟩, ?_⟩
    intro x H' hx
    obtain ⟨w2, d, rfl, g3, hd, rd⟩ := hy x H' hx
    rw [List.getElem?_map, List.getElem?_eq_getElem hlt] at hd
    injection hd with hd
    subst hd
    have hmem : xs[i] ∈ xs := List.getElem_mem hlt
    have sat2 : Sat S.K B w0 w2 σ env := sat.mono ((g1.trans g2).trans g3)
    have htk : xs.take (i + 1) = xs.take i ++ [xs[i]] := by rw [List.take_succ, List.getElem?_eq_getElem hlt]; rfl
    refine eg _ _ (hP _ hmem) B w0 w2 _ x (sat2.wiped _) rd _ fun σ' sat3 hlen hσ => ?_
    refine ⟨wipe_back (hlen.trans (wipe_length _ _)) hts hσ, ?_⟩
    refine ett _ hmem B w0 w2 σ' sat3 _ fun w3 g4 => ?_
    have gg : Grow [] w1 w3 := (g2.trans g3).trans g4
    have hv3 : w3.h D = some (.lst vs) := exh (g3.trans g4) _ _ hv
    have hs3 : w3.s D = none := (g3.trans g4).own D (by rw [hv]; intro q; cases q) hsD
    cases hp : p xs[i] with
    | false =>
      rw [if_neg Bool.false_ne_true]
      refine ⟨by omega, w3, vs, rfl, gg, hv3, hs3, ?_⟩
      rw [htk, List.filter_append, List.filter_cons_of_neg (by rw [hp]; exact Bool.false_ne_true), List.filter_nil, List.append_nil]
      exact rv.mono (g3.trans g4).s
    | true =>
      rw [if_pos rfl]
      refine ete _ hmem hp B w0 w3 σ' (sat3.mono g4) _ fun v w4 g5 r5 => ?_
      have hv4 : w4.h D = some (.lst vs) := exh g5 _ _ hv3
      have hs4 : w4.s D = none := g5.own D (by rw [hv3]; intro q; cases q) hs3
      have rv4 : RpAll S.K w4.s vs (((xs.take i).filter p).map f) := rv.mono ((g3.trans g4).trans g5).s
      have hvl : vs.length ≤ i := by
        rw [rv4.length, List.length_map]
        exact Nat.le_trans (List.length_filter_le _ _) (by rw [List.length_take]; omega)
      refine ⟨vs, hv4, by omega, by omega, ⟨w4.s, upd w4.h D (.lst (vs ++ [v])), fun a o ea => ?_⟩, vs ++ [v], rfl, ?_, upd_same, hs4, ?_⟩
      · have hne : a ≠ D := fun q => by rw [q, hs4] at ea; cases ea
        rw [upd_ne hne]; exact w4.le a o ea
      · have g6 := gg.trans g5
        refine ⟨fun a o _ ea => ?_, g6.s, g6.own, fun a ea => ?_⟩
        · have hne : a ≠ D := fun q => by rw [q, hD] at ea; cases ea
          show upd w4.h D (.lst (vs ++ [v])) a = some o
          rw [upd_ne hne]; exact g6.h a o (by simp) ea
        · show upd w4.h D (.lst (vs ++ [v])) a ≠ none
          by_cases hne : a = D
          · rw [hne, upd_same]; intro q; cases q
          · rw [upd_ne hne]; exact g6.dom a ea
      · rw [htk, List.filter_append, List.filter_cons_of_pos hp, List.filter_nil, List.map_append]
        exact rv4.append (.one r5)
  · left
    have hm0 : i = xs.length := by omega
    subst hm0
    refine ⟨hsrc.2 (Nat.le_refl _), q D vs w' hD0 (g1.trans g2) hv hsD ?_⟩
    rw [List.take_length] at rv
    exact rv
/-- [f x for x in xs], the data typed -/
theorem xlc_map {α β : Type} [Emb β] (e : α → PyData) (f : α → β) {xs : List α} (hi : XI S tg iter env (xs.map e)) (hc : S.calm = true) (hN : S.N.Nodup) (hl : xs.length ≤ sizeLine)
    (hg : XG (S.blk scope) tg ts F P) (hts : ∀ j ∈ ts, j ∈ own.map (·.2)) (hP : ∀ x ∈ xs, P (wipeE env (own.map (·.2))) (e x))
    (he : ∀ x ∈ xs, XE (S.blk scope) elt (F (e x) (wipeE env (own.map (·.2)))) (emb (f x))) : XLc S elt tg iter [] scope own env ((xs.map f).map emb) := by
  have h := xlc0 e (fun x => emb (f x)) (fun _ => true) hi hc hN hl hg hts hP (fun x _ => xts_nil) (fun x hx _ => he x hx)
  rw [List.filter_eq_self.mpr (fun _ _ => rfl)] at h
  rw [List.map_map]
  exact h
theorem xlc_filter {α β : Type} [Emb β] (e : α → PyData) (f : α → β) (p : α → Bool) {xs : List α} {c : Expr} (hi : XI S tg iter env (xs.map e)) (hc : S.calm = true) (hN : S.N.Nodup) (hl : xs.length ≤ sizeLine)
    (hg : XG (S.blk scope) tg ts F P) (hts : ∀ j ∈ ts, j ∈ own.map (·.2)) (hP : ∀ x ∈ xs, P (wipeE env (own.map (·.2))) (e x))
    (ht : ∀ x ∈ xs, XT (S.blk scope) c (F (e x) (wipeE env (own.map (·.2)))) (p x))
    (he : ∀ x ∈ xs, p x = true → XE (S.blk scope) elt (F (e x) (wipeE env (own.map (·.2)))) (emb (f x))) : XLc S elt tg iter [c] scope own env (((xs.filter p).map f).map emb) := by
  have h := xlc0 e (fun x => emb (f x)) p hi hc hN hl hg hts hP (fun x hx => xts_one (ht x hx)) he
  rw [List.map_map]
  exact h
end
end Fw


namespace Fw
open PySem PySem.Spec L2 Emb
/-! ## statements -/
structure AE where
  nx : Evm → Prop
  rt : Evm → PyData → Prop
  bk : Evm → Prop := fun _ => False
  ct : Evm → Prop := fun _ => False
  ex : Evm → Exn → Prop := fun _ _ => False
def ExAt (G : Gc) (w : Wl) (e : Exn) (cls : Value) (d : Option Addr) : Prop :=
  cls = .ref (G.ct e.c).1 ∧ match (G.ct e.c).2 with
    | none => d = none
    | some f => ∃ dd v, d = some dd ∧ w.s dd = some (.xd [(f, v)]) ∧ Rp G.K w.s v e.a
theorem ExAt.mono {G : Gc} {w w' : Wl} {e : Exn} {cls : Value} {d : Option Addr} (h : ExAt G w e cls d) (g : Ex w.s w'.s) : ExAt G w' e cls d := by
  obtain ⟨h1, h2⟩ := h
  refine ⟨h1, ?_⟩
  cases hf : (G.ct e.c).2 with
  | none => rw [hf] at h2; exact h2
  | some f => rw [hf] at h2; obtain ⟨dd, v, e1, e2, e3⟩ := h2; exact ⟨dd, v, e1, g _ _ e2, e3.mono g⟩
structure Link (S : Sc) (B : List Addr) (w0 : Bs) (W : WX) (D : Ends) (D' : AE) : Prop where
  nx : ∀ env w σ, D'.nx env → Sat S.K B w0 w σ env → D.nx σ w.h
  bk : ∀ env w σ, D'.bk env → Sat S.K B w0 w σ env → D.bk σ w.h
  ct : ∀ env w σ, D'.ct env → Sat S.K B w0 w σ env → D.ct σ w.h
  rt : ∀ env d v w σ, D'.rt env d → Sat S.K B w0 w σ env → Rp S.K w.s v d → D.rt v w.h
  ex : ∀ env e cls d w σ, D'.ex env e → Sat S.K B w0 w σ env → ExAt S.toGc w e cls d → W cls d σ w.h
def RunX (S : Sc) (t : TS) (W : WX) (env : Evm) (D' : AE) : Prop := ∀ B w0 w σ D, Sat S.K B w0 w σ env → Link S B w0 W D D' → t D σ w.h
abbrev Own (X : Cx) : Prop := PassesOwn (model X.prog X.w) X.A X.env X.xe
structure Ctx (S : Sc) (W : WX) (X : Cx) : Prop where
  dyn : Dyn S X
  tk : Takes X W
  own : Own X
  fn : ∀ x, X.fn x = true
def XS (S : Sc) (st : Stmt) (env : Evm) (D : AE) : Prop := ∀ W, ∃ t, (∀ X, Ctx S W X → PS X st t) ∧ RunX S t W env D
def XSs (S : Sc) (sts : List Stmt) (env : Evm) (D : AE) : Prop := ∀ W, ∃ t, (∀ X, Ctx S W X → PSs X sts t) ∧ RunX S t W env D
section
variable {S : Sc} {env env' : Evm} {D : AE} {st : Stmt} {sts rest : List Stmt} {e a b c o : Expr} {es : List Expr} {d x y z : PyData} {pos p p' : Pos} {i j : Int} {s s' n : Str} {ds zs : List PyData} {k : Bool}
theorem pss_sup {X : Cx} {sts : List Stmt} {ι : Sort _} {t : ι → TS} (h : ∀ i, PSs X sts (t i)) : PSs X sts (fun D σ H => ∃ i, t i D σ H) := ⟨fun pins s σ H D I ⟨i, q⟩ => (h i).run pins s σ H D I q⟩
theorem xss_nil (k : D.nx env) : XSs S [] env D := fun W => ⟨tNext, fun X C => pss_nil, fun B w0 w σ D' sat l => l.nx _ _ _ k sat⟩
theorem XS.one (h : XS S st env D) : XSs S [st] env D := fun W => let ⟨t, p, q⟩ := h W; ⟨t, fun X C => pss_one (p X C), q⟩
/-- a statement, then the rest from each of its ends -/
theorem xss_cut (M : Evm → Prop) (h : XS S st env { D with nx := M }) (k : ∀ env', M env' → XSs S rest env' D) : XSs S (st :: rest) env D := fun W => by
  obtain ⟨t, pt, rt⟩ := h W
  let u : TS := fun D σ H => ∃ i : { e : Evm // M e }, (Classical.choose (k i.1 i.2 W)) D σ H
  refine ⟨tSeq t u, fun X C => pss_cons (pt X C) (pss_sup fun i => (Classical.choose_spec (k i.1 i.2 W)).1 X C), fun B w0 w σ D' sat l => ?_⟩
  exact rt B w0 w σ { D' with nx := u D' } sat ⟨fun env w σ hm sat' => ⟨⟨env, hm⟩, (Classical.choose_spec (k env hm W)).2 B w0 w σ D' sat' l⟩, l.bk, l.ct, l.rt, l.ex⟩
theorem xss_of (h : ∀ W, ∃ t, (∀ X, Ctx S W X → PS X st t) ∧ ∀ u, RunX S u W env' D → RunX S (tSeq t u) W env D) (k : XSs S rest env' D) : XSs S (st :: rest) env D := fun W => by
  obtain ⟨t, pt, rt⟩ := h W
  obtain ⟨u, pu, ru⟩ := k W
  exact ⟨tSeq t u, fun X C => pss_cons (pt X C) (pu X C), rt u ru⟩
/-- weaken what is known ahead -/
theorem xss_weak (l : Le env env') (k : XSs S sts env' D) : XSs S sts env D := fun W => let ⟨t, p, q⟩ := k W; ⟨t, p, fun B w0 w σ D' sat => q B w0 w σ D' (sat.weak l)⟩
def Slot (S : Sc) (i : Nat) (n : Str) : Prop := S.N[i]? = some n ∧ (S.sc.names.lookup n = some .local ∨ S.sc.names.lookup n = some .cell)
theorem Slot.loc {i : Nat} {X : Cx} (h : Slot S i n) (D : Dyn S X) : Loc X.env.scope n := by
  rw [D.sc]; exact h.2
theorem Slot.lt {i : Nat} (h : Slot S i n) : i < S.N.length := (List.getElem?_eq_some_iff.mp h.1).1
theorem ps_setS {X : Cx} {W : WX} {i : Nat} {te : TE} (C : Ctx S W X) (hN : S.N.Nodup) (hs : Slot S i n) (he : PE X e te) (hw : ∀ env, swapsWith e (some (.Name n p')) pos.line env = pure false) : PS X (.Assign [.Name n p'] e pos) (tAsg te (gName i)) :=
  ps_set (by rw [C.dyn.N]; exact hN) (by rw [C.dyn.N]; exact hs.1) (hs.loc C.dyn) he (hw _) (.inl (C.fn _))
/-- name = value -/
theorem xss_set (i : Nat) (hN : S.N.Nodup) (he : XE S e env d) (k : XSs S rest (env.set i (.dat d)) D) (hi : i < env.length := by exact Nat.le_of_ble_eq_true rfl) (hs : Slot S i n := by first | exact ⟨rfl, .inl rfl⟩ | exact ⟨rfl, .inr rfl⟩) (hw : ∀ env, swapsWith e (some (.Name n p')) pos.line env = pure false := by intro _; rfl) :
    XSs S (.Assign [.Name n p'] e pos :: rest) env D := by
  obtain ⟨t, pt, et⟩ := he
  refine xss_of (fun W => ⟨tAsg t (gName i), fun X C => ps_setS C hN hs (pt X C.dyn) hw, fun u ru B w0 w σ D' sat l => ?_⟩) k
  refine et B w0 w σ sat _ fun v w1 g1 r1 => ?_
  exact ru B w0 w1 _ D' ((sat.mono g1).dat hi r1) l
/-- a new list that this name alone holds -/
theorem Sat.own {K : PySem.W.Frag} {B : List Addr} {w0 : Bs} {w w1 : Wl} {σ : St} {env : Evm} {i : Nat} {q : Addr} {vs : List V} (sat : Sat K B w0 w σ env) (hi : i < env.length) (hq : w.h q = none) (g : Grow [] w w1) (h1 : w1.h q = some (.lst vs)) (h2 : w1.s q = none) (r : RpAll K w1.s vs ds) :
    Sat K B w0 w1 (σ.set i (some (.ref q))) (env.set i (.own (.lst ds))) := by
  have hw0 : w0.h q = none := by
    cases c : w0.h q with
    | none => rfl
    | some o => exact absurd hq (sat.grow.dom q (by rw [c]; intro z; cases z))
  obtain ⟨fps, f⟩ := sat.f
  refine ((f.mono g).put (e := .own (.lst ds)) hi (fp := [q]) ⟨List.nodup_cons.mpr ⟨by simp, List.nodup_nil⟩, fun a ha => ?_, .ref q, rfl, q, vs, rfl, rfl, h1, r⟩ ?_).sat
  · rw [List.mem_singleton.mp ha]
    exact ⟨h2, (by rw [h1]; intro z; cases z), hw0⟩
  · intro a ha j hj hm
    rw [List.mem_singleton.mp ha] at hm
    exact (f.there hm).2 hq
/-- name = a new list -/
theorem xss_setN (i : Nat) (hN : S.N.Nodup) (he : XN S e env ds) (k : XSs S rest (env.set i (.own (.lst ds))) D) (hi : i < env.length := by exact Nat.le_of_ble_eq_true rfl) (hs : Slot S i n := by first | exact ⟨rfl, .inl rfl⟩ | exact ⟨rfl, .inr rfl⟩) (hw : ∀ env, swapsWith e (some (.Name n p')) pos.line env = pure false := by intro _; rfl) :
    XSs S (.Assign [.Name n p'] e pos :: rest) env D := by
  obtain ⟨t, pt, et⟩ := he
  refine xss_of (fun W => ⟨tAsg t (gName i), fun X C => ps_setS C hN hs (pt X C.dyn) hw, fun u ru B w0 w σ D' sat l => ?_⟩) k
  refine et B w0 w σ sat _ fun q vs w1 hq g1 h1 h2 r1 => ?_
  exact ru B w0 w1 _ D' (sat.own hi hq g1 h1 h2 r1) l
section
variable {tg elt iter : Expr} {ifs : List Expr} {scope : Scope} {pos' : Pos}
/-- name = [..], the name a local -/
theorem xss_setLc (i : Nat) (own : List (Str × Nat)) (h : XLc S elt tg iter ifs scope own env zs) (hc : S.calm = true) (hN : S.N.Nodup) (k : XSs S rest (env.set i (.own (.lst zs))) D) (hi : i < env.length := by exact Nat.le_of_ble_eq_true rfl)
    (hk : S.sc.kind = .function := by rfl) (hn : S.N[i]? = some n := by rfl) (hnl : S.sc.names.lookup n = some .local := by rfl) (ok : blkC S.N S.sc scope own = true := by first | (dsimp only; decide +kernel) | decide +kernel)
    (hl : (p'.line == pos'.line) = true := by rfl) (ha : (scope.names.any fun (m, k) => m == n && (k == .local || k == .cell)) = false := by decide +kernel) (hs : ∀ env x, foldedSetIterable iter env x = pure x := by intro _ _; rfl) :
    XSs S (.Assign [.Name n p'] (.ListComp elt [⟨tg, iter, ifs, 0⟩] scope pos') pos :: rest) env D := by
  obtain ⟨wi, g, tt, te, pi, pg, ptt, pte, q⟩ := h
  refine xss_of (fun W => ⟨tAsg (tLc wi g tt te (own.map (·.2))) (gName i), fun X C => ps_setLc (C.dyn.calm.trans hc) (by rw [C.dyn.N]; exact hN) (by rw [C.dyn.N]; exact hn) (by rw [C.dyn.sc]; exact hnl)
    (sw_true (by rw [C.dyn.sc]; exact hk) (by rw [C.dyn.sc]; exact hnl) hl ha) (pi X C.dyn) (by rw [C.dyn.N, C.dyn.sc]; exact blkOk_by ok) (fun s H C' cl fp => pg _ (C.dyn.blk scope s H C' cl fp)) (fun s H C' cl fp => ptt _ (C.dyn.blk scope s H C' cl fp))
    (fun s H C' cl fp => pte _ (C.dyn.blk scope s H C' cl fp)) (hs _), fun u ru B w0 w σ D' sat l => ?_⟩) k
  exact q B w0 w σ sat (fun x H1 => u D' (σ.set i (some x)) H1) fun q vs w1 hq g1 h1 h2 r1 => ru B w0 w1 _ D' (sat.own hi hq g1 h1 h2 r1) l
end
/-- what an own list holds is there for good from here on -/
theorem Sat.frz {K : PySem.W.Frag} {B : List Addr} {w0 : Bs} {w : Wl} {σ : St} {env : Evm} {i : Nat} (sat : Sat K B w0 w σ env) (h : env[i]? = some (.own (.lst ds))) :
    ∃ w', w'.h = w.h ∧ Ex w.s w'.s ∧ Sat K B w0 w' σ (env.set i (.dat (.list ds))) := by
  obtain ⟨fps, f⟩ := sat.f
  have hi : i < env.length := (List.getElem?_eq_some_iff.mp h).1
  have c := f.sl i
  have e0 : env.getD i .junk = .own (.lst ds) := by rw [List.getD_eq_getElem?_getD, h]; rfl
  rw [e0] at c
  obtain ⟨_, ha, v, ev, q, vs, rfl, hfp, hq, r⟩ := c
  have hq0 := ha q (by rw [hfp]; exact List.mem_singleton_self _)
  have fx : ∀ a, a ≠ q → (w.fix q _ hq).s a = w.s a := fun a hne => upd_ne hne
  have hσ : σ.set i (σ.getD i none) = σ := by
    have hl : i < σ.length := by rw [f.len]; exact hi
    rw [List.getD_eq_getElem?_getD, List.getElem?_eq_getElem hl]
    exact List.set_getElem_self hl
  refine ⟨w.fix q _ hq, rfl, ex_fix hq, ?_⟩
  rw [← hσ]
  refine (f.turn (w' := w.fix q _ hq) (e := .dat (.list ds)) (fp := []) hi ⟨fun a o hb e => f.grow.h a o hb e, f.grow.s.trans (ex_fix hq), fun a e1 e2 => ?_, f.grow.dom⟩ (ex_fix hq) (fun j hj a haj => ⟨rfl, fx a ?_⟩) ⟨rfl, .ref q, ev, .lst (fix_same hq) (r.mono (ex_fix hq))⟩ (fun a ha => nomatch ha)).sat
  · have hne : a ≠ q := fun z => e1 (by rw [z]; exact hq0.2.2)
    rw [fx a hne]; exact f.grow.own a e1 e2
  · intro z
    exact f.dj i j q (fun z => hj z.symm) (by rw [hfp]; exact List.mem_singleton_self _) (by rw [← z]; exact haj)
theorem xss_frz (i : Nat) (k : XSs S sts (env.set i (.dat (.list ds))) D) (h : env[i]? = some (.own (.lst ds)) := by rfl) : XSs S sts env D := fun W => by
  obtain ⟨t, pt, et⟩ := k W
  refine ⟨t, pt, fun B w0 w σ D' sat l => ?_⟩
  obtain ⟨w', e1, _, sat'⟩ := sat.frz h
  rw [← e1]
  exact et B w0 w' σ D' sat' l
/-- an own list read on the way to a flat value -/
theorem xe_tmp (i : Nat) (he : XE S e (env.set i (.dat (.list ds))) d) (hd : flatD d = true := by rfl) (h : env[i]? = some (.own (.lst ds)) := by rfl) : XE S e env d := by
  obtain ⟨t, pt, et⟩ := he
  refine ⟨t, pt, fun B w0 w σ sat Q q => ?_⟩
  obtain ⟨w', e1, e2, sat'⟩ := sat.frz h
  rw [← e1]
  refine et B w0 w' σ sat' _ fun v w2 g2 r2 => ?_
  refine q v ⟨w.s, w2.h, fun a o ea => exh g2 a o (by rw [e1]; exact w.le a o ea)⟩ ⟨fun a o _ ea => exh g2 a o (by rw [e1]; exact ea), Ex.refl _, fun _ _ e => e, fun a ea => g2.dom a (by rw [e1]; exact ea)⟩ ?_
  cases r2 with
  | non => exact .non
  | bl b => exact .bl b
  | int b => exact .int b
  | str b => exact .str b
  | _ => cases hd
theorem xt_tmp (i : Nat) {b : Bool} (he : XT S e (env.set i (.dat (.list ds))) b) (h : env[i]? = some (.own (.lst ds)) := by rfl) : XT S e env b := by
  obtain ⟨t, pt, et⟩ := he
  refine ⟨t, pt, fun B w0 w σ sat Q q => ?_⟩
  obtain ⟨w', e1, e2, sat'⟩ := sat.frz h
  rw [← e1]
  refine et B w0 w' σ sat' _ fun w2 g2 => ?_
  exact q ⟨w.s, w2.h, fun a o ea => exh g2 a o (by rw [e1]; exact w.le a o ea)⟩ ⟨fun a o _ ea => exh g2 a o (by rw [e1]; exact ea), Ex.refl _, fun _ _ e => e, fun a ea => g2.dom a (by rw [e1]; exact ea)⟩
/-- an own list is written -/
theorem Sat.write {K : PySem.W.Frag} {B : List Addr} {w0 : Bs} {w : Wl} {σ : St} {env : Evm} {i : Nat} {q : Addr} {vs vs' : List V} {ds' : List PyData} (sat : Sat K B w0 w σ env) (h : env[i]? = some (.own (.lst ds)))
    (hv : σ[i]? = some (some (.ref q))) (hq : w.h q = some (.lst vs)) (r : RpAll K w.s vs' ds') : ∃ w', w'.h = upd w.h q (.lst vs') ∧ w'.s = w.s ∧ Sat K B w0 w' σ (env.set i (.own (.lst ds'))) := by
  obtain ⟨fps, f⟩ := sat.f
  have hi : i < env.length := (List.getElem?_eq_some_iff.mp h).1
  have c := f.sl i
  have e0 : env.getD i .junk = .own (.lst ds) := by rw [List.getD_eq_getElem?_getD, h]; rfl
  have ev0 : σ.getD i none = some (.ref q) := by rw [List.getD_eq_getElem?_getD, hv]; rfl
  rw [e0, ev0] at c
  obtain ⟨nd, ha, v, ev, q', vs0, rfl, hfp, hq', r'⟩ := c
  injection ev with ev
  injection ev with ev
  subst ev
  have hq0 := ha q (by rw [hfp]; exact List.mem_singleton_self _)
  have fx : ∀ a, a ≠ q → upd w.h q (.lst vs') a = w.h a := fun a hne => upd_ne hne
  have hσ : σ.set i (some (.ref q)) = σ := by
    have hl : i < σ.length := by rw [f.len]; exact hi
    rw [List.getElem?_eq_getElem hl] at hv
    injection hv with hv
    rw [← hv]
    exact List.set_getElem_self hl
  have le' : ∀ a o, w.s a = some o → upd w.h q (.lst vs') a = some o := fun a o ea => by
    rw [fx a (fun z => by rw [z, hq0.1] at ea; cases ea)]; exact w.le a o ea
  refine ⟨⟨w.s, upd w.h q (.lst vs'), le'⟩, rfl, rfl, ?_⟩
  · rw [← hσ]
    refine (f.turn (w' := ⟨w.s, upd w.h q (.lst vs'), le'⟩) (e := .own (.lst ds')) (fp := fps i) hi ⟨fun a o hb e => ?_, f.grow.s, f.grow.own, fun a e => ?_⟩ (Ex.refl _) (fun j hj a haj => ⟨fx a ?_, rfl⟩) ⟨nd, fun a ha' => ?_, .ref q, rfl, q, vs', rfl, hfp, upd_same, r⟩ (fun a ha j hj => f.dj i j a (fun z => hj z.symm) ha)).sat
    · show upd w.h q (.lst vs') a = some o
      rw [fx a (fun z => by rw [z, hq0.2.2] at e; cases e)]; exact f.grow.h a o hb e
    · show upd w.h q (.lst vs') a ≠ none
      by_cases c : a = q
      · rw [c, upd_same]; intro z; cases z
      · rw [fx a c]; exact f.grow.dom a e
    · intro z
      exact f.dj i j q (fun z => hj z.symm) (by rw [hfp]; exact List.mem_singleton_self _) (by rw [← z]; exact haj)
    · rw [hfp] at ha'
      rw [List.mem_singleton.mp ha']
      exact ⟨hq0.1, (by show upd w.h q (.lst vs') q ≠ none; rw [upd_same]; intro z; cases z), hq0.2.2⟩
theorem Sat.ownL {K : PySem.W.Frag} {B : List Addr} {w0 : Bs} {w : Wl} {σ : St} {env : Evm} {i : Nat} (sat : Sat K B w0 w σ env) (h : env[i]? = some (.own (.lst ds))) : ∃ q vs, σ[i]? = some (some (.ref q)) ∧ w.h q = some (.lst vs) ∧ RpAll K w.s vs ds := by
  obtain ⟨v, fp, e, q, vs, rfl, _, hq, r⟩ := sat.getO (.inl h)
  exact ⟨q, vs, e, hq, r⟩
/-- name.append(e) -/
theorem xss_app (i : Nat) {apos : Pos} (hl : ds.length < sizeLine) (he : XE S e env d) (k : XSs S rest (env.set i (.own (.lst (ds ++ [d])))) D) (h : env[i]? = some (.own (.lst ds)) := by rfl) (hn : S.N[i]? = some n := by rfl)
    (hv : Vis S.sc n := by first | exact Or.inl rfl | exact Or.inr (Or.inl rfl) | exact Or.inr (Or.inr rfl)) (h1 : (n == ("__debug__" : Str)) = false := by decide) (h2 : (n == ("__classdict__" : Str)) = false := by decide)
    (hline : (apos.endLine == p.line) = true := by rfl) (hs : ∀ env, starEach (e :: []) env = (false, eval e env) :: starEach [] env := by intro _; rfl)
    (hbase : ∀ env, attributeBase (.Name n p') "append" env (eval (.Name n p') env) = eval (.Name n p') env := by intro _; rfl)
    (hfew : ∀ env, ((backTo p (starEach (e :: []) env)).all (fun x => !x.1) && (backToKw p (keywordEach [] env)).all (fun x => x.1.isSome)
      && decide ((e :: []).length + ([] : List Keyword).length + (if ([] : List Keyword).isEmpty then 0 else 1) < 30)) = true := by intro _; rfl)
    (hsw : ∀ env, swapsWith (.Call (.Attribute (.Name n p') "append" apos) [e] [] p) none pos.line env = pure false := by intro _; rfl) :
    XSs S (.Expr (.Call (.Attribute (.Name n p') "append" apos) [e] [] p) pos :: rest) env D := by
  obtain ⟨t, pt, et⟩ := he
  refine xss_of (fun W => ⟨tDrop (tBM S.K "list" rAppend (tVar i) (tCons t tNil)), fun X C => ps_expr (by
    rw [← C.dyn.K]
    exact pe_bm PySem.F.plainAttrs_list PySem.F.slot_list_append PySem.F.type_list_append mt_append (pe_var (by rw [C.dyn.N]; exact hn) (by rw [C.dyn.sc]; exact hv) h1 h2) (pa_cons (pt X C.dyn) pa_nil (hs _)) (hbase _) (hfew _) hline (hs _) rfl) (hsw _), fun u ru B w0 w σ D' sat l => ?_⟩) k
  obtain ⟨q, vs, ev, hq, r⟩ := sat.ownL h
  refine ⟨.ref q, ev, .inl ⟨rfl, _, SqL.of hq⟩, ?_⟩
  refine et B w0 w σ sat _ fun v w1 g1 r1 => ?_
  have hq1 := exh g1 _ _ hq
  have r' := r.mono g1.s
  obtain ⟨w2, e2, e3, sat2⟩ := (sat.mono g1).write h ev hq1 (r'.append (.one r1))
  refine ⟨q, vs, v, rfl, rfl, hq1, by rw [r.length]; exact hl, ?_⟩
  rw [← e2]
  exact ru B w0 w2 σ D' sat2 l
/-- return e -/
theorem xss_ret (he : XE S e env d) (k : D.rt env d) : XSs S (.Return (some e) pos :: rest) env D := fun W => by
  obtain ⟨t, pt, et⟩ := he
  exact ⟨tSeq (tRet t) tNever, fun X C => pss_cons (ps_ret (pt X C.dyn)) pss_never, fun B w0 w σ D' sat l => et B w0 w σ sat _ fun v w1 g1 r1 => l.rt env d v w1 σ k (sat.mono g1) r1⟩
theorem xss_retN (k : D.rt env .none) : XSs S (.Return none pos :: rest) env D := fun W =>
  ⟨tSeq tRetN tNever, fun X C => pss_cons ps_retN pss_never, fun B w0 w σ D' sat l => l.rt env .none .non w σ k sat .non⟩
theorem xss_break (k : D.bk env) : XSs S (.Break pos :: rest) env D := fun W => ⟨tSeq tBreak tNever, fun X C => pss_cons ps_break pss_never, fun B w0 w σ D' sat l => l.bk env w σ k sat⟩
theorem xss_cont (k : D.ct env) : XSs S (.Continue pos :: rest) env D := fun W => ⟨tSeq tCont tNever, fun X C => pss_cons ps_continue pss_never, fun B w0 w σ D' sat l => l.ct env w σ k sat⟩
theorem xss_pass (k : XSs S rest env D) : XSs S (.Pass pos :: rest) env D := xss_of (fun W => ⟨tNext, fun X C => ps_pass, fun u ru => ru⟩) k
/-- e alone, its value dropped -/
theorem xss_expr (he : XE S e env d) (k : XSs S rest env D) (hsw : ∀ env, swapsWith e none pos.line env = pure false := by intro _; rfl) : XSs S (.Expr e pos :: rest) env D := by
  obtain ⟨t, pt, et⟩ := he
  exact xss_of (fun W => ⟨tDrop t, fun X C => ps_expr (pt X C.dyn) (hsw _), fun u ru B w0 w σ D' sat l => et B w0 w σ sat _ fun v w1 g1 r1 => ru B w0 w1 σ D' (sat.mono g1) l⟩) k
/-- if: each branch goes on with what is behind -/
theorem xs_if {a b : List Stmt} (ht : XT S c env k) (h1 : k = true → XSs S a env D) (h2 : k = false → XSs S b env D) : XS S (.If c a b pos) env D := fun W => by
  obtain ⟨t, pt, et⟩ := ht
  cases k with
  | true =>
    obtain ⟨u, pu, ru⟩ := h1 rfl W
    exact ⟨tIfS t u tNever, fun X C => ps_if (pt X C.dyn) (pu X C) pss_never, fun B w0 w σ D' sat l => et B w0 w σ sat _ fun w1 g1 => ru B w0 w1 σ D' (sat.mono g1) l⟩
  | false =>
    obtain ⟨u, pu, ru⟩ := h2 rfl W
    exact ⟨tIfS t tNever u, fun X C => ps_if (pt X C.dyn) pss_never (pu X C), fun B w0 w σ D' sat l => et B w0 w σ sat _ fun w1 g1 => ru B w0 w1 σ D' (sat.mono g1) l⟩
theorem xss_if {a b : List Stmt} (ht : XT S c env k) (h1 : k = true → XSs S a env { D with nx := fun e => XSs S rest e D }) (h2 : k = false → XSs S b env { D with nx := fun e => XSs S rest e D }) : XSs S (.If c a b pos :: rest) env D :=
  xss_cut (fun e => XSs S rest e D) (xs_if ht h1 h2) (fun _ h => h)
/-- if: both branches come to what env' tells -/
theorem xss_ifJ {a b : List Stmt} (env' : Evm) (ht : XT S c env k) (h1 : k = true → XSs S a env { D with nx := fun e => Le e env' }) (h2 : k = false → XSs S b env { D with nx := fun e => Le e env' }) (h : XSs S rest env' D) : XSs S (.If c a b pos :: rest) env D :=
  xss_cut (fun e => Le e env') (xs_if ht h1 h2) (fun _ l => xss_weak l h)
/-- name op= e, ints -/
theorem xss_augI (i : Nat) {op : Operator} {f : Int → Int → Int} {m : Int} (hp : ∀ X, Dyn S X → PIp X op (ipI f)) (hN : S.N.Nodup) (he : XE S e env (.int j)) (k : XSs S rest (env.set i (.dat (.int (f m j)))) D) (h : env[i]? = some (.dat (.int m)) := by rfl)
    (hs : Slot S i n := by first | exact ⟨rfl, .inl rfl⟩ | exact ⟨rfl, .inr rfl⟩) : XSs S (.AugAssign (.Name n p') op e pos :: rest) env D := by
  obtain ⟨t, pt, et⟩ := he
  have hi : i < env.length := (List.getElem?_eq_some_iff.mp h).1
  refine xss_of (fun W => ⟨tAug i t (ipI f), fun X C => ps_aug (by rw [C.dyn.N]; exact hN) (by rw [C.dyn.N]; exact hs.1) (hs.loc C.dyn) (pt X C.dyn) (hp X C.dyn) (.inl (C.fn _)), fun u ru B w0 w σ D' sat l => ?_⟩) k
  obtain ⟨v, e1, r⟩ := sat.get h
  cases r
  refine ⟨_, e1, ?_⟩
  refine et B w0 w σ sat _ fun v w1 g1 r1 => ?_
  cases r1
  exact ⟨m, j, rfl, rfl, ru B w0 w1 _ D' ((sat.mono g1).dat hi (.int _)) l⟩
theorem xss_addI (i : Nat) {m : Int} (hN : S.N.Nodup) (he : XE S e env (.int j)) (k : XSs S rest (env.set i (.dat (.int (m + j)))) D) (h : env[i]? = some (.dat (.int m)) := by rfl) (hs : Slot S i n := by first | exact ⟨rfl, .inl rfl⟩ | exact ⟨rfl, .inr rfl⟩) : XSs S (.AugAssign (.Name n p') .Add e pos :: rest) env D :=
  xss_augI i (f := fun i j => i + j) (fun _ _ => ip_add) hN he k h hs
theorem xss_subI (i : Nat) {m : Int} (hN : S.N.Nodup) (he : XE S e env (.int j)) (k : XSs S rest (env.set i (.dat (.int (m - j)))) D) (h : env[i]? = some (.dat (.int m)) := by rfl) (hs : Slot S i n := by first | exact ⟨rfl, .inl rfl⟩ | exact ⟨rfl, .inr rfl⟩) : XSs S (.AugAssign (.Name n p') .Sub e pos :: rest) env D :=
  xss_augI i (f := fun i j => i - j) (fun _ _ => ip_sub) hN he k h hs
end
end Fw


namespace Fw
open PySem PySem.Spec L2 Emb
/-! ## loops -/
/-- a turn's end: on with s, out of the def with r, out of the loop with s -/
inductive Fr (S R : Type) where
  | nx (s : S)
  | rt (r : R)
  | bk (s : S)
def forF {S R α : Type} (body : S → α → Fr S R) : List α → S → Fr S R
  | [], s => .nx s
  | x :: xs, s => match body s x with
    | .nx s' => forF body xs s'
    | .rt r => .rt r
    | .bk s' => .bk s'
section
variable {S R α : Type} {body : S → α → Fr S R}
theorem forF_app : ∀ (l1 l2 : List α) (s : S), forF body (l1 ++ l2) s = match forF body l1 s with
    | .nx s' => forF body l2 s'
    | .rt r => .rt r
    | .bk s' => .bk s'
  | [], _, _ => rfl
  | x :: l1, l2, s => by
    show (match body s x with | .nx s' => forF body (l1 ++ l2) s' | .rt r => .rt r | .bk s' => .bk s') = match (match body s x with | .nx s' => forF body l1 s' | .rt r => .rt r | .bk s' => .bk s') with
      | .nx s' => forF body l2 s'
      | .rt r => .rt r
      | .bk s' => .bk s'
    cases body s x with
    | nx s' => exact forF_app l1 l2 s'
    | rt r => rfl
    | bk s' => rfl
theorem forF_one (x : α) (s : S) : forF body [x] s = body s x := by
  show (match body s x with | .nx s' => forF body [] s' | .rt r => .rt r | .bk s' => .bk s') = body s x
  cases body s x <;> rfl
theorem take_one {xs : List α} {i : Nat} {x : α} (h : xs[i]? = some x) : xs.take (i + 1) = xs.take i ++ [x] := by
  rw [List.take_succ, h]; rfl
theorem forF_step {xs : List α} {i : Nat} {x : α} {s s0 : S} (h : xs[i]? = some x) (hi : forF body (xs.take i) s0 = .nx s) : forF body (xs.take (i + 1)) s0 = body s x := by
  rw [take_one h, forF_app, hi]
  exact forF_one x s
theorem split_at {xs : List α} {i : Nat} {x : α} (h : xs[i]? = some x) : xs = xs.take (i + 1) ++ xs.drop (i + 1) := (List.take_append_drop _ _).symm
theorem forF_rt {xs : List α} {i : Nat} {x : α} {s s0 : S} {r : R} (h : xs[i]? = some x) (hi : forF body (xs.take i) s0 = .nx s) (hb : body s x = .rt r) : forF body xs s0 = .rt r := by
  rw [split_at h, forF_app, forF_step h hi, hb]
theorem forF_bk {xs : List α} {i : Nat} {x : α} {s s0 s' : S} (h : xs[i]? = some x) (hi : forF body (xs.take i) s0 = .nx s) (hb : body s x = .bk s') : forF body xs s0 = .bk s' := by
  rw [split_at h, forF_app, forF_step h hi, hb]
theorem forF_fold (f : S → α → S) : ∀ (xs : List α) (s : S), forF (R := R) (fun s x => .nx (f s x)) xs s = .nx (xs.foldl f s)
  | [], _ => rfl
  | x :: xs, s => forF_fold f xs (f s x)
end
theorem Sat.raise {K : PySem.W.Frag} {B : List Addr} {b : Bs} {w : Wl} {σ : St} {env : Evm} (h : Sat K B b w σ env) : Sat K B { b with s := w.s } w σ env :=
  ⟨⟨h.grow.h, Ex.refl _, h.grow.own, h.grow.dom⟩, h.len, h.sl⟩
theorem Sat.lower {K : PySem.W.Frag} {B : List Addr} {b : Bs} {s1 : Hp} {w : Wl} {σ : St} {env : Evm} (h : Sat K B { b with s := s1 } w σ env) (e : Ex b.s s1) : Sat K B b w σ env :=
  ⟨⟨h.grow.h, e.trans h.grow.s, h.grow.own, h.grow.dom⟩, h.len, h.sl⟩
section
variable {S : Sc} {env env' : Evm} {D : AE} {st : Stmt} {sts rest : List Stmt} {tg iter e a b c o : Expr} {es : List Expr} {d x y z : PyData} {pos p p' : Pos} {i j : Int} {s s' n : Str} {ds zs : List PyData} {k : Bool} {ts : List Nat} {F : PyData → Evm → Evm} {P : Evm → PyData → Prop}
theorem xs_for {α S' R : Type} (e : α → PyData) {xs : List α} (en : S' → Evm) (body : S' → α → Fr S' R) (s0 : S') (hi : XI S tg iter env (xs.map e)) (hc : S.calm = true) (hg : XG S tg ts F P) (h0 : Le env (en s0))
    (turn : ∀ i x s, xs[i]? = some x → forF body (xs.take i) s0 = .nx s → P (en s) (e x) ∧
      XSs S sts (F (e x) (en s)) { nx := fun ev => ∃ s', body s x = .nx s' ∧ Le ev (en s'), ct := fun ev => ∃ s', body s x = .nx s' ∧ Le ev (en s'), bk := fun ev => ∃ s', body s x = .bk s' ∧ Le ev (en s'), rt := D.rt, ex := D.ex })
    (done : ∀ s, forF body xs s0 = .nx s → D.nx (en s)) (brk : ∀ s, forF body xs s0 = .bk s → D.nx (en s))
    (hs : ∀ env x, foldedSetIterable iter env x = pure x := by intro _ _; rfl) : XS S (.For tg iter sts [] pos) env D := fun W => by
  obtain ⟨wi, pi, ei⟩ := hi
  obtain ⟨g, pg, eg⟩ := hg
  let I := { q : Nat × α × S' // xs[q.1]? = some q.2.1 ∧ forF body (xs.take q.1) s0 = .nx q.2.2 }
  let tb : TS := fun D σ H => ∃ q : I, (Classical.choose ((turn q.1.1 q.1.2.1 q.1.2.2 q.2.1 q.2.2).2 W)) D σ H
  refine ⟨tFor wi g tb, fun X C => ps_for C.own (C.dyn.calm.trans hc) (pi X C.dyn) (pg X C.dyn) (pss_sup fun q => (Classical.choose_spec ((turn q.1.1 q.1.2.1 q.1.2.2 q.2.1 q.2.2).2 W)).1 X C) (hs _), ?_⟩
  intro B w0 w σ D' sat l
  refine ei B w0 w σ sat _ fun J w1 g1 src => ?_
  have sat1 := ((sat.mono g1).weak h0).raise
  have ex1 : Ex w0.s w1.s := (sat.mono g1).grow.s
  refine ⟨fun i m σ H => i + m = xs.length ∧ ∃ (w : Wl) (s : S'), w.h = H ∧ Sat S.K B { w0 with s := w1.s } w σ (en s) ∧ forF body (xs.take i) s0 = .nx s, ⟨xs.length, by omega, w1, s0, rfl, sat1, rfl⟩, ?_⟩
  rintro i m σ H ⟨him, w2, s, rfl, sat2, hist⟩
  have hsrc := src i w2 sat2.grow.s
  rw [List.length_map] at hsrc
  by_cases hlt : i < xs.length
  · right
    obtain ⟨hgo, hy⟩ := hsrc.1 hlt
    refine ⟨hgo, fun σ' H' => i + 1 + (m - 1) = xs.length ∧ ∃ (w : Wl) (s : S'), w.h = H' ∧ Sat S.K B { w0 with s := w1.s } w σ' (en s) ∧ forF body (xs.take (i + 1)) s0 = .nx s, fun σ' H' h => ⟨m - 1, by omega, h⟩, ?_⟩
    intro x H' hx
    obtain ⟨w3, d, rfl, g3, hd, rd⟩ := hy x H' hx
    have hxi : xs[i]? = some xs[i] := List.getElem?_eq_getElem hlt
    rw [List.getElem?_map, hxi] at hd
    injection hd with hd
    subst hd
    obtain ⟨hP, hb⟩ := turn i xs[i] s hxi hist
    refine eg _ _ hP B _ w3 σ x (sat2.mono g3) rd _ fun σ' sat3 _ _ => ?_
    refine ⟨⟨(i, xs[i], s), hxi, hist⟩, ?_⟩
    refine (Classical.choose_spec ((turn i xs[i] s hxi hist).2 W)).2 B _ w3 σ' _ sat3 ⟨?_, ?_, ?_, ?_, ?_⟩
    · rintro ev w4 σ4 ⟨s', hb', le⟩ sat4
      exact ⟨by omega, w4, s', rfl, sat4.weak le, (forF_step hxi hist).trans hb'⟩
    · rintro ev w4 σ4 ⟨s', hb', le⟩ sat4
      exact l.nx _ _ _ (brk s' (forF_bk hxi hist hb')) ((sat4.weak le).lower ex1)
    · rintro ev w4 σ4 ⟨s', hb', le⟩ sat4
      exact ⟨by omega, w4, s', rfl, sat4.weak le, (forF_step hxi hist).trans hb'⟩
    · intro ev d v w4 σ4 h sat4 r
      exact l.rt ev d v w4 σ4 h (sat4.lower ex1) r
    · intro ev e cls d w4 σ4 h sat4 r
      exact l.ex ev e cls d w4 σ4 h (sat4.lower ex1) r
  · left
    have hm0 : i = xs.length := by omega
    subst hm0
    rw [List.take_length] at hist
    exact ⟨hsrc.2 (Nat.le_refl _), l.nx _ _ _ (done s hist) (sat2.lower ex1)⟩
/-- a loop that always runs to its end -/
theorem xs_forS {α S' : Type} (e : α → PyData) {xs : List α} (en : S' → Evm) (f : S' → α → S') (s0 : S') (hi : XI S tg iter env (xs.map e)) (hc : S.calm = true) (hg : XG S tg ts F P) (h0 : Le env (en s0))
    (turn : ∀ i x s, xs[i]? = some x → s = (xs.take i).foldl f s0 → P (en s) (e x) ∧
      XSs S sts (F (e x) (en s)) { nx := fun ev => Le ev (en (f s x)), ct := fun ev => Le ev (en (f s x)), rt := D.rt, ex := D.ex })
    (done : D.nx (en (xs.foldl f s0))) (hs : ∀ env x, foldedSetIterable iter env x = pure x := by intro _ _; rfl) : XS S (.For tg iter sts [] pos) env D := by
  refine xs_for (R := Unit) e en (fun s x => .nx (f s x)) s0 hi hc hg h0 (fun i x s hx hist => ?_) (fun s h => ?_) (fun s h => ?_) hs
  · rw [forF_fold] at hist
    injection hist with hist
    obtain ⟨h1, h2⟩ := turn i x s hx hist.symm
    refine ⟨h1, fun W => ?_⟩
    obtain ⟨t, pt, rt⟩ := h2 W
    refine ⟨t, pt, fun B w0 w σ D' sat l => rt B w0 w σ D' sat ⟨fun ev w σ h s => l.nx ev w σ ⟨_, rfl, h⟩ s, fun ev w σ h s => h.elim, fun ev w σ h s => l.ct ev w σ ⟨_, rfl, h⟩ s, l.rt, l.ex⟩⟩
  · rw [forF_fold] at h
    injection h with h
    rw [← h]; exact done
  · rw [forF_fold] at h; cases h
end
/-! ## defs -/
/-- called with data as R says, it ends as R says -/
def SpD (G : Gc) (R : List PyData → Except Exn PyData → Prop) : Sp := fun vs H Q E => ∃ (w : Wl) (ds : List PyData) (r : Except Exn PyData), w.h = H ∧ RpAll G.K w.s vs ds ∧ R ds r ∧
  (∀ d, r = .ok d → ∀ v w', Grow [] w w' → Rp G.K w'.s v d → Q v w'.h) ∧ (∀ e, r = .error e → ∀ cls dd w', Grow [] w w' → ExAt G w' e cls dd → E cls dd w'.h)
structure DefD (G : Gc) (x : Str) (k : Nat) (ps : List Str) (R : List PyData → Except Exn PyData → Prop) : Prop where
  ex : ∃ f fd, FnOk G.P G.w G.K G.mg G.base (L2.CX G.P G.w) k f fd ps (SpD G R) ∧ G.mg x = some (.ref f) ∧ PySem.W.keepIn G.K (.ref f) = true ∧ Binds G.K fd ps []
theorem def_body {G : Gc} {x qual : Str} {st : Stmt} {f : Addr} {fd : FuncData} {N ps : List Str} {k : Nat} {R : List PyData → Except Exn PyData → Prop} (F : Fun G.K x qual st f fd) (Z : FnScope N ps (defScope st))
    (len : ∀ ds r, R ds r → ds.length = ps.length) (hps : ps.length ≤ N.length)
    (body : ∀ ds r, R ds r → XSs ⟨G, N, defScope st, true, k⟩ (defBody st) (ds.map .dat ++ List.replicate (N.length - ps.length) .junk) { nx := fun _ => r = .ok .none, rt := fun _ d => r = .ok d, ex := fun _ e => r = .error e }) :
    FnOk G.P G.w G.K G.mg G.base (L2.CX G.P G.w) (k + 1) f fd ps (SpD G R) := by
  refine F.okX Z (fun vs H Q E h => ?_) (fun cdv A outer s H vs Q E hr h => ?_)
  · obtain ⟨w, ds, r, rfl, r1, r2, _⟩ := h
    rw [r1.length]; exact len _ _ r2
  · obtain ⟨w, ds, r, rfl, r1, r2, k1, k2⟩ := h
    obtain ⟨t, pt, rt⟩ := body ds r r2 (fun cls d _ H => E cls d H)
    refine ⟨t, pt _ ⟨⟨rfl, rfl, rfl, rfl, rfl, rfl, rfl, rfl, fun _ => hr, hr.units⟩, takes_of rfl rfl rfl rfl, passes_of rfl, fun _ => rfl⟩, ?_⟩
    have hl := len ds r r2
    have hv := r1.length
    refine rt [] ⟨w.h, w.s, w.s⟩ w _ _ ⟨⟨fun _ _ _ e => e, Ex.refl _, fun _ _ e => e, fun _ e => e⟩, ?_, fun _ => [], fun i => ?_, fun _ _ _ _ h => nomatch h⟩ ⟨?_, ?_, ?_, ?_, ?_⟩
    · show (L2.start N vs).length = _
      unfold L2.start
      rw [List.length_append, List.length_append, List.length_map, List.length_map, List.length_replicate, List.length_replicate, hv, hl]
    · show SlOk G.K [] _ w ((L2.start N vs).getD i none) _ []
      unfold L2.start
      rw [List.getD_eq_getElem?_getD, List.getD_eq_getElem?_getD]
      by_cases c : i < ds.length
      · rw [List.getElem?_append_left (by rw [List.length_map, hv]; exact c), List.getElem?_append_left (by rw [List.length_map]; exact c), List.getElem?_map, List.getElem?_map]
        obtain ⟨v, e1, e2⟩ := r1.get (List.getElem?_eq_getElem c)
        rw [e1, List.getElem?_eq_getElem c]
        exact ⟨rfl, v, rfl, e2⟩
      · rw [List.getElem?_append_right (by rw [List.length_map, hv]; omega), List.getElem?_append_right (by rw [List.length_map]; omega)]
        generalize ((List.replicate (N.length - vs.length) (none : Option V))[i - (vs.map some).length]?).getD none = x
        have : ∀ (m : Nat) (j : Nat), ((List.replicate m Sl.junk)[j]?).getD .junk = .junk := fun m j => by
          rw [List.getElem?_replicate]
          by_cases c2 : j < m
          · rw [if_pos c2]; rfl
          · rw [if_neg c2]; rfl
        rw [this]
        exact (show ([] : List Addr) = [] from rfl)
    · intro ev w2 σ h sat
      exact k1 .none h .non w2 ⟨sat.grow.h, sat.grow.s, sat.grow.own, sat.grow.dom⟩ .non
    · intro ev w2 σ h sat; exact h.elim
    · intro ev w2 σ h sat; exact h.elim
    · intro ev d v w2 σ h sat r
      exact k1 d h v w2 ⟨sat.grow.h, sat.grow.s, sat.grow.own, sat.grow.dom⟩ r
    · intro ev e cls dd w2 σ h sat r
      exact k2 e h cls dd w2 ⟨sat.grow.h, sat.grow.s, sat.grow.own, sat.grow.dom⟩ r
section
variable {S : Sc} {env env' : Evm} {D : AE} {st : Stmt} {sts rest : List Stmt} {e a b c o : Expr} {es : List Expr} {d x y z : PyData} {pos p p' : Pos} {n m : Str} {ds : List PyData} {ps : List Str} {lv : Nat} {R : List PyData → Except Exn PyData → Prop}
/-- f(..) where it raises nothing -/
theorem xe_call (T : DefD S.toGc n lv ps R) (hk : lv ≤ S.lvl) (hc : S.calm = true) (hR : R ds (.ok d)) (ha : XA S (a :: es) env ds) (hg : Glo S n := by rfl) (hdb : (n == ("__debug__" : Str)) = false := by decide)
    (he : ∀ env, starEach (a :: es) env = (false, eval a env) :: starEach es env := by intro _; rfl) (hpl : ∀ env, (backTo pos (starEach es env)).any (·.1) = false := by intro _; rfl) : XE S (.Call (.Name n p) (a :: es) [] pos) env d := by
  obtain ⟨f, fd, F, hm, hkp, hb⟩ := T.ex
  obtain ⟨t, pt, et⟩ := ha
  refine ⟨tCall (SpD S.toGc R) [] E0 t, fun X C => ?_, fun B w0 w σ s Q q => et B w0 w σ s _ fun vs w1 g1 r1 => ⟨w1, ds, _, rfl, by rw [List.append_nil]; exact r1, hR, fun d' e v w' g r => ?_, fun e he => by cases he⟩⟩
  · have F' : FnOk X.prog X.w X.K X.mg X.base (L2.CX X.prog X.w) lv f fd ps (SpD S.toGc R) := by rw [C.P, C.w, C.K, C.mg, C.base]; exact F
    exact pe_call F' ((C.room hc).mono hk) (hg.gl C) (by rw [C.mg]; exact hm) (by rw [C.K]; exact hkp) (by rw [C.K]; exact hb) .nil passL (pt X C) hdb (he _) (hpl _)
  · injection e with e
    subst e
    exact q v w' (g1.trans g) r
end
end Fw


namespace Fw
open PySem PySem.Spec L2 Emb
/-! ## what the printed proofs use -/
def Fr.go {S R : Type} (f : Fr S R) (k : S → R) : R := match f with
  | .nx s => k s
  | .rt r => r
  | .bk s => k s
theorem go_rt {S R : Type} {f : Fr S R} {k : S → R} {r : R} (h : f = .rt r) : f.go k = r := by rw [h]; rfl
theorem go_nx {S R : Type} {f : Fr S R} {k : S → R} {s : S} (h : f = .nx s) : f.go k = k s := by rw [h]; rfl
theorem go_bk {S R : Type} {f : Fr S R} {k : S → R} {s : S} (h : f = .bk s) : f.go k = k s := by rw [h]; rfl
def exE {β : Type} [Emb β] : Except Exn β → Except Exn PyData
  | .ok b => .ok (emb b)
  | .error e => .error e
def getI {α : Type} [Inhabited α] (xs : List α) (i : Int) : α := (atI xs i).getD default
theorem atI_ok {α : Type} [Inhabited α] {xs : List α} {i : Int} (h : -(xs.length : Int) ≤ i ∧ i < xs.length) : atI xs i = some (getI xs i) := by
  unfold getI
  cases e : atI xs i with
  | some x => rfl
  | none =>
    exfalso
    unfold atI ixN at e
    by_cases c : 0 ≤ i
    · rw [if_pos c, if_pos h.2] at e
      have e : xs[i.toNat]? = none := e
      rw [List.getElem?_eq_none_iff] at e
      omega
    · rw [if_neg c, if_pos h.1] at e
      have e : xs[(i + xs.length).toNat]? = none := e
      rw [List.getElem?_eq_none_iff] at e
      omega
theorem atI_map {α β : Type} (f : α → β) (xs : List α) (i : Int) : atI (xs.map f) i = (atI xs i).map f := by
  unfold atI
  rw [List.length_map]
  cases ixN xs.length i with
  | none => rfl
  | some k => exact List.getElem?_map ..
theorem getI_nat {α : Type} [Inhabited α] (xs : List α) (k : Nat) (h : k < xs.length) : getI xs (k : Int) = xs[k] := by
  unfold getI
  rw [atI_nat (List.getElem?_eq_getElem h)]
  rfl
theorem getI_pos {α : Type} [Inhabited α] (xs : List α) {i : Int} (h0 : 0 ≤ i) (h : i < xs.length) : getI xs i = xs[i.toNat]'(by omega) := by
  have e : i = (i.toNat : Int) := (Int.toNat_of_nonneg h0).symm
  conv => lhs; rw [e]
  exact getI_nat xs _ (by omega)
theorem getI_mem {α : Type} [Inhabited α] {xs : List α} {i : Int} (h : -(xs.length : Int) ≤ i ∧ i < xs.length) : getI xs i ∈ xs := by
  have e := atI_ok h
  unfold atI at e
  cases c : ixN xs.length i with
  | none => rw [c] at e; cases e
  | some k => rw [c] at e; exact List.mem_of_getElem? e
def getS (s : Str) (i : Int) : Nat := (atI s.cps.toList i).getD 0
theorem atS_ok {s : Str} {i : Int} (h : -(s.length : Int) ≤ i ∧ i < s.length) : atI s.cps.toList i = some (getS s i) := by
  have e := atI_ok (xs := s.cps.toList) (i := i) h
  rw [e]
  unfold getS getI at *
  rw [e]; rfl
def zipT {α β : Type} (xs : List α) (ys : List β) : List (T2 α β) := xs.zipWith T2.mk ys
def enumT {α : Type} (xs : List α) : List (T2 Int α) := (List.range xs.length).zipWith (fun (k : Nat) x => T2.mk (k : Int) x) xs
theorem zipT_emb {α β : Type} [Emb α] [Emb β] (xs : List α) (ys : List β) : (xs.map emb).zipWith (fun x y => PyData.tuple [x, y]) (ys.map emb) = (zipT xs ys).map emb := by
  unfold zipT
  rw [List.map_zipWith, List.zipWith_map]
  rfl
theorem enumT_emb {α : Type} [Emb α] (xs : List α) : enumD (xs.map emb) = (enumT xs).map emb := by
  unfold enumT enumD
  rw [List.map_zipWith, List.length_map, List.zipWith_map_right]
  rfl
theorem zipT_len {α β : Type} (xs : List α) (ys : List β) : (zipT xs ys).length = min xs.length ys.length := by unfold zipT; exact List.length_zipWith
theorem enumT_len {α : Type} (xs : List α) : (enumT xs).length = xs.length := by unfold enumT; rw [List.length_zipWith, List.length_range, Nat.min_self]
theorem cut_map {α β : Type} (f : α → β) (xs : List α) (l h : Option Int) : cut (xs.map f) l h = (cut xs l h).map f := by
  unfold cut
  rw [List.length_map, List.map_take, List.map_drop]
theorem cut_len {α : Type} (xs : List α) (l h : Option Int) : (cut xs l h).length ≤ xs.length := by
  unfold cut
  rw [List.length_take, List.length_drop]
  omega
section
variable {S : Sc} {env env' : Evm} {D : AE} {st : Stmt} {sts rest : List Stmt} {tg iter e a b c o : Expr} {es : List Expr} {d x y z : PyData} {pos p p' : Pos} {i j : Int} {s s' n : Str} {ds zs : List PyData} {k : Bool} {ts : List Nat} {F : PyData → Evm → Evm} {P : Evm → PyData → Prop}
variable {α β : Type} [Emb α] [Emb β]
theorem xe_ixI [Inhabited α] {xs : List α} (h : -(xs.length : Int) ≤ i ∧ i < xs.length) (ha : XE S a env (emb xs)) (hb : XE S b env (.int i)) (hs : PlainIx b := by intro _ _; rfl) : XE S (.Subscript a b pos) env (emb (getI xs i)) :=
  xe_ixL (by rw [atI_map, atI_ok h]; rfl) ha hb hs
theorem xe_ixR {ns : List Int} (h : -(ns.length : Int) ≤ i ∧ i < ns.length) (ha : XE S a env (scrD ns)) (hb : XE S b env (.int i)) (hs : PlainIx b := by intro _ _; rfl) : XE S (.Subscript a b pos) env (.int (getI ns i)) :=
  xe_ixScr (atI_ok h) ha hb hs
theorem xe_ixC (hl : s.length ≤ sizeLine) (h : -(s.length : Int) ≤ i ∧ i < s.length) (ha : XE S a env (.str s)) (hb : XE S b env (.int i)) (hs : PlainIx b := by intro _ _; rfl) : XE S (.Subscript a b pos) env (.str (sg (getS s i))) :=
  xe_ixS hl (atS_ok h) ha hb hs
theorem xn_slI {xs : List α} {lo hi : Option Expr} {l h : Option Int} {p2 : Pos} (ha : XE S a env (emb xs)) (hl : XO S lo env l) (hh : XO S hi env h) : XN S (.Subscript a (.Slice lo hi none p2) pos) env ((cut xs l h).map emb) := by
  rw [← cut_map]; exact xn_slL ha hl hh
theorem xi_zipT {xs : List α} {ys : List β} {elts : List Expr} {kk : Nat} {tpos : Pos} (hm : S.mg "zip" = none) (ha : XE S a env (emb xs)) (hb : XE S b env (emb ys)) (hg : Glo S "zip" := by rfl)
    (hs : ∀ env, starEach [a, b] env = (false, eval a env) :: starEach [b] env := by intro _; rfl) (hs2 : ∀ env, starEach [b] env = (false, eval b env) :: starEach [] env := by intro _; rfl) (hpl : ∀ env, (backTo pos (starEach [b] env)).any (·.1) = false := by intro _; rfl) :
    XI S (.Tuple elts kk tpos) (.Call (.Name "zip" p) [a, b] [] pos) env ((zipT xs ys).map emb) := by
  rw [← zipT_emb]; exact xi_zip hm ha hb hg hs hs2 hpl
theorem xi_enumT {xs : List α} {elts : List Expr} {kk : Nat} {tpos : Pos} (hm : S.mg "enumerate" = none) (ha : XE S a env (emb xs)) (hg : Glo S "enumerate" := by rfl) (hs : ∀ env, starEach [a] env = (false, eval a env) :: starEach [] env := by intro _; rfl) :
    XI S (.Tuple elts kk tpos) (.Call (.Name "enumerate" p) [a] [] pos) env ((enumT xs).map emb) := by
  rw [← enumT_emb]; exact xi_enum hm ha hg hs
theorem xi_revT {xs : List α} (hm : S.mg "reversed" = none) (ha : XE S a env (emb xs)) (hg : Glo S "reversed" := by rfl) (hs : ∀ env, starEach [a] env = (false, eval a env) :: starEach [] env := by intro _; rfl) :
    XI S tg (.Call (.Name "reversed" p) [a] [] pos) env (xs.reverse.map emb) := by
  rw [List.map_reverse]; exact xi_rev hm ha hg hs
/-- name = e, its value v by a name -/
theorem xss_setE {v w : α} (hv : v = w) (i : Nat) (hN : S.N.Nodup) (he : XE S e env (emb w)) (k : XSs S rest (env.set i (.dat (emb v))) D) (hi : i < env.length := by exact Nat.le_of_ble_eq_true rfl) (hs : Slot S i n := by first | exact ⟨rfl, .inl rfl⟩ | exact ⟨rfl, .inr rfl⟩) (hw : ∀ env, swapsWith e (some (.Name n p')) pos.line env = pure false := by intro _; rfl) :
    XSs S (.Assign [.Name n p'] e pos :: rest) env D := by
  subst hv; exact xss_set i hN he k hi hs hw
theorem xss_setNE {v w : List α} (hv : v = w) (i : Nat) (hN : S.N.Nodup) (he : XN S e env (w.map emb)) (k : XSs S rest (env.set i (.own (.lst (v.map emb)))) D) (hi : i < env.length := by exact Nat.le_of_ble_eq_true rfl) (hs : Slot S i n := by first | exact ⟨rfl, .inl rfl⟩ | exact ⟨rfl, .inr rfl⟩) (hw : ∀ env, swapsWith e (some (.Name n p')) pos.line env = pure false := by intro _; rfl) :
    XSs S (.Assign [.Name n p'] e pos :: rest) env D := by
  subst hv; exact xss_setN i hN he k hi hs hw
theorem xss_setLcE {elt : Expr} {ifs : List Expr} {scope : Scope} {pos' : Pos} {v w : List α} (hv : v = w) (i : Nat) (own : List (Str × Nat)) (h : XLc S elt tg iter ifs scope own env (w.map emb)) (hc : S.calm = true) (hN : S.N.Nodup) (k : XSs S rest (env.set i (.own (.lst (v.map emb)))) D) (hi : i < env.length := by exact Nat.le_of_ble_eq_true rfl)
    (hk : S.sc.kind = .function := by rfl) (hn : S.N[i]? = some n := by rfl) (hnl : S.sc.names.lookup n = some .local := by rfl) (ok : blkC S.N S.sc scope own = true := by first | (dsimp only; decide +kernel) | decide +kernel)
    (hl : (p'.line == pos'.line) = true := by rfl) (ha : (scope.names.any fun (m, k) => m == n && (k == .local || k == .cell)) = false := by decide +kernel) (hs : ∀ env x, foldedSetIterable iter env x = pure x := by intro _ _; rfl) :
    XSs S (.Assign [.Name n p'] (.ListComp elt [⟨tg, iter, ifs, 0⟩] scope pos') pos :: rest) env D := by
  subst hv; exact xss_setLc i own h hc hN k hi hk hn hnl ok hl ha hs
theorem xss_addE {v m : Int} (hv : v = m + j) (i : Nat) (hN : S.N.Nodup) (he : XE S e env (.int j)) (k : XSs S rest (env.set i (.dat (.int v))) D) (h : env[i]? = some (.dat (.int m)) := by rfl) (hs : Slot S i n := by first | exact ⟨rfl, .inl rfl⟩ | exact ⟨rfl, .inr rfl⟩) : XSs S (.AugAssign (.Name n p') .Add e pos :: rest) env D := by
  subst hv; exact xss_addI i hN he k h hs
theorem xss_subE {v m : Int} (hv : v = m - j) (i : Nat) (hN : S.N.Nodup) (he : XE S e env (.int j)) (k : XSs S rest (env.set i (.dat (.int v))) D) (h : env[i]? = some (.dat (.int m)) := by rfl) (hs : Slot S i n := by first | exact ⟨rfl, .inl rfl⟩ | exact ⟨rfl, .inr rfl⟩) : XSs S (.AugAssign (.Name n p') .Sub e pos :: rest) env D := by
  subst hv; exact xss_subI i hN he k h hs
theorem xss_appE {apos : Pos} {v xs : List α} {x : α} (hv : v = xs ++ [x]) (i : Nat) (hl : xs.length < sizeLine) (he : XE S e env (emb x)) (k : XSs S rest (env.set i (.own (.lst (v.map emb)))) D) (h : env[i]? = some (.own (.lst (xs.map emb))) := by rfl) (hn : S.N[i]? = some n := by rfl)
    (hvv : Vis S.sc n := by first | exact Or.inl rfl | exact Or.inr (Or.inl rfl) | exact Or.inr (Or.inr rfl)) (h1 : (n == ("__debug__" : Str)) = false := by decide) (h2 : (n == ("__classdict__" : Str)) = false := by decide)
    (hline : (apos.endLine == p.line) = true := by rfl) (hs : ∀ env, starEach (e :: []) env = (false, eval e env) :: starEach [] env := by intro _; rfl)
    (hbase : ∀ env, attributeBase (.Name n p') "append" env (eval (.Name n p') env) = eval (.Name n p') env := by intro _; rfl)
    (hfew : ∀ env, ((backTo p (starEach (e :: []) env)).all (fun x => !x.1) && (backToKw p (keywordEach [] env)).all (fun x => x.1.isSome)
      && decide ((e :: []).length + ([] : List Keyword).length + (if ([] : List Keyword).isEmpty then 0 else 1) < 30)) = true := by intro _; rfl)
    (hsw : ∀ env, swapsWith (.Call (.Attribute (.Name n p') "append" apos) [e] [] p) none pos.line env = pure false := by intro _; rfl) :
    XSs S (.Expr (.Call (.Attribute (.Name n p') "append" apos) [e] [] p) pos :: rest) env D := by
  subst hv
  rw [List.map_append] at k
  exact xss_app i (by rw [List.length_map]; exact hl) he k h hn hvv h1 h2 hline hs hbase hfew hsw
/-! targets of statements -/
def XGC (S : Sc) (tg : Expr) (ts : List Nat) (F : PyData → Evm → Evm) (P : Evm → PyData → Prop) : Prop := ∃ g, (∀ W X, Ctx S W X → PG X tg g) ∧ ∀ env d, P env d → EvG S.K g ts env d (F d env)
theorem xgc_name (i : Nat) (hN : S.N.Nodup) (hs : Slot S i n := by first | exact ⟨rfl, .inl rfl⟩ | exact ⟨rfl, .inr rfl⟩) : XGC S (.Name n pos) [i] (fun d env => env.set i (.dat d)) (fun env _ => i < env.length) :=
  ⟨gName i, fun W X C => pg_name (by rw [C.dyn.N]; exact hN) (by rw [C.dyn.N]; exact hs.1) (hs.loc C.dyn) (.inl (C.fn _)), fun env d hi => evg_name hi⟩
theorem xgc_tup2 {n2 : Str} (i j : Nat) {k : Nat} (hc : S.calm = true) (hN : S.N.Nodup) {p1 p2 : Pos} (hs : Slot S i n := by first | exact ⟨rfl, .inl rfl⟩ | exact ⟨rfl, .inr rfl⟩) (hs2 : Slot S j n2 := by first | exact ⟨rfl, .inl rfl⟩ | exact ⟨rfl, .inr rfl⟩) :
    XGC S (.Tuple [.Name n p1, .Name n2 p2] k pos) [i, j] (fun d env => putL [i, j] (itemsD d) env) (fun env d => i < env.length ∧ j < env.length ∧ ∃ a b, d = .tuple [a, b]) := by
  have n1 : ∀ W X, Ctx S W X → PG X (.Name n p1) (gName i) := fun W X C => pg_name (by rw [C.dyn.N]; exact hN) (by rw [C.dyn.N]; exact hs.1) (hs.loc C.dyn) (.inl (C.fn _))
  have n2 : ∀ W X, Ctx S W X → PG X (.Name n2 p2) (gName j) := fun W X C => pg_name (by rw [C.dyn.N]; exact hN) (by rw [C.dyn.N]; exact hs2.1) (hs2.loc C.dyn) (.inl (C.fn _))
  refine ⟨gTup S.K 2 (gCons (gName i) (gCons (gName j) gNil)), fun W X C => by rw [← C.dyn.K]; exact pg_tup (C.dyn.calm.trans hc) (pgs_cons (n1 W X C) (pgs_cons (n2 W X C) pgs_nil)), ?_⟩
  rintro env d ⟨h1, h2, a, b, rfl⟩ B w0 w σ v s r Q q
  cases r with
  | tup hp t =>
    cases t with
    | cons r1 t => cases t with
      | cons r2 t =>
        cases t
        refine ⟨_, _, rfl, ex_sqT w.le hp, rfl, _, _, rfl, _, _, rfl, rfl, ?_⟩
        refine q _ ((s.dat h1 r1).dat (by rw [List.length_set]; exact h2) r2) (by rw [List.length_set, List.length_set]) fun m hm => ?_
        rw [List.getElem?_set_ne (fun e => hm (by rw [← e]; exact List.mem_cons_of_mem _ List.mem_cons_self)), List.getElem?_set_ne (fun e => hm (by rw [← e]; exact List.mem_cons_self))]
theorem xgc_tup3 {n2 n3 : Str} (i j l : Nat) {k : Nat} (hc : S.calm = true) (hN : S.N.Nodup) {p1 p2 p3 : Pos} (hs : Slot S i n := by first | exact ⟨rfl, .inl rfl⟩ | exact ⟨rfl, .inr rfl⟩) (hs2 : Slot S j n2 := by first | exact ⟨rfl, .inl rfl⟩ | exact ⟨rfl, .inr rfl⟩) (hs3 : Slot S l n3 := by first | exact ⟨rfl, .inl rfl⟩ | exact ⟨rfl, .inr rfl⟩) :
    XGC S (.Tuple [.Name n p1, .Name n2 p2, .Name n3 p3] k pos) [i, j, l] (fun d env => putL [i, j, l] (itemsD d) env) (fun env d => i < env.length ∧ j < env.length ∧ l < env.length ∧ ∃ a b c, d = .tuple [a, b, c]) := by
  have n1 : ∀ W X, Ctx S W X → PG X (.Name n p1) (gName i) := fun W X C => pg_name (by rw [C.dyn.N]; exact hN) (by rw [C.dyn.N]; exact hs.1) (hs.loc C.dyn) (.inl (C.fn _))
  have n2 : ∀ W X, Ctx S W X → PG X (.Name n2 p2) (gName j) := fun W X C => pg_name (by rw [C.dyn.N]; exact hN) (by rw [C.dyn.N]; exact hs2.1) (hs2.loc C.dyn) (.inl (C.fn _))
  have n3 : ∀ W X, Ctx S W X → PG X (.Name n3 p3) (gName l) := fun W X C => pg_name (by rw [C.dyn.N]; exact hN) (by rw [C.dyn.N]; exact hs3.1) (hs3.loc C.dyn) (.inl (C.fn _))
  refine ⟨gTup S.K 3 (gCons (gName i) (gCons (gName j) (gCons (gName l) gNil))), fun W X C => by rw [← C.dyn.K]; exact pg_tup (C.dyn.calm.trans hc) (pgs_cons (n1 W X C) (pgs_cons (n2 W X C) (pgs_cons (n3 W X C) pgs_nil))), ?_⟩
  rintro env d ⟨h1, h2, h3, a, b, c, rfl⟩ B w0 w σ v s r Q q
  cases r with
  | tup hp t =>
    cases t with
    | cons r1 t => cases t with
      | cons r2 t => cases t with
        | cons r3 t =>
          cases t
          refine ⟨_, _, rfl, ex_sqT w.le hp, rfl, _, _, rfl, _, _, rfl, _, _, rfl, rfl, ?_⟩
          refine q _ (((s.dat h1 r1).dat (by rw [List.length_set]; exact h2) r2).dat (by rw [List.length_set, List.length_set]; exact h3) r3) (by rw [List.length_set, List.length_set, List.length_set]) fun m hm => ?_
          rw [List.getElem?_set_ne (fun e => hm (by rw [← e]; simp)), List.getElem?_set_ne (fun e => hm (by rw [← e]; simp)), List.getElem?_set_ne (fun e => hm (by rw [← e]; simp))]
/-- (a, b) = e -/
theorem xss_setT (F' : Evm) (hg : XGC S tg ts F P) (he : XE S e env d) (hP : P env d) (hF : F d env = F') (k : XSs S rest F' D) (hs : ∀ env, swapsWithSole [tg] e pos.line env = pure false := by intro _; rfl) (hw : ∀ env, swappedStores [tg] e env = pure none := by intro _; rfl) (h1 : ∀ env, List.map (·.2) (assignEach [tg] env) = [assign tg env] := by intro _; rfl) :
    XSs S (.Assign [tg] e pos :: rest) env D := by
  obtain ⟨t, pt, et⟩ := he
  obtain ⟨g, pg, eg⟩ := hg
  subst hF
  refine xss_of (fun W => ⟨tAsg t g, fun X C => ps_asg (pt X C.dyn) (pg W X C) (hs _) (hw _) (h1 _), fun u ru B w0 w σ D' sat l => ?_⟩) k
  exact et B w0 w σ sat (fun x H1 => g x σ H1 (u D')) fun v w1 g1 r1 => eg _ _ hP B w0 w1 σ v (sat.mono g1) r1 (u D') fun σ' sat' _ _ => ru B w0 w1 σ' D' sat' l
end
section
variable {S : Sc} {env env' : Evm} {D : AE} {st : Stmt} {sts rest : List Stmt} {tg iter e a b c o : Expr} {d x y z : PyData} {pos p p' : Pos} {n : Str} {ts : List Nat} {F : PyData → Evm → Evm} {P : Evm → PyData → Prop}
theorem xss_for {α S' R : Type} (e : α → PyData) {xs : List α} (en : S' → Evm) (body : S' → α → Fr S' R) (s0 : S') (hi : XI S tg iter env (xs.map e)) (hc : S.calm = true) (hg : XGC S tg ts F P) (h0 : Le env (en s0))
    (turn : ∀ i x s, xs[i]? = some x → forF body (xs.take i) s0 = .nx s → P (en s) (e x) ∧
      XSs S sts (F (e x) (en s)) { nx := fun ev => ∃ s', body s x = .nx s' ∧ Le ev (en s'), ct := fun ev => ∃ s', body s x = .nx s' ∧ Le ev (en s'), bk := fun ev => ∃ s', body s x = .bk s' ∧ Le ev (en s'), rt := D.rt, ex := D.ex })
    (done : ∀ s, (forF body xs s0 = .nx s ∨ forF body xs s0 = .bk s) → XSs S rest (en s) D)
    (hs : ∀ env x, foldedSetIterable iter env x = pure x := by intro _ _; rfl) : XSs S (.For tg iter sts [] pos :: rest) env D := by
  refine xss_cut (fun e => ∃ s, (forF body xs s0 = .nx s ∨ forF body xs s0 = .bk s) ∧ e = en s) ?_ (fun ev ⟨s, h, e⟩ => by subst e; exact done s h)
  intro W
  obtain ⟨g, pg, eg⟩ := hg
  have key : ∀ X, Ctx S W X → PG X tg g := pg W
  -- as xs_for, the target under Ctx
  obtain ⟨wi, pi, ei⟩ := hi
  let I := { q : Nat × α × S' // xs[q.1]? = some q.2.1 ∧ forF body (xs.take q.1) s0 = .nx q.2.2 }
  let tb : TS := fun D σ H => ∃ q : I, (Classical.choose ((turn q.1.1 q.1.2.1 q.1.2.2 q.2.1 q.2.2).2 W)) D σ H
  refine ⟨tFor wi g tb, fun X C => ps_for C.own (C.dyn.calm.trans hc) (pi X C.dyn) (key X C) (pss_sup fun q => (Classical.choose_spec ((turn q.1.1 q.1.2.1 q.1.2.2 q.2.1 q.2.2).2 W)).1 X C) (hs _), ?_⟩
  intro B w0 w σ D' sat l
  refine ei B w0 w σ sat _ fun J w1 g1 src => ?_
  have sat1 := ((sat.mono g1).weak h0).raise
  have ex1 : Ex w0.s w1.s := (sat.mono g1).grow.s
  refine ⟨fun i m σ H => i + m = xs.length ∧ ∃ (w : Wl) (s : S'), w.h = H ∧ Sat S.K B { w0 with s := w1.s } w σ (en s) ∧ forF body (xs.take i) s0 = .nx s, ⟨xs.length, by omega, w1, s0, rfl, sat1, rfl⟩, ?_⟩
  rintro i m σ H ⟨him, w2, s, rfl, sat2, hist⟩
  have hsrc := src i w2 sat2.grow.s
  rw [List.length_map] at hsrc
  by_cases hlt : i < xs.length
  · right
    obtain ⟨hgo, hy⟩ := hsrc.1 hlt
    refine ⟨hgo, fun σ' H' => i + 1 + (m - 1) = xs.length ∧ ∃ (w : Wl) (s : S'), w.h = H' ∧ Sat S.K B { w0 with s := w1.s } w σ' (en s) ∧ forF body (xs.take (i + 1)) s0 = .nx s, fun σ' H' h => ⟨m - 1, by omega, h⟩, ?_⟩
    intro x H' hx
    obtain ⟨w3, d, rfl, g3, hd, rd⟩ := hy x H' hx
    have hxi : xs[i]? = some xs[i] := List.getElem?_eq_getElem hlt
    rw [List.getElem?_map, hxi] at hd
    injection hd with hd
    subst hd
    obtain ⟨hP, hb⟩ := turn i xs[i] s hxi hist
    refine eg _ _ hP B _ w3 σ x (sat2.mono g3) rd _ fun σ' sat3 _ _ => ?_
    refine ⟨⟨(i, xs[i], s), hxi, hist⟩, ?_⟩
    refine (Classical.choose_spec ((turn i xs[i] s hxi hist).2 W)).2 B _ w3 σ' _ sat3 ⟨?_, ?_, ?_, ?_, ?_⟩
    · rintro ev w4 σ4 ⟨s', hb', le⟩ sat4
      exact ⟨by omega, w4, s', rfl, sat4.weak le, (forF_step hxi hist).trans hb'⟩
    · rintro ev w4 σ4 ⟨s', hb', le⟩ sat4
      exact l.nx _ _ _ ⟨s', .inr (forF_bk hxi hist hb'), rfl⟩ ((sat4.weak le).lower ex1)
    · rintro ev w4 σ4 ⟨s', hb', le⟩ sat4
      exact ⟨by omega, w4, s', rfl, sat4.weak le, (forF_step hxi hist).trans hb'⟩
    · intro ev d v w4 σ4 h sat4 r
      exact l.rt ev d v w4 σ4 h (sat4.lower ex1) r
    · intro ev e cls d w4 σ4 h sat4 r
      exact l.ex ev e cls d w4 σ4 h (sat4.lower ex1) r
  · left
    have hm0 : i = xs.length := by omega
    subst hm0
    rw [List.take_length] at hist
    exact ⟨hsrc.2 (Nat.le_refl _), l.nx _ _ _ ⟨s, .inl hist, rfl⟩ (sat2.lower ex1)⟩
theorem xss_forS {α S' : Type} (e : α → PyData) {xs : List α} (en : S' → Evm) (f : S' → α → S') (s0 : S') {sF : S'} (hF : sF = xs.foldl f s0) (hi : XI S tg iter env (xs.map e)) (hc : S.calm = true) (hg : XGC S tg ts F P) (h0 : Le env (en s0))
    (turn : ∀ i x s, xs[i]? = some x → s = (xs.take i).foldl f s0 → P (en s) (e x) ∧
      XSs S sts (F (e x) (en s)) { nx := fun ev => Le ev (en (f s x)), ct := fun ev => Le ev (en (f s x)), rt := D.rt, ex := D.ex })
    (done : XSs S rest (en sF) D) (hs : ∀ env x, foldedSetIterable iter env x = pure x := by intro _ _; rfl) : XSs S (.For tg iter sts [] pos :: rest) env D := by
  subst hF
  refine xss_for (R := Unit) e en (fun s x => .nx (f s x)) s0 hi hc hg h0 (fun i x s hx hist => ?_) (fun s h => ?_) hs
  · rw [forF_fold] at hist
    injection hist with hist
    obtain ⟨h1, h2⟩ := turn i x s hx hist.symm
    refine ⟨h1, fun W => ?_⟩
    obtain ⟨t, pt, rt⟩ := h2 W
    exact ⟨t, pt, fun B w0 w σ D' sat l => rt B w0 w σ D' sat ⟨fun ev w σ h s => l.nx ev w σ ⟨_, rfl, h⟩ s, fun ev w σ h s => h.elim, fun ev w σ h s => l.ct ev w σ ⟨_, rfl, h⟩ s, l.rt, l.ex⟩⟩
  · rw [forF_fold] at h
    rcases h with h | h
    · injection h with h
      rw [← h]; exact done
    · cases h
end
def intS (s : Str) : Int := (PySem.intText? s).getD 0
theorem intS_of {s : Str} {n : Int} (h : PySem.intText? s = some n) : PySem.intText? s = some (intS s) := by unfold intS; rw [h]; rfl
theorem cutS_len (s : Str) (l h : Option Int) : (cutS s l h).length ≤ s.length := by
  have e : (cutS s l h).length = ((s.cps.toList.drop (HT.sIx s.length 0 l)).take (HT.sIx s.length s.length h - HT.sIx s.length 0 l)).length := by
    show (List.toArray _).size = _
    simp
  rw [e, List.length_take, List.length_drop]
  have : s.cps.toList.length = s.length := rfl
  omega
theorem Le.nil : Le [] [] := trivial
theorem Le.cs {e : Sl} {a b : Evm} (h : Le a b) : Le (e :: a) (e :: b) := ⟨.inr rfl, h⟩
theorem Le.cj {e : Sl} {a b : Evm} (h : Le a b) : Le (e :: a) (.junk :: b) := ⟨.inl rfl, h⟩
end Fw


namespace Fw
open PySem PySem.Spec L2 Emb
/-! ## == of typed data -/
class DEq (α : Type) [Emb α] where
  dep : Nat
  lay : ∀ x : α, (emb x).canLay0 = true
  hd : ∀ x : α, (emb x).depth ≤ dep
  eqv : ∀ x y : α, PyData.eqv (emb x) (emb y) = true ↔ x = y
class NNone (α : Type) [Emb α] where
  nn : ∀ x : α, isN (emb x) = false
instance : DEq Int := ⟨0, fun _ => rfl, fun _ => Nat.le_refl _, fun x y => by show (x == y) = true ↔ _; exact beq_iff_eq⟩
instance : DEq Bool := ⟨0, fun _ => rfl, fun _ => Nat.le_refl _, fun x y => by show (x == y) = true ↔ _; exact beq_iff_eq⟩
instance : DEq Unit := ⟨0, fun _ => rfl, fun _ => Nat.le_refl _, fun x y => by constructor <;> intro <;> rfl⟩
instance : NNone Int := ⟨fun _ => rfl⟩
instance : NNone Bool := ⟨fun _ => rfl⟩
instance : NNone Str := ⟨fun _ => rfl⟩
section
variable {α β γ δ : Type} [Emb α] [Emb β] [Emb γ] [Emb δ]
instance : NNone (List α) := ⟨fun _ => rfl⟩
instance : NNone (T2 α β) := ⟨fun _ => rfl⟩
instance : NNone (T3 α β γ) := ⟨fun _ => rfl⟩
instance : NNone (T4 α β γ δ) := ⟨fun _ => rfl⟩
variable [DEq α] [DEq β] [DEq γ] [DEq δ]
theorem layAll : ∀ xs : List α, PyData.canLayAll0 (xs.map emb) = true
  | [] => rfl
  | x :: xs => by
    show ((emb x).canLay0 && PyData.canLayAll0 (xs.map emb)) = true
    rw [DEq.lay, layAll xs] <;> rfl
theorem depAll : ∀ xs : List α, PyData.depthAll (xs.map emb) ≤ DEq.dep α
  | [] => Nat.zero_le _
  | x :: xs => by
    show max (emb x).depth (PyData.depthAll (xs.map emb)) ≤ _
    exact Nat.max_le.mpr ⟨DEq.hd x, depAll xs⟩
theorem eqvAll' : ∀ xs ys : List α, PyData.eqvAll (xs.map emb) (ys.map emb) = true ↔ xs = ys
  | [], [] => by constructor <;> intro <;> rfl
  | [], _ :: _ => by constructor <;> intro h <;> cases h
  | _ :: _, [] => by constructor <;> intro h <;> cases h
  | x :: xs, y :: ys => by
    show (PyData.eqv (emb x) (emb y) && PyData.eqvAll (xs.map emb) (ys.map emb)) = true ↔ _
    rw [Bool.and_eq_true, DEq.eqv, eqvAll' xs ys, List.cons.injEq]
instance : DEq (List α) := ⟨DEq.dep α + 1, fun x => layAll x, fun x => Nat.succ_le_succ (depAll x), fun x y => eqvAll' x y⟩
theorem eqv_none {d : PyData} (h : isN d = false) : PyData.eqv .none d = false ∧ PyData.eqv d .none = false := by
  cases d <;> first | exact ⟨rfl, rfl⟩ | cases h
instance [NNone α] : DEq (Option α) := ⟨DEq.dep α, fun x => match x with | none => rfl | some v => DEq.lay v, fun x => match x with | none => Nat.zero_le _ | some v => DEq.hd v, fun x y => by
  cases x with
  | none => cases y with
    | none => constructor <;> intro <;> rfl
    | some y =>
      show PyData.eqv .none (emb y) = true ↔ _
      rw [(eqv_none (NNone.nn y)).1]
      constructor <;> intro h <;> cases h
  | some x => cases y with
    | none =>
      show PyData.eqv (emb x) .none = true ↔ _
      rw [(eqv_none (NNone.nn x)).2]
      constructor <;> intro h <;> cases h
    | some y =>
      show PyData.eqv (emb x) (emb y) = true ↔ _
      rw [DEq.eqv, Option.some.injEq]⟩
instance : DEq (T2 α β) := ⟨max (DEq.dep α) (DEq.dep β) + 1, fun x => by
    show ((emb x.p0).canLay0 && ((emb x.p1).canLay0 && true)) = true
    rw [DEq.lay, DEq.lay] <;> rfl, fun x => by
    show max (emb x.p0).depth (max (emb x.p1).depth 0) + 1 ≤ _
    have := DEq.hd x.p0; have := DEq.hd x.p1; omega, fun x y => by
    show (PyData.eqv (emb x.p0) (emb y.p0) && (PyData.eqv (emb x.p1) (emb y.p1) && true)) = true ↔ _
    rw [Bool.and_eq_true, Bool.and_true, DEq.eqv, DEq.eqv]
    obtain ⟨a, b⟩ := x; obtain ⟨c, d⟩ := y
    rw [T2.mk.injEq]⟩
instance : DEq (T3 α β γ) := ⟨max (max (DEq.dep α) (DEq.dep β)) (DEq.dep γ) + 1, fun x => by
    show ((emb x.p0).canLay0 && ((emb x.p1).canLay0 && ((emb x.p2).canLay0 && true))) = true
    rw [DEq.lay, DEq.lay, DEq.lay] <;> rfl, fun x => by
    show max (emb x.p0).depth (max (emb x.p1).depth (max (emb x.p2).depth 0)) + 1 ≤ _
    have := DEq.hd x.p0; have := DEq.hd x.p1; have := DEq.hd x.p2; omega, fun x y => by
    show (PyData.eqv (emb x.p0) (emb y.p0) && (PyData.eqv (emb x.p1) (emb y.p1) && (PyData.eqv (emb x.p2) (emb y.p2) && true))) = true ↔ _
    rw [Bool.and_eq_true, Bool.and_eq_true, Bool.and_true, DEq.eqv, DEq.eqv, DEq.eqv]
    obtain ⟨a, b, e⟩ := x; obtain ⟨c, d, f⟩ := y
    rw [T3.mk.injEq]⟩
instance : DEq (T4 α β γ δ) := ⟨max (max (DEq.dep α) (DEq.dep β)) (max (DEq.dep γ) (DEq.dep δ)) + 1, fun x => by
    show ((emb x.p0).canLay0 && ((emb x.p1).canLay0 && ((emb x.p2).canLay0 && ((emb x.p3).canLay0 && true)))) = true
    rw [DEq.lay, DEq.lay, DEq.lay, DEq.lay] <;> rfl, fun x => by
    show max (emb x.p0).depth (max (emb x.p1).depth (max (emb x.p2).depth (max (emb x.p3).depth 0))) + 1 ≤ _
    have := DEq.hd x.p0; have := DEq.hd x.p1; have := DEq.hd x.p2; have := DEq.hd x.p3; omega, fun x y => by
    show (PyData.eqv (emb x.p0) (emb y.p0) && (PyData.eqv (emb x.p1) (emb y.p1) && (PyData.eqv (emb x.p2) (emb y.p2) && (PyData.eqv (emb x.p3) (emb y.p3) && true)))) = true ↔ _
    rw [Bool.and_eq_true, Bool.and_eq_true, Bool.and_eq_true, Bool.and_true, DEq.eqv, DEq.eqv, DEq.eqv, DEq.eqv]
    obtain ⟨a, b, e, g⟩ := x; obtain ⟨c, d, f, h⟩ := y
    rw [T4.mk.injEq]⟩
theorem shp (x : α) (h : DEq.dep α ≤ 64 := by decide) : SeqAt.shaped (emb x) = true := by
  show ((emb x).canLay0 && decide ((emb x).depth ≤ 64)) = true
  rw [DEq.lay, Bool.true_and]
  exact decide_eq_true (Nat.le_trans (DEq.hd x) h)
theorem eqvT [DecidableEq α] (x y : α) : PyData.eqv (emb x) (emb y) = decide (x = y) := by
  by_cases h : x = y
  · rw [decide_eq_true h]; exact (DEq.eqv x y).mpr h
  · rw [decide_eq_false h]
    cases e : PyData.eqv (emb x) (emb y) with
    | false => rfl
    | true => exact absurd ((DEq.eqv x y).mp e) h
end
/-- texts -/
def okS (s : Str) : Bool := PyData.strOk s
theorem shp_str {s : Str} (h : okS s = true) : SeqAt.shaped (.str s) = true := by
  show (PyData.strOk s && decide (0 ≤ 64)) = true
  rw [show PyData.strOk s = true from h] <;> rfl
theorem lay_strs : ∀ {l : List Str}, (∀ s ∈ l, okS s = true) → PyData.canLayAll0 (l.map PyData.str) = true
  | [], _ => rfl
  | s :: l, h => by
    show (PyData.strOk s && PyData.canLayAll0 (l.map PyData.str)) = true
    rw [show PyData.strOk s = true from h s List.mem_cons_self, lay_strs (fun t ht => h t (List.mem_cons_of_mem _ ht))] <;> rfl
theorem dep_strs : ∀ l : List Str, PyData.depthAll (l.map PyData.str) = 0
  | [] => rfl
  | s :: l => by
    show max 0 (PyData.depthAll (l.map PyData.str)) = 0
    rw [dep_strs l] <;> rfl
theorem shp_strs {l : List Str} (h : ∀ s ∈ l, okS s = true) : SeqAt.shaped (emb l) = true := by
  show (PyData.canLayAll0 (l.map PyData.str) && decide (PyData.depthAll (l.map PyData.str) + 1 ≤ 64)) = true
  rw [lay_strs h, dep_strs] <;> rfl
theorem eqv_strs : ∀ l m : List Str, PyData.eqvAll (l.map PyData.str) (m.map PyData.str) = true ↔ l = m
  | [], [] => by constructor <;> intro <;> rfl
  | [], _ :: _ => by constructor <;> intro h <;> cases h
  | _ :: _, [] => by constructor <;> intro h <;> cases h
  | x :: xs, y :: ys => by
    show ((x == y) && PyData.eqvAll (xs.map PyData.str) (ys.map PyData.str)) = true ↔ _
    rw [Bool.and_eq_true, eqv_strs xs ys, List.cons.injEq, beq_iff_eq]
theorem eqv_strsD (l m : List Str) : PyData.eqv (emb l) (emb m) = decide (l = m) := by
  have e : PyData.eqv (emb l) (emb m) = PyData.eqvAll (l.map PyData.str) (m.map PyData.str) := by
    show PyData.eqv (.list (l.map PyData.str)) (.list (m.map PyData.str)) = _
    unfold PyData.eqv
    rfl
  rw [e]
  by_cases h : l = m
  · rw [decide_eq_true h]; exact (eqv_strs l m).mpr h
  · rw [decide_eq_false h]
    cases c : PyData.eqvAll (l.map PyData.str) (m.map PyData.str) with
    | false => rfl
    | true => exact absurd ((eqv_strs l m).mp c) h
theorem go_end {S R : Type} {f : Fr S R} {k : S → R} {s : S} (h : f = .nx s ∨ f = .bk s) : f.go k = k s := by
  rcases h with h | h <;> rw [h] <;> rfl
theorem opt_noScr (o : Option Int) : noScr (emb o) = true := by cases o <;> rfl
theorem opt_kit_int (o : Option Int) : kitB (tyD (emb o)) "int" = some o.isSome := match o with
  | none => show kitB "NoneType" "int" = some false by decide +kernel
  | some v => show kitB "int" "int" = some true by decide +kernel
theorem opt_kit_bool (o : Option Int) : kitB (tyD (emb o)) "bool" = some false := match o with
  | none => show kitB "NoneType" "bool" = some false by decide +kernel
  | some v => show kitB "int" "bool" = some false by decide +kernel
section
variable {S : Sc} {env : Evm} {e a b c o : Expr} {es : List Expr} {d x y z : PyData} {pos p : Pos} {i j : Int} {s s' : Str} {ds zs : List PyData} {k : Bool}
variable {α β : Type} [Emb α] [Emb β]
theorem xe_eqT [DEq α] [DecidableEq α] {x y : α} (ha : XE S a env (emb x)) (hb : XE S b env (emb y)) (h : DEq.dep α ≤ 64 := by decide) : XE S (.Compare a [.Eq] [b] pos) env (.bool (decide (x = y))) := by
  rw [← eqvT]; exact xe_eqD (shp x h) (shp y h) ha hb
theorem xe_neT [DEq α] [DecidableEq α] {x y : α} (ha : XE S a env (emb x)) (hb : XE S b env (emb y)) (h : DEq.dep α ≤ 64 := by decide) : XE S (.Compare a [.NotEq] [b] pos) env (.bool (!decide (x = y))) := by
  rw [← eqvT]; exact xe_neD (shp x h) (shp y h) ha hb
theorem xt_eqT [DEq α] [DecidableEq α] {x y : α} (ha : XE S a env (emb x)) (hb : XE S b env (emb y)) (h : DEq.dep α ≤ 64 := by decide) : XT S (.Compare a [.Eq] [b] pos) env (decide (x = y)) := by
  rw [← eqvT]; exact xt_eqD (shp x h) (shp y h) ha hb
theorem xt_neT [DEq α] [DecidableEq α] {x y : α} (ha : XE S a env (emb x)) (hb : XE S b env (emb y)) (h : DEq.dep α ≤ 64 := by decide) : XT S (.Compare a [.NotEq] [b] pos) env (!decide (x = y)) := by
  rw [← eqvT]; exact xt_neD (shp x h) (shp y h) ha hb
/-- xs or ys -/
theorem xe_orL {xs ys : List α} (ha : XE S a env (emb xs)) (hb : XE S (.BoolOp .Or (b :: es) pos) env (emb ys)) : XE S (.BoolOp .Or (a :: b :: es) pos) env (emb (if xs.isEmpty = true then ys else xs)) := by
  obtain ⟨ta, pa, ea⟩ := ha
  obtain ⟨tb, pb, eb⟩ := hb
  refine ⟨tOrT S.K ta tb, fun X D => by rw [← D.K]; exact pe_orT (pa X D) (pb X D), fun B w0 w σ s Q q => ea B w0 w σ s _ fun v w1 g1 r1 => ?_⟩
  obtain ⟨p, vs, rfl, hp, t⟩ := rp_list r1
  have he : vs.isEmpty = xs.isEmpty := by rw [isE_of t]; cases xs <;> rfl
  refine ⟨!xs.isEmpty, .inl ⟨vs, SqL.of (w1.le _ _ hp), by rw [he]⟩, ?_⟩
  cases c : xs.isEmpty with
  | true =>
    rw [c] at q
    exact eb B w0 w1 σ (s.mono g1) Q fun v2 w2 g2 r2 => q v2 w2 (g1.trans g2) r2
  | false =>
    rw [c] at q
    exact q _ w1 g1 r1
/-- xs + ys, xs * n -/
theorem xn_catI {xs ys : List α} (h : xs.length + ys.length ≤ sizeLine) (ha : XE S a env (emb xs)) (hb : XE S b env (emb ys)) : XN S (.BinOp a .Add b pos) env ((xs ++ ys).map emb) := by
  obtain ⟨ta, pa, ea⟩ := ha
  obtain ⟨tb, pb, eb⟩ := hb
  refine ⟨tOp rCat ta tb, fun X D => pe_op op_cat (pa X D) (pb X D), fun B w0 w σ s Q q => ea B w0 w σ s _ fun v w1 g1 r1 => eb B w0 w1 σ (s.mono g1) _ fun v2 w2 g2 r2 => ?_⟩
  obtain ⟨p, vs, rfl, hp, t⟩ := rp_list (r1.mono g2.s)
  obtain ⟨p2, vs2, rfl, hp2, t2⟩ := rp_list r2
  have l1 := t.length
  have l2 := t2.length
  rw [List.length_map] at l1 l2
  refine ⟨p, p2, vs, vs2, rfl, rfl, w2.le _ _ hp, w2.le _ _ hp2, by rw [l1, l2]; exact h, fun u hu => ?_⟩
  have g := g1.trans g2
  exact q u _ (w2.new u _ hu) (bk_none g hu) (g.trans (grow_new hu)) upd_same (s_none (w := w2) hu) (by rw [List.map_append]; exact t.append t2)
def repL {α : Type} (xs : List α) (n : Int) : List α := (List.replicate n.toNat xs).flatten
theorem RpAll.rep {K : PySem.W.Frag} {H : Hp} {vs : List V} (h : RpAll K H vs ds) : ∀ n : Nat, RpAll K H (List.replicate n vs).flatten (List.replicate n ds).flatten
  | 0 => .nil
  | n + 1 => by
    rw [List.replicate_succ, List.replicate_succ, List.flatten_cons, List.flatten_cons]
    exact h.append (RpAll.rep h n)
theorem repL_map (f : α → β) (xs : List α) (n : Int) : (repL xs n).map f = repL (xs.map f) n := by
  unfold repL
  rw [List.map_flatten, List.map_replicate]
theorem repL_one (x : α) (n : Int) : repL [x] n = List.replicate n.toNat x := by
  unfold repL
  generalize n.toNat = m
  induction m with
  | zero => rfl
  | succ m ih => rw [List.replicate_succ, List.flatten_cons, ih]; rfl
theorem xn_repI {xs : List α} (h : -(2 ^ 63) ≤ i ∧ i < 2 ^ 63 ∧ xs.length * i.toNat ≤ sizeLine) (ha : XE S a env (emb xs)) (hb : XE S b env (.int i)) : XN S (.BinOp a .Mult b pos) env ((repL xs i).map emb) := by
  obtain ⟨ta, pa, ea⟩ := ha
  obtain ⟨tb, pb, eb⟩ := hb
  refine ⟨tOp rRep ta tb, fun X D => pe_op op_rep (pa X D) (pb X D), fun B w0 w σ s Q q => ea B w0 w σ s _ fun v w1 g1 r1 => eb B w0 w1 σ (s.mono g1) _ fun v2 w2 g2 r2 => ?_⟩
  obtain ⟨p, vs, rfl, hp, t⟩ := rp_list (r1.mono g2.s)
  cases r2
  have l1 := t.length
  rw [List.length_map] at l1
  refine ⟨p, i, vs, rfl, rfl, w2.le _ _ hp, h.1, h.2.1, by rw [l1]; exact h.2.2, fun u hu => ?_⟩
  have g := g1.trans g2
  exact q u _ (w2.new u _ hu) (bk_none g hu) (g.trans (grow_new hu)) upd_same (s_none (w := w2) hu) (by rw [repL_map]; exact t.rep _)
/-- (..) + (..) of tuples -/
theorem xe_catT (h : ds ≠ []) (h2 : zs ≠ []) (hl : ds.length + zs.length ≤ sizeLine) (ha : XE S a env (.tuple ds)) (hb : XE S b env (.tuple zs)) : XE S (.BinOp a .Add b pos) env (.tuple (ds ++ zs)) := by
  obtain ⟨ta, pa, ea⟩ := ha
  obtain ⟨tb, pb, eb⟩ := hb
  refine ⟨tOp (rCatT S.K) ta tb, fun X D => by rw [← D.K]; exact pe_op op_catT (pa X D) (pb X D), fun B w0 w σ s Q q => ea B w0 w σ s _ fun v w1 g1 r1 => eb B w0 w1 σ (s.mono g1) _ fun v2 w2 g2 r2 => ?_⟩
  have r1 := r1.mono g2.s
  cases r1 with
  | tup hp t => cases r2 with
    | tup hp2 t2 =>
      refine ⟨_, _, _, _, rfl, rfl, ex_sqT w2.le hp, ex_sqT w2.le hp2, fun e => ?_, by rw [t.length, t2.length]; exact hl, fun e => ?_, fun e u hu => ?_⟩
      · have := t.length; rw [e] at this; exact h (List.eq_nil_of_length_eq_zero this.symm)
      · have := t2.length; rw [e] at this; exact absurd (List.eq_nil_of_length_eq_zero this.symm) h2
      · obtain ⟨w3, e3, g3, r3⟩ := rp_newT hu (t.append t2)
        rw [← e3]
        exact q _ w3 ((g1.trans g2).trans g3) r3
end
end Fw


namespace Fw
open PySem PySem.Spec L2 Emb
/-! ## writes into own things -/
section
variable {K : PySem.W.Frag} {B : List Addr} {w0 : Bs} {w : Wl} {σ : L2.St} {env : Evm} {i : Nat} {q : Addr} {u : HO} {o o' : OD}
theorem Sat.wr (sat : Sat K B w0 w σ env) (h : env[i]? = some (.own o))
    (key : ∀ v fp, σ[i]? = some (some v) → fp.Nodup → OwnOk K w v o fp → q ∈ fp ∧ ∀ w' : Wl, w'.h = upd w.h q u → w'.s = w.s → OwnOk K w' v o' fp) :
    ∃ w' : Wl, w'.h = upd w.h q u ∧ w'.s = w.s ∧ Sat K B w0 w' σ (env.set i (.own o')) := by
  obtain ⟨fps, f⟩ := sat.f
  have hi : i < env.length := (List.getElem?_eq_some_iff.mp h).1
  have c := f.sl i
  have e0 : env.getD i .junk = .own o := by rw [List.getD_eq_getElem?_getD, h]; rfl
  rw [e0] at c
  obtain ⟨nd, ha, v, ev, ok⟩ := c
  have hl : i < σ.length := by rw [f.len]; exact hi
  have ev' : σ[i]? = some (some v) := by
    rw [List.getD_eq_getElem?_getD, List.getElem?_eq_getElem hl] at ev
    rw [List.getElem?_eq_getElem hl]
    exact congrArg some ev
  obtain ⟨hq, hok⟩ := key v _ ev' nd ok
  have hq0 := ha q hq
  have fx : ∀ a, a ≠ q → upd w.h q u a = w.h a := fun a hne => upd_ne hne
  have hσ : σ.set i (some v) = σ := by
    rw [List.getElem?_eq_getElem hl] at ev'
    injection ev' with ev'
    rw [← ev']
    exact List.set_getElem_self hl
  have le' : ∀ a o, w.s a = some o → upd w.h q u a = some o := fun a o ea => by
    rw [fx a (fun z => by rw [z, hq0.1] at ea; cases ea)]; exact w.le a o ea
  refine ⟨⟨w.s, upd w.h q u, le'⟩, rfl, rfl, ?_⟩
  rw [← hσ]
  refine (f.turn (w' := ⟨w.s, upd w.h q u, le'⟩) (e := .own o') (fp := fps i) hi ⟨fun a o hb e => ?_, f.grow.s, f.grow.own, fun a e => ?_⟩ (Ex.refl _) (fun j hj a haj => ⟨fx a ?_, rfl⟩) ⟨nd, fun a ha' => ?_, v, rfl, hok _ rfl rfl⟩ (fun a ha j hj => f.dj i j a (fun z => hj z.symm) ha)).sat
  · show upd w.h q u a = some o
    rw [fx a (fun z => by rw [z, hq0.2.2] at e; cases e)]; exact f.grow.h a o hb e
  · show upd w.h q u a ≠ none
    by_cases c : a = q
    · rw [c, upd_same]; intro z; cases z
    · rw [fx a c]; exact f.grow.dom a e
  · intro z
    exact f.dj i j q (fun z => hj z.symm) hq (by rw [← z]; exact haj)
  · refine ⟨(ha a ha').1, ?_, (ha a ha').2.2⟩
    show upd w.h q u a ≠ none
    by_cases c : a = q
    · rw [c, upd_same]; intro z; cases z
    · rw [fx a c]; exact (ha a ha').2.1
theorem RowsOk.len {w : Wl} : ∀ {ps : List Addr} {rows : List (List PyData)}, RowsOk K w ps rows → ps.length = rows.length
  | _, _, .nil => rfl
  | _, _, .cons _ _ t => congrArg (· + 1) t.len
theorem RowsOk.get {w : Wl} : ∀ {ps : List Addr} {rows : List (List PyData)} {j : Nat} {ds : List PyData}, RowsOk K w ps rows → rows[j]? = some ds → ∃ p vs, ps[j]? = some p ∧ w.h p = some (.lst vs) ∧ RpAll K w.s vs ds
  | _, _, _, _, .nil, e => by simp at e
  | _, _, 0, _, .cons h r _, e => by simp at e; subst e; exact ⟨_, _, rfl, h, r⟩
  | _, _, j + 1, _, .cons _ _ t, e => by
    obtain ⟨p, vs, h1, h2⟩ := RowsOk.get (j := j) t (by simpa using e)
    exact ⟨p, vs, by simpa using h1, h2⟩
theorem RowsOk.wr {w : Wl} {q : Addr} {vs' : List V} {ds' : List PyData} (r : RpAll K w.s vs' ds') : ∀ {ps : List Addr} {rows : List (List PyData)} {j : Nat} {w' : Wl}, RowsOk K w ps rows → ps.Nodup → ps[j]? = some q → w'.h = upd w.h q (.lst vs') → w'.s = w.s →
    RowsOk K w' ps (rows.set j ds')
  | _, _, _, _, .nil, _, e, _, _ => by simp at e
  | p :: ps, _, 0, w', .cons h r0 t, nd, e, eh, es => by
    simp at e; subst e
    refine .cons (by rw [eh]; exact upd_same) (by rw [es]; exact r) ?_
    exact t.frame (fun a ha => by rw [eh]; exact upd_ne (fun z => (List.nodup_cons.mp nd).1 (z ▸ ha))) (by rw [es]; exact Ex.refl _)
  | p :: ps, _, j + 1, w', .cons h r0 t, nd, e, eh, es => by
    have hj : ps[j]? = some q := by simpa using e
    have hne : p ≠ q := fun z => (List.nodup_cons.mp nd).1 (z ▸ List.mem_of_getElem? hj)
    exact .cons (by rw [eh, upd_ne hne]; exact h) (by rw [es]; exact r0) (RowsOk.wr r t (List.nodup_cons.mp nd).2 hj eh es)
/-- all that slot i holds is there for good from here on -/
theorem Sat.frzO {d : PyData} (sat : Sat K B w0 w σ env) (h : env[i]? = some (.own o)) (key : ∀ v fp, OwnOk K w v o fp → ∀ H, (∀ a ∈ fp, H a = w.h a) → Ex w.s H → Rp K H v d) :
    ∃ w' : Wl, w'.h = w.h ∧ Ex w.s w'.s ∧ Sat K B w0 w' σ (env.set i (.dat d)) := by
  obtain ⟨fps, f⟩ := sat.f
  have hi : i < env.length := (List.getElem?_eq_some_iff.mp h).1
  have c := f.sl i
  have e0 : env.getD i .junk = .own o := by rw [List.getD_eq_getElem?_getD, h]; rfl
  rw [e0] at c
  obtain ⟨nd, ha, v, ev, ok⟩ := c
  have hl : i < σ.length := by rw [f.len]; exact hi
  have hσ : σ.set i (σ.getD i none) = σ := by
    rw [List.getD_eq_getElem?_getD, List.getElem?_eq_getElem hl]
    exact List.set_getElem_self hl
  let s' : Hp := fun a => if a ∈ fps i then w.h a else w.s a
  have sin : ∀ a ∈ fps i, s' a = w.h a := fun a h => if_pos h
  have sout : ∀ a, a ∉ fps i → s' a = w.s a := fun a h => if_neg h
  have ex : Ex w.s s' := fun a o e => by
    rw [sout a (fun z => by rw [(ha a z).1] at e; cases e)]; exact e
  refine ⟨⟨s', w.h, fun a o e => ?_⟩, rfl, ex, ?_⟩
  · by_cases c : a ∈ fps i
    · rw [sin a c] at e; exact e
    · rw [sout a c] at e; exact w.le a o e
  rw [← hσ]
  refine (f.turn (w' := ⟨s', w.h, _⟩) (e := .dat d) (fp := []) hi ⟨fun a o hb e => f.grow.h a o hb e, f.grow.s.trans ex, fun a e1 e2 => ?_, f.grow.dom⟩ ex (fun j hj a haj => ⟨rfl, sout a ?_⟩) ⟨rfl, v, ev, key v _ ok s' sin ex⟩ (fun a ha => nomatch ha)).sat
  · show s' a = none
    rw [sout a (fun z => e1 (ha a z).2.2)]; exact f.grow.own a e1 e2
  · intro z
    exact f.dj i j a (fun z => hj z.symm) z haj
theorem rows_rp {w : Wl} : ∀ {ps : List Addr} {rows : List (List PyData)} {H : Hp}, RowsOk K w ps rows → (∀ a ∈ ps, H a = w.h a) → Ex w.s H → RpAll K H (ps.map V.ref) (rows.map PyData.list)
  | _, _, _, .nil, _, _ => .nil
  | _, _, _, .cons h r t, f, e => .cons (.lst ((f _ List.mem_cons_self).trans h) (r.mono e)) (rows_rp t (fun a ha => f a (List.mem_cons_of_mem _ ha)) e)
theorem Sat.frzM {rows : List (List PyData)} (sat : Sat K B w0 w σ env) (h : env[i]? = some (.own (.mat rows))) : ∃ w' : Wl, w'.h = w.h ∧ Ex w.s w'.s ∧ Sat K B w0 w' σ (env.set i (.dat (.list (rows.map PyData.list)))) :=
  sat.frzO h fun v fp ⟨r, ps, e1, e2, e3, e4⟩ H f e => by
    subst e1 e2
    exact .lst ((f r List.mem_cons_self).trans e3) (rows_rp e4 (fun a ha => f a (List.mem_cons_of_mem _ ha)) e)
end
section
variable {S : Sc} {env env' : Evm} {D : AE} {st : Stmt} {sts rest : List Stmt} {tg iter e a b c o : Expr} {es : List Expr} {d x y z : PyData} {pos p p' p2 : Pos} {i j : Int} {s s' n : Str} {ds zs : List PyData} {k : Bool} {rows : List (List PyData)}
theorem xss_frzM (i : Nat) (k : XSs S sts (env.set i (.dat (.list (rows.map PyData.list)))) D) (h : env[i]? = some (.own (.mat rows)) := by rfl) : XSs S sts env D := fun W => by
  obtain ⟨t, pt, et⟩ := k W
  refine ⟨t, pt, fun B w0 w σ D' sat l => ?_⟩
  obtain ⟨w', e1, _, sat'⟩ := sat.frzM h
  rw [← e1]
  exact et B w0 w' σ D' sat' l
theorem xe_tmpM (i : Nat) (he : XE S e (env.set i (.dat (.list (rows.map PyData.list)))) d) (hd : flatD d = true := by rfl) (h : env[i]? = some (.own (.mat rows)) := by rfl) : XE S e env d := by
  obtain ⟨t, pt, et⟩ := he
  refine ⟨t, pt, fun B w0 w σ sat Q q => ?_⟩
  obtain ⟨w', e1, e2, sat'⟩ := sat.frzM h
  rw [← e1]
  refine et B w0 w' σ sat' _ fun v w2 g2 r2 => ?_
  refine q v ⟨w.s, w2.h, fun a o ea => exh g2 a o (by rw [e1]; exact w.le a o ea)⟩ ⟨fun a o _ ea => exh g2 a o (by rw [e1]; exact ea), Ex.refl _, fun _ _ e => e, fun a ea => g2.dom a (by rw [e1]; exact ea)⟩ ?_
  cases r2 with
  | non => exact .non
  | bl b => exact .bl b
  | int b => exact .int b
  | str b => exact .str b
  | _ => cases hd
/-! x[i] = e, x[i] op= e of an own list -/
def setI {α : Type} (xs : List α) (i : Int) (x : α) : List α := match ixN xs.length i with
  | some j => xs.set j x
  | none => xs
theorem setI_len {α : Type} (xs : List α) (i : Int) (x : α) : (setI xs i x).length = xs.length := by
  unfold setI
  cases ixN xs.length i with
  | none => rfl
  | some j => exact List.length_set ..
theorem setI_map {α β : Type} (f : α → β) (xs : List α) (i : Int) (x : α) : (setI xs i x).map f = setI (xs.map f) i (f x) := by
  unfold setI
  rw [List.length_map]
  cases ixN xs.length i with
  | none => rfl
  | some j => exact List.map_set ..
theorem ixN_ok {n : Nat} {i : Int} (h : -(n : Int) ≤ i ∧ i < n) : ∃ j, ixN n i = some j ∧ j < n := by
  unfold ixN
  by_cases c : 0 ≤ i
  · rw [if_pos c, if_pos h.2]; exact ⟨_, rfl, by omega⟩
  · rw [if_neg c, if_pos h.1]; exact ⟨_, rfl, by omega⟩
theorem setI_nat {α : Type} (xs : List α) {i : Int} (x : α) (h : 0 ≤ i ∧ i < xs.length) : setI xs i x = xs.set i.toNat x := by
  unfold setI ixN
  rw [if_pos h.1, if_pos h.2]
theorem xss_seti (i : Nat) {ie : Expr} {ix : Int} (hx : -(ds.length : Int) ≤ ix ∧ ix < ds.length) (he : XE S e env d) (hi : XE S ie env (.int ix)) (k : XSs S rest (env.set i (.own (.lst (setI ds ix d)))) D) (h : env[i]? = some (.own (.lst ds)) := by rfl) (hn : S.N[i]? = some n := by rfl)
    (hv : Vis S.sc n := by first | exact Or.inl rfl | exact Or.inr (Or.inl rfl) | exact Or.inr (Or.inr rfl)) (h1 : (n == ("__debug__" : Str)) = false := by decide) (h2 : (n == ("__classdict__" : Str)) = false := by decide)
    (hs : ∀ env, swapsWithSole [.Subscript (.Name n p') ie p] e pos.line env = pure false := by intro _; rfl) (hw : ∀ env, swappedStores [.Subscript (.Name n p') ie p] e env = pure none := by intro _; rfl) (ha1 : ∀ env, List.map (·.2) (assignEach [.Subscript (.Name n p') ie p] env) = [assign (.Subscript (.Name n p') ie p) env] := by intro _; rfl)
    (ha : ∀ (X : Cx) v, assign (.Subscript (.Name n p') ie p) X.env v = (do
      let ov ← holding [v] (eval (.Name n p') X.env)
      let iv ← holding [v, ov] (eval ie X.env)
      standAt p
      holding [v, ov, iv] (setItem ov iv v)
      release [v, ov, iv] []) := by intro _ _; rfl) :
    XSs S (.Assign [.Subscript (.Name n p') ie p] e pos :: rest) env D := by
  obtain ⟨t, pt, et⟩ := he
  obtain ⟨ti, pti, eti⟩ := hi
  refine xss_of (fun W => ⟨tAsg t (gSub (tVar i) ti rSetL), fun X C => ps_asg (pt X C.dyn) (pg_sub (pe_var (by rw [C.dyn.N]; exact hn) (by rw [C.dyn.sc]; exact hv) h1 h2) (pti X C.dyn) set_list (ha X)) (hs _) (hw _) (ha1 _), fun u ru B w0 w σ D' sat l => ?_⟩) k
  refine et B w0 w σ sat _ fun v w1 g1 r1 => ?_
  have sat1 := sat.mono g1
  obtain ⟨q, vs, ev, hq, r⟩ := sat1.ownL h
  refine ⟨.ref q, ev, ?_⟩
  refine eti B w0 w1 σ sat1 _ fun v2 w2 g2 r2 => ?_
  cases r2
  have r' := r.mono g2.s
  obtain ⟨j, hj, hjl⟩ := ixN_ok hx
  have hj' : ixN vs.length ix = some j := by rw [r.length]; exact hj
  have es : setI ds ix d = ds.set j d := by unfold setI; rw [hj]
  obtain ⟨w3, e3, e4, sat3⟩ := (sat1.mono g2).write h ev (exh g2 _ _ hq) (r'.set j (r1.mono g2.s))
  refine ⟨q, vs, ix, j, rfl, rfl, exh g2 _ _ hq, hj', ?_⟩
  rw [← e3]
  rw [es] at ru
  exact ru B w0 w3 σ D' sat3 l
theorem pget_list {X : Cx} : PGet X (fun o i H Q => ∃ p xs k v, o = .ref p ∧ i = .int k ∧ H p = some (.lst xs) ∧ 0 ≤ k ∧ xs[k.toNat]? = some v ∧ Q v H) := by
  intro pins s σ H o i ov iv Q I ro ri h
  obtain ⟨p, xs, k, v, rfl, rfl, hp, h0, hx, q⟩ := h
  cases ro
  obtain ⟨t, rfl⟩ := ri
  obtain ⟨its, r, hl, hz⟩ := I.list (SqL.of hp)
  obtain ⟨u, hu, ru⟩ := r.get hx
  have hk : k.toNat < xs.length := (List.getElem?_eq_some_iff.mp hx).1
  have hn := line63
  exact PyProof.Rows.getItem_listL (l := its) (x := u) hl.isList h0 (by omega) hu ⟨v, H, I, ru, q⟩
/-- n[i] op= e, ints -/
theorem xss_augi (i : Nat) {ie : Expr} {ix m j : Int} {ns : List Int} {op : Operator} {f : Int → Int → Int} (hp : ∀ X, Dyn S X → PIp X op (ipI f)) (hx : 0 ≤ ix ∧ ix < ns.length) (hm : getI ns ix = m) (hi : XE S ie env (.int ix)) (he : XE S e env (.int j))
    (k : XSs S rest (env.set i (.own (.lst ((setI ns ix (f m j)).map PyData.int)))) D) (h : env[i]? = some (.own (.lst (ns.map PyData.int))) := by rfl) (hn : S.N[i]? = some n := by rfl)
    (hv : Vis S.sc n := by first | exact Or.inl rfl | exact Or.inr (Or.inl rfl) | exact Or.inr (Or.inr rfl)) (h1 : (n == ("__debug__" : Str)) = false := by decide) (h2 : (n == ("__classdict__" : Str)) = false := by decide)
    (ha : ∀ ov iv new, augStore ie ov iv new = (do holding [new, ov, iv] (setItem ov iv new); release [new, ov, iv] []; pure .next) := by intros; rfl) :
    XSs S (.AugAssign (.Subscript (.Name n p') ie p) op e pos :: rest) env D := by
  obtain ⟨t, pt, et⟩ := he
  obtain ⟨ti, pti, eti⟩ := hi
  refine xss_of (fun W => ⟨tAugS (tVar i) ti t (fun o i H Q => ∃ p xs k v, o = .ref p ∧ i = .int k ∧ H p = some (.lst xs) ∧ 0 ≤ k ∧ xs[k.toNat]? = some v ∧ Q v H) (ipI f) rSetL, fun X C => ps_augS (pe_var (by rw [C.dyn.N]; exact hn) (by rw [C.dyn.sc]; exact hv) h1 h2) (pti X C.dyn) pget_list (pt X C.dyn) (hp X C.dyn) set_list ha, fun u ru B w0 w σ D' sat l => ?_⟩) k
  obtain ⟨q, vs, ev, hq, r⟩ := sat.ownL h
  refine ⟨.ref q, ev, ?_⟩
  refine eti B w0 w σ sat _ fun v2 w2 g2 r2 => ?_
  cases r2
  have r' := r.mono g2.s
  have sat2 := sat.mono g2
  have hvs := RpAll.of_ints r'
  subst hvs
  have hl : ix.toNat < ns.length := by omega
  refine ⟨q, _, ix, .int m, rfl, rfl, exh g2 _ _ hq, hx.1, ?_, ?_⟩
  · rw [List.getElem?_map, List.getElem?_eq_getElem hl, ← getI_pos ns hx.1 hx.2, hm]; rfl
  refine et B w0 w2 σ sat2 _ fun v3 w3 g3 r3 => ?_
  cases r3
  refine ⟨m, j, rfl, rfl, ?_⟩
  have sat3 := sat2.mono g3
  have hq3 := exh (g2.trans g3) _ _ hq
  have es : setI ns ix (f m j) = ns.set ix.toNat (f m j) := setI_nat ns _ hx
  rw [es] at ru
  have hj : ixN (ns.map V.int).length ix = some ix.toNat := by
    unfold ixN
    rw [List.length_map, if_pos hx.1, if_pos hx.2]
  obtain ⟨w4, e4, e5, sat4⟩ := sat3.write (vs' := (ns.set ix.toNat (f m j)).map V.int) (ds' := (ns.set ix.toNat (f m j)).map PyData.int) h ev hq3 (RpAll.ints _)
  refine ⟨q, _, ix, ix.toNat, rfl, rfl, hq3, hj, ?_⟩
  rw [show (ns.map V.int).set ix.toNat (.int (f m j)) = (ns.set ix.toNat (f m j)).map V.int from (List.map_set ..).symm, ← e4]
  exact ru B w0 w4 σ D' sat4 l
/-! rows[i][j] = e, rows[i][j] op= e of an own matrix -/
def setM {α : Type} (rows : List (List α)) (a b : Int) (x : α) : List (List α) := rows.set a.toNat ((rows[a.toNat]?.getD []).set b.toNat x)
theorem setM_len {α : Type} (rows : List (List α)) (a b : Int) (x : α) : (setM rows a b x).length = rows.length := List.length_set ..
theorem setM_map {α β : Type} (f : α → β) (rows : List (List α)) (a b : Int) (x : α) : (setM rows a b x).map (·.map f) = setM (rows.map (·.map f)) a b (f x) := by
  unfold setM
  rw [List.map_set, List.getElem?_map, List.map_set]
  cases rows[a.toNat]? <;> rfl
theorem xss_setM (i : Nat) {ae be : Expr} {ax bx : Int} {row : List PyData} (hx : 0 ≤ ax) (hr : rows[ax.toNat]? = some row) (hb : 0 ≤ bx ∧ bx < row.length) (he : XE S e env d) (hae : XE S ae env (.int ax)) (hbe : XE S be env (.int bx))
    (k : XSs S rest (env.set i (.own (.mat (setM rows ax bx d)))) D) (h : env[i]? = some (.own (.mat rows)) := by rfl) (hn : S.N[i]? = some n := by rfl)
    (hv : Vis S.sc n := by first | exact Or.inl rfl | exact Or.inr (Or.inl rfl) | exact Or.inr (Or.inr rfl)) (h1 : (n == ("__debug__" : Str)) = false := by decide) (h2 : (n == ("__classdict__" : Str)) = false := by decide) (hpl : PlainIx ae := by intro _ _; rfl)
    (hs : ∀ env, swapsWithSole [.Subscript (.Subscript (.Name n p') ae p2) be p] e pos.line env = pure false := by intro _; rfl) (hw : ∀ env, swappedStores [.Subscript (.Subscript (.Name n p') ae p2) be p] e env = pure none := by intro _; rfl)
    (ha1 : ∀ env, List.map (·.2) (assignEach [.Subscript (.Subscript (.Name n p') ae p2) be p] env) = [assign (.Subscript (.Subscript (.Name n p') ae p2) be p) env] := by intro _; rfl)
    (ha : ∀ (X : Cx) v, assign (.Subscript (.Subscript (.Name n p') ae p2) be p) X.env v = (do
      let ov ← holding [v] (eval (.Subscript (.Name n p') ae p2) X.env)
      let iv ← holding [v, ov] (eval be X.env)
      standAt p
      holding [v, ov, iv] (setItem ov iv v)
      release [v, ov, iv] []) := by intro _ _; rfl) :
    XSs S (.Assign [.Subscript (.Subscript (.Name n p') ae p2) be p] e pos :: rest) env D := by
  obtain ⟨t, pt, et⟩ := he
  obtain ⟨ta, pta, eta⟩ := hae
  obtain ⟨tb, ptb, etb⟩ := hbe
  refine xss_of (fun W => ⟨tAsg t (gSub (tOp (rIxL S.K) (tVar i) ta) tb rSetL), fun X C => ps_asg (pt X C.dyn) (pg_sub (pe_ix (ix_listS C.dyn) (pe_var (by rw [C.dyn.N]; exact hn) (by rw [C.dyn.sc]; exact hv) h1 h2) (pta X C.dyn) hpl) (ptb X C.dyn) set_list (ha X)) (hs _) (hw _) (ha1 _), fun u ru B w0 w σ D' sat l => ?_⟩) k
  refine et B w0 w σ sat _ fun v w1 g1 r1 => ?_
  have sat1 := sat.mono g1
  obtain ⟨vr, fp, ev, r, ps, rfl, hfp, hq, ok⟩ := sat1.getO (.inl h)
  refine ⟨.ref r, ev, ?_⟩
  refine eta B w0 w1 σ sat1 _ fun v2 w2 g2 r2 => ?_
  cases r2
  obtain ⟨q, vs, hq1, hq2, hq3⟩ := ok.get hr
  have hall : ax.toNat < ps.length := by rw [ok.len]; exact (List.getElem?_eq_some_iff.mp hr).1
  refine ⟨r, _, ax, .ref q, rfl, rfl, SqL.of (exh g2 _ _ hq), ?_, ?_⟩
  · unfold atI ixN
    rw [List.length_map, if_pos hx, if_pos (by omega)]
    show (ps.map V.ref)[ax.toNat]? = _
    rw [List.getElem?_map, hq1]; rfl
  have sat2 := sat1.mono g2
  refine etb B w0 w2 σ sat2 _ fun v3 w3 g3 r3 => ?_
  cases r3
  have sat3 := sat2.mono g3
  have hq2' := exh (g2.trans g3) _ _ hq2
  have r' : RpAll S.K w3.s (vs.set bx.toNat v) (row.set bx.toNat d) := ((hq3.mono (g2.trans g3).s)).set _ (r1.mono (g2.trans g3).s)
  have es : setM rows ax bx d = rows.set ax.toNat (row.set bx.toNat d) := by unfold setM; rw [hr]; rfl
  rw [es] at ru
  obtain ⟨w4, e4, e5, sat4⟩ := sat3.wr (q := q) (u := .lst (vs.set bx.toNat v)) (o' := .mat (rows.set ax.toNat (row.set bx.toNat d))) h fun v' fp' ev' nd ok' => by
    obtain ⟨r', ps', e1, e2, e3, e4⟩ := ok'
    have e0 : v' = .ref r := by rw [ev] at ev'; injection ev' with e; injection e with e; exact e.symm
    rw [e0] at e1
    injection e1 with e1
    subst e1 e2
    rw [exh (g2.trans g3) _ _ hq] at e3
    injection e3 with e3
    injection e3 with e3
    have e3 : ps = ps' := by
      have : ∀ a b : List Addr, a.map V.ref = b.map V.ref → a = b := by
        intro a
        induction a with
        | nil => intro b h; cases b with
          | nil => rfl
          | cons => cases h
        | cons x a ih => intro b h; cases b with
          | nil => cases h
          | cons y b => rw [List.map_cons, List.map_cons] at h; injection h with h1 h2; injection h1 with h1; rw [h1, ih b h2]
      exact this _ _ e3
    subst e3
    refine ⟨List.mem_cons_of_mem _ (List.mem_of_getElem? hq1), fun w' h1 h2 => ⟨r, ps, e0, rfl, ?_, RowsOk.wr r' e4 (List.nodup_cons.mp nd).2 hq1 h1 h2⟩⟩
    rw [h1, upd_ne (fun z => (List.nodup_cons.mp nd).1 (by rw [z]; exact List.mem_of_getElem? hq1))]
    exact exh (g2.trans g3) _ _ hq
  refine ⟨q, vs, bx, bx.toNat, rfl, rfl, hq2', ?_, ?_⟩
  · unfold ixN
    rw [if_pos hb.1, if_pos (by rw [hq3.length]; exact hb.2)]
  rw [← e4]
  exact ru B w0 w4 σ D' sat4 l
end
end Fw


namespace Fw
open PySem PySem.Spec L2 Emb
/-! ## while -/
def whF {S R : Type} (c : S → Bool) (body : S → Fr S R) : Nat → S → Fr S R
  | 0, s => .nx s
  | n + 1, s => if c s = true then (match body s with
    | .nx s' => whF c body n s'
    | .rt r => .rt r
    | .bk s' => .bk s') else .nx s
section
variable {S' R : Type} {c : S' → Bool} {body : S' → Fr S' R} {n N : Nat} {s s' s0 : S'} {r : R} {x : Fr S' R}
theorem whF_on (h : c s = true) (hb : body s = .nx s') : whF c body (n + 1) s = whF c body n s' := by
  show (if c s = true then (match body s with | .nx s' => whF c body n s' | .rt r => .rt r | .bk s' => .bk s') else .nx s) = _
  rw [if_pos h, hb]
theorem whF_end (h : c s = false) : whF c body n s = .nx s := by
  cases n with
  | zero => rfl
  | succ n =>
    show (if c s = true then (match body s with | .nx s' => whF c body n s' | .rt r => .rt r | .bk s' => .bk s') else .nx s) = _
    rw [if_neg (by rw [h]; exact Bool.false_ne_true)]
theorem whF_rt (hist : x = whF c body (n + 1) s) (h : c s = true) (hb : body s = .rt r) : x = .rt r := by
  rw [hist]
  show (if c s = true then (match body s with | .nx s' => whF c body n s' | .rt r => .rt r | .bk s' => .bk s') else .nx s) = _
  rw [if_pos h, hb]
theorem whF_bk (hist : x = whF c body (n + 1) s) (h : c s = true) (hb : body s = .bk s') : x = .bk s' := by
  rw [hist]
  show (if c s = true then (match body s with | .nx s' => whF c body n s' | .rt r => .rt r | .bk s' => .bk s') else .nx s) = _
  rw [if_pos h, hb]
end
section
variable {S : Sc} {env env' : Evm} {D : AE} {st : Stmt} {sts rest : List Stmt} {tg iter e a b cond o : Expr} {es : List Expr} {d x y z : PyData} {pos p p' p2 : Pos} {i j : Int} {n : Str} {ds zs : List PyData} {k : Bool} {rows : List (List PyData)}
theorem xss_while {S' R : Type} (en : S' → Evm) (c : S' → Bool) (body : S' → Fr S' R) (m : S' → Nat) (J : S' → Prop) (s0 : S') (N : Nat) (hN : m s0 < N) (h0 : Le env (en s0)) (hJ : J s0)
    (step : ∀ s s', J s → c s = true → body s = .nx s' → J s' ∧ m s' < m s) (test : ∀ s, J s → XT S cond (en s) (c s))
    (turn : ∀ s n, J s → c s = true → whF c body N s0 = whF c body (n + 1) s →
      XSs S sts (en s) { nx := fun ev => ∃ s', body s = .nx s' ∧ Le ev (en s'), ct := fun ev => ∃ s', body s = .nx s' ∧ Le ev (en s'), bk := fun ev => ∃ s', body s = .bk s' ∧ Le ev (en s'), rt := D.rt, ex := D.ex })
    (done : ∀ s, (whF c body N s0 = .nx s ∨ whF c body N s0 = .bk s) → XSs S rest (en s) D) : XSs S (.While cond sts [] pos :: rest) env D := by
  refine xss_cut (fun e => ∃ s, (whF c body N s0 = .nx s ∨ whF c body N s0 = .bk s) ∧ e = en s) ?_ (fun ev ⟨s, h, e⟩ => by subst e; exact done s h)
  intro W
  let tt : TT := fun σ H Q => ∃ q : { s : S' // J s }, (Classical.choose (test q.1 q.2)) σ H Q
  let I := { q : S' × Nat // J q.1 ∧ c q.1 = true ∧ whF c body N s0 = whF c body (q.2 + 1) q.1 }
  let tb : TS := fun D σ H => ∃ q : I, (Classical.choose ((turn q.1.1 q.1.2 q.2.1 q.2.2.1 q.2.2.2) W)) D σ H
  have ptt : ∀ X, Dyn S X → PT X cond tt := fun X C => ⟨fun pins s σ H Q I ⟨q, z⟩ => ((Classical.choose_spec (test q.1 q.2)).1 X C).run pins s σ H Q I z⟩
  refine ⟨tWhile tt tb, fun X C => ps_while C.own (ptt X C.dyn) (pss_sup fun q => (Classical.choose_spec ((turn q.1.1 q.1.2 q.2.1 q.2.2.1 q.2.2.2) W)).1 X C), ?_⟩
  intro B w0 w σ D' sat l
  refine ⟨fun mm σ H => ∃ (w : Wl) (s : S') (n : Nat), w.h = H ∧ Sat S.K B w0 w σ (en s) ∧ J s ∧ mm = m s ∧ m s < n ∧ whF c body N s0 = whF c body n s, ⟨m s0, w, s0, N, rfl, sat.weak h0, hJ, rfl, hN, rfl⟩, ?_⟩
  rintro mm σ H ⟨w2, s, n, rfl, sat2, hj, rfl, hn, hist⟩
  refine ⟨⟨s, hj⟩, (Classical.choose_spec (test s hj)).2 B w0 w2 σ sat2 _ fun w3 g3 => ?_⟩
  have sat3 := sat2.mono g3
  cases hc : c s with
  | false =>
    rw [if_neg Bool.false_ne_true]
    rw [whF_end hc] at hist
    exact l.nx _ _ _ ⟨s, .inl hist, rfl⟩ sat3
  | true =>
    rw [if_pos rfl]
    obtain ⟨n', rfl⟩ : ∃ n', n = n' + 1 := ⟨n - 1, by omega⟩
    refine ⟨fun σ' H' => ∃ (w : Wl) (s' : S'), w.h = H' ∧ Sat S.K B w0 w σ' (en s') ∧ body s = .nx s', ?_, ?_⟩
    · rintro σ' H' ⟨w4, s', rfl, sat4, hb⟩
      obtain ⟨hj', hm⟩ := step s s' hj hc hb
      exact ⟨m s', hm, w4, s', n', rfl, sat4, hj', rfl, by omega, hist.trans (whF_on hc hb)⟩
    · refine ⟨⟨(s, n'), hj, hc, hist⟩, (Classical.choose_spec (turn s n' hj hc hist W)).2 B w0 w3 σ _ sat3 ⟨?_, ?_, ?_, ?_, ?_⟩⟩
      · rintro ev w4 σ4 ⟨s', hb', le⟩ sat4
        exact ⟨w4, s', rfl, sat4.weak le, hb'⟩
      · rintro ev w4 σ4 ⟨s', hb', le⟩ sat4
        exact l.nx _ _ _ ⟨s', .inr (whF_bk hist hc hb'), rfl⟩ (sat4.weak le)
      · rintro ev w4 σ4 ⟨s', hb', le⟩ sat4
        exact ⟨w4, s', rfl, sat4.weak le, hb'⟩
      · intro ev d v w4 σ4 h sat4 r
        exact l.rt ev d v w4 σ4 h sat4 r
      · intro ev e cls d w4 σ4 h sat4 r
        exact l.ex ev e cls d w4 σ4 h sat4 r
/-! ## more of matrices -/
theorem refs_inj : ∀ {a b : List Addr}, a.map V.ref = b.map V.ref → a = b
  | [], [], _ => rfl
  | [], _ :: _, h => by cases h
  | _ :: _, [], h => by cases h
  | x :: a, y :: b, h => by
    rw [List.map_cons, List.map_cons] at h
    injection h with h1 h2
    injection h1 with h1
    rw [h1, refs_inj h2]
theorem Sat.wrM {K : PySem.W.Frag} {B : List Addr} {w0 : Bs} {w : Wl} {σ : L2.St} {env : Evm} {i : Nat} {r q : Addr} {ps : List Addr} {a : Nat} {vs : List V} {row : List PyData} (sat : Sat K B w0 w σ env) (h : env[i]? = some (.own (.mat rows)))
    (ev : σ[i]? = some (some (.ref r))) (hr : w.h r = some (.lst (ps.map V.ref))) (hq : ps[a]? = some q) (rr : RpAll K w.s vs row) :
    ∃ w' : Wl, w'.h = upd w.h q (.lst vs) ∧ w'.s = w.s ∧ Sat K B w0 w' σ (env.set i (.own (.mat (rows.set a row)))) :=
  sat.wr (q := q) (u := .lst vs) (o' := .mat (rows.set a row)) h fun v' fp' ev' nd ok' => by
    obtain ⟨r', ps', e1, e2, e3, e4⟩ := ok'
    have e0 : v' = .ref r := by rw [ev] at ev'; injection ev' with e; injection e with e; exact e.symm
    rw [e0] at e1
    injection e1 with e1
    subst e1 e2
    rw [hr] at e3
    injection e3 with e3
    injection e3 with e3
    have e3 := refs_inj e3
    subst e3
    refine ⟨List.mem_cons_of_mem _ (List.mem_of_getElem? hq), fun w' h1 h2 => ⟨r, ps, e0, rfl, ?_, RowsOk.wr rr e4 (List.nodup_cons.mp nd).2 hq h1 h2⟩⟩
    rw [h1, upd_ne (fun z => (List.nodup_cons.mp nd).1 (by rw [z]; exact List.mem_of_getElem? hq))]
    exact hr
/-- rows[a][b] op= e, ints -/
theorem xss_augM (i : Nat) {ae be : Expr} {ax bx m j : Int} {row : List Int} {rows : List (List Int)} {op : Operator} {f : Int → Int → Int} (hp : ∀ X, Dyn S X → PIp X op (ipI f)) (hx : 0 ≤ ax) (hr : rows[ax.toNat]? = some row) (hb : 0 ≤ bx ∧ bx < row.length) (hm : getI row bx = m)
    (hae : XE S ae env (.int ax)) (hbe : XE S be env (.int bx)) (he : XE S e env (.int j))
    (k : XSs S rest (env.set i (.own (.mat ((setM rows ax bx (f m j)).map (·.map PyData.int))))) D) (h : env[i]? = some (.own (.mat (rows.map (·.map PyData.int)))) := by rfl) (hn : S.N[i]? = some n := by rfl)
    (hv : Vis S.sc n := by first | exact Or.inl rfl | exact Or.inr (Or.inl rfl) | exact Or.inr (Or.inr rfl)) (h1 : (n == ("__debug__" : Str)) = false := by decide) (h2 : (n == ("__classdict__" : Str)) = false := by decide) (hpl : PlainIx ae := by intro _ _; rfl)
    (ha : ∀ ov iv new, augStore be ov iv new = (do holding [new, ov, iv] (setItem ov iv new); release [new, ov, iv] []; pure .next) := by intros; rfl) :
    XSs S (.AugAssign (.Subscript (.Subscript (.Name n p') ae p2) be p) op e pos :: rest) env D := by
  obtain ⟨t, pt, et⟩ := he
  obtain ⟨ta, pta, eta⟩ := hae
  obtain ⟨tb, ptb, etb⟩ := hbe
  refine xss_of (fun W => ⟨tAugS (tOp (rIxL S.K) (tVar i) ta) tb t (fun o i H Q => ∃ p xs k v, o = .ref p ∧ i = .int k ∧ H p = some (.lst xs) ∧ 0 ≤ k ∧ xs[k.toNat]? = some v ∧ Q v H) (ipI f) rSetL,
    fun X C => ps_augS (pe_ix (ix_listS C.dyn) (pe_var (by rw [C.dyn.N]; exact hn) (by rw [C.dyn.sc]; exact hv) h1 h2) (pta X C.dyn) hpl) (ptb X C.dyn) pget_list (pt X C.dyn) (hp X C.dyn) set_list ha, fun u ru B w0 w σ D' sat l => ?_⟩) k
  obtain ⟨vr, fp, ev, r, ps, rfl, hfp, hq, ok⟩ := sat.getO (.inl h)
  refine ⟨.ref r, ev, ?_⟩
  refine eta B w0 w σ sat _ fun v2 w2 g2 r2 => ?_
  cases r2
  have hr' : (rows.map (·.map PyData.int))[ax.toNat]? = some (row.map PyData.int) := by rw [List.getElem?_map, hr]; rfl
  obtain ⟨q, vs, hq1, hq2, hq3⟩ := ok.get hr'
  have hall : ax.toNat < ps.length := by rw [ok.len]; exact (List.getElem?_eq_some_iff.mp hr').1
  refine ⟨r, _, ax, .ref q, rfl, rfl, SqL.of (exh g2 _ _ hq), ?_, ?_⟩
  · unfold atI ixN
    rw [List.length_map, if_pos hx, if_pos (by omega)]
    show (ps.map V.ref)[ax.toNat]? = _
    rw [List.getElem?_map, hq1]; rfl
  have sat2 := sat.mono g2
  refine etb B w0 w2 σ sat2 _ fun v3 w3 g3 r3 => ?_
  cases r3
  have sat3 := sat2.mono g3
  have hq2' := exh (g2.trans g3) _ _ hq2
  have hvs := RpAll.of_ints (hq3.mono (g2.trans g3).s)
  subst hvs
  have hl : bx.toNat < row.length := by omega
  refine ⟨q, _, bx, .int m, rfl, rfl, hq2', hb.1, ?_, ?_⟩
  · rw [List.getElem?_map, List.getElem?_eq_getElem hl, ← getI_pos row hb.1 hb.2, hm]; rfl
  refine et B w0 w3 σ sat3 _ fun v5 w5 g5 r5 => ?_
  cases r5
  refine ⟨m, j, rfl, rfl, ?_⟩
  have sat5 := sat3.mono g5
  have gg := (g2.trans g3).trans g5
  have es : setM rows ax bx (f m j) = rows.set ax.toNat (row.set bx.toNat (f m j)) := by unfold setM; rw [hr]; rfl
  rw [es] at ru
  obtain ⟨w4, e4, e5, sat4⟩ := sat5.wrM (vs := (row.set bx.toNat (f m j)).map V.int) (row := (row.set bx.toNat (f m j)).map PyData.int) h ev (exh gg _ _ hq) hq1 (RpAll.ints _)
  refine ⟨q, _, bx, bx.toNat, rfl, rfl, exh gg _ _ hq2, ?_, ?_⟩
  · unfold ixN
    rw [List.length_map, if_pos hb.1, if_pos hb.2]
  rw [show (row.map V.int).set bx.toNat (.int (f m j)) = (row.set bx.toNat (f m j)).map V.int from (List.map_set ..).symm, ← e4]
  rw [List.map_set] at ru
  exact ru B w0 w4 σ D' sat4 l
end
/-- a new list of new lists -/
def EvM (K : PySem.W.Frag) (te : TE) (env : Evm) (rows : List (List PyData)) : Prop := ∀ B w0 w σ, Sat K B w0 w σ env → ∀ Q : VK,
  (∀ r ps w', w.h r = none → Grow [] w w' → w'.h r = some (.lst (ps.map V.ref)) → w'.s r = none → RowsOk K w' ps rows → (r :: ps).Nodup → (∀ p ∈ ps, w.h p = none ∧ w'.s p = none ∧ w'.h p ≠ none) → Q (.ref r) w'.h) → te σ w.h Q
def XLm (S : Sc) (elt tg iter : Expr) (scope : Scope) (own : List (Str × Nat)) (env : Evm) (rows : List (List PyData)) : Prop := ∃ wi g tt te,
  (∀ X, Dyn S X → PI X tg iter wi) ∧ (∀ X, Dyn (S.blk scope) X → PG X tg g) ∧ (∀ X, Dyn (S.blk scope) X → PTs X [] tt) ∧ (∀ X, Dyn (S.blk scope) X → PE X elt te) ∧ EvM S.K (tLc wi g tt te (own.map (·.2))) env rows
theorem RowsOk.append {K : PySem.W.Frag} {w : Wl} : ∀ {ps qs : List Addr} {rows rows' : List (List PyData)}, RowsOk K w ps rows → RowsOk K w qs rows' → RowsOk K w (ps ++ qs) (rows ++ rows')
  | _, _, _, _, .nil, h => h
  | _, _, _, _, .cons h r t, h' => .cons h r (t.append h')
section
variable {S : Sc} {env : Evm} {tg elt iter a : Expr} {scope : Scope} {own : List (Str × Nat)} {pos : Pos} {ts : List Nat} {F : PyData → Evm → Evm} {P : Evm → PyData → Prop}
theorem xlm {α : Type} (e : α → PyData) (f : α → List PyData) {xs : List α} (hi : XI S tg iter env (xs.map e)) (hc : S.calm = true) (hN : S.N.Nodup) (hl : xs.length ≤ sizeLine)
    (hg : XG (S.blk scope) tg ts F P) (hts : ∀ j ∈ ts, j ∈ own.map (·.2)) (hP : ∀ x ∈ xs, P (wipeE env (own.map (·.2))) (e x))
    (he : ∀ x ∈ xs, XN (S.blk scope) elt (F (e x) (wipeE env (own.map (·.2)))) (f x)) : XLm S elt tg iter scope own env (xs.map f) := by
  obtain ⟨wi, pi, ei⟩ := hi
  obtain ⟨g, pg, eg⟩ := hg
  let te : TE := fun σ H Q => ∃ i : { x : α // x ∈ xs }, (Classical.choose (he i.1 i.2)) σ H Q
  have pte : ∀ X, Dyn (S.blk scope) X → PE X elt te := fun X D => pe_sup fun i => (Classical.choose_spec (he i.1 i.2)).1 X D
  have ete : ∀ x (hx : x ∈ xs), EvN S.K te (F (e x) (wipeE env (own.map (·.2)))) (f x) := fun x hx B w0 w σ s Q q => ⟨⟨x, hx⟩, (Classical.choose_spec (he x hx)).2 B w0 w σ s Q q⟩
  refine ⟨wi, g, tYes, te, pi, pg, fun X D => pts_nil, pte, ?_⟩
  intro B w0 w σ sat Q q
  refine ei B w0 w σ sat _ fun J w1 g1 src D hD => ?_
  have hD0 : w.h D = none := bk_none g1 hD
  refine ⟨fun i m H => i + m = xs.length ∧ ∃ (w' : Wl) (ps : List Addr), w'.h = H ∧ Grow [] w1 w' ∧ w'.h D = some (.lst (ps.map V.ref)) ∧ w'.s D = none ∧ RowsOk S.K w' ps ((xs.take i).map f) ∧ (D :: ps).Nodup ∧ (∀ p ∈ ps, w1.h p = none ∧ w'.s p = none ∧ w'.h p ≠ none),
    ⟨xs.length, by omega, w1.new D (.lst []) hD, [], rfl, grow_new hD, upd_same, s_none (w := w1) hD, .nil, by simp, fun _ h => nomatch h⟩, ?_⟩
  rintro i m H ⟨him, w', ps, rfl, g2, hv, hsD, rv, nd, hps⟩
  have hsrc := src i w' g2.s
  rw [List.length_map] at hsrc
  by_cases hlt : i < xs.length
  · right
    obtain ⟨hgo, hy⟩ := hsrc.1 hlt
    refine ⟨hgo, fun H' => i + 1 + (m - 1) = xs.length ∧ ∃ (w' : Wl) (ps : List Addr), w'.h = H' ∧ Grow [] w1 w' ∧ w'.h D = some (.lst (ps.map V.ref)) ∧ w'.s D = none ∧ RowsOk S.K w' ps ((xs.take (i + 1)).map f) ∧ (D :: ps).Nodup ∧ (∀ p ∈ ps, w1.h p = none ∧ w'.s p = none ∧ w'.h p ≠ none), fun H' h => ⟨m - 1, by omega, h⟩, ?_⟩
    intro x H' hx
    obtain ⟨w2, d, rfl, g3, hd, rd⟩ := hy x H' hx
    rw [List.getElem?_map, List.getElem?_eq_getElem hlt] at hd
    injection hd with hd
    subst hd
    have hmem : xs[i] ∈ xs := List.getElem_mem hlt
    have sat2 : Sat S.K B w0 w2 σ env := sat.mono ((g1.trans g2).trans g3)
    have htk : xs.take (i + 1) = xs.take i ++ [xs[i]] := by rw [List.take_succ, List.getElem?_eq_getElem hlt]; rfl
    refine eg _ _ (hP _ hmem) B w0 w2 _ x (sat2.wiped _) rd _ fun σ' sat3 hlen hσ => ?_
    refine ⟨wipe_back (hlen.trans (wipe_length _ _)) hts hσ, ?_⟩
    dsimp only [tYes]
    rw [if_pos rfl]
    refine ete _ hmem B w0 w2 σ' sat3 _ fun p vs w4 hp g5 hp4 hs4p r5 => ?_
    have g35 := g3.trans g5
    have hv4 : w4.h D = some (.lst (ps.map V.ref)) := exh g35 _ _ hv
    have hs4 : w4.s D = none := g35.own D (by rw [hv]; intro q; cases q) hsD
    have hp' : w'.h p = none := bk_none g3 hp
    have hp1 : w1.h p = none := bk_none g2 hp'
    have hpD : p ≠ D := fun z => by rw [z, hv] at hp'; cases hp'
    have hpn : p ∉ ps := fun z => (hps p z).2.2 hp'
    have rv4 : RowsOk S.K w4 ps ((xs.take i).map f) := rv.mono g35
    have hvl : ps.length ≤ i := by
      rw [rv4.len, List.length_map, List.length_take]; omega
    refine ⟨ps.map V.ref, hv4, by rw [List.length_map]; omega, by omega, ⟨w4.s, upd w4.h D (.lst (ps.map V.ref ++ [.ref p])), fun a o ea => ?_⟩, ps ++ [p], rfl, ?_, ?_, hs4, ?_, ?_, ?_⟩
    · have hne : a ≠ D := fun q => by rw [q, hs4] at ea; cases ea
      rw [upd_ne hne]; exact w4.le a o ea
    · have g6 := g2.trans g35
      refine ⟨fun a o _ ea => ?_, g6.s, g6.own, fun a ea => ?_⟩
      · have hne : a ≠ D := fun q => by rw [q, hD] at ea; cases ea
        show upd w4.h D _ a = some o
        rw [upd_ne hne]; exact g6.h a o (by simp) ea
      · show upd w4.h D _ a ≠ none
        by_cases hne : a = D
        · rw [hne, upd_same]; intro q; cases q
        · rw [upd_ne hne]; exact g6.dom a ea
    · rw [List.map_append]; exact upd_same
    · rw [htk, List.map_append]
      have fr : ∀ a ∈ ps ++ [p], upd w4.h D (.lst (ps.map V.ref ++ [.ref p])) a = w4.h a := fun a ha => upd_ne (fun z => by
        rcases List.mem_append.mp ha with h | h
        · exact (List.nodup_cons.mp nd).1 (z ▸ h)
        · exact hpD ((List.mem_singleton.mp h).symm.trans z))
      exact (rv4.append (.cons hp4 r5 .nil)).frame (w' := ⟨w4.s, upd w4.h D (.lst (ps.map V.ref ++ [.ref p])), _⟩) fr (Ex.refl _)
    · rw [List.nodup_cons] at nd ⊢
      refine ⟨fun h => ?_, ?_⟩
      · rcases List.mem_append.mp h with h | h
        · exact nd.1 h
        · exact hpD (List.mem_singleton.mp h).symm
      · rw [List.nodup_append]
        exact ⟨nd.2, by simp, fun a ha b hb e => hpn (by rw [← List.mem_singleton.mp hb, ← e]; exact ha)⟩
    · intro a ha
      have hne : a ≠ D := fun z => by
        rcases List.mem_append.mp ha with h | h
        · exact (List.nodup_cons.mp nd).1 (z ▸ h)
        · exact hpD ((List.mem_singleton.mp h).symm.trans z)
      rcases List.mem_append.mp ha with h | h
      · obtain ⟨h1, h2, h3⟩ := hps a h
        refine ⟨h1, g35.own a h3 h2, ?_⟩
        show upd w4.h D _ a ≠ none
        rw [upd_ne hne]; exact g35.dom a h3
      · rw [List.mem_singleton.mp h] at hne ⊢
        refine ⟨hp1, hs4p, ?_⟩
        show upd w4.h D _ p ≠ none
        rw [upd_ne hne, hp4]; intro z; cases z
  · left
    have hm0 : i = xs.length := by omega
    subst hm0
    rw [List.take_length] at rv
    exact ⟨hsrc.2 (Nat.le_refl _), q D ps w' hD0 (g1.trans g2) hv hsD rv nd fun p hp => ⟨bk_none g1 (hps p hp).1, (hps p hp).2⟩⟩
end
section
variable {S : Sc} {env env' : Evm} {D : AE} {rest : List Stmt} {tg elt iter e : Expr} {pos pos' p p' : Pos} {n : Str} {rows : List (List PyData)} {scope : Scope}
theorem Sat.ownM {K : PySem.W.Frag} {B : List Addr} {w0 : Bs} {w w1 : Wl} {σ : L2.St} {env : Evm} {i : Nat} {r : Addr} {ps : List Addr} (sat : Sat K B w0 w σ env) (hi : i < env.length) (hr : w.h r = none) (g : Grow [] w w1) (h1 : w1.h r = some (.lst (ps.map V.ref))) (h2 : w1.s r = none)
    (ok : RowsOk K w1 ps rows) (nd : (r :: ps).Nodup) (hp : ∀ p ∈ ps, w.h p = none ∧ w1.s p = none ∧ w1.h p ≠ none) : Sat K B w0 w1 (σ.set i (some (.ref r))) (env.set i (.own (.mat rows))) := by
  have fresh : ∀ a ∈ r :: ps, w.h a = none := fun a ha => by
    rcases List.mem_cons.mp ha with h | h
    · rw [h]; exact hr
    · exact (hp a h).1
  have w0n : ∀ a, w.h a = none → w0.h a = none := fun a h => by
    cases c : w0.h a with
    | none => rfl
    | some o => exact absurd h (sat.grow.dom a (by rw [c]; intro z; cases z))
  obtain ⟨fps, f⟩ := sat.f
  have f1 := f.mono g
  refine (f1.put (e := .own (.mat rows)) (fp := r :: ps) hi ⟨nd, fun a ha => ?_, .ref r, rfl, r, ps, rfl, rfl, h1, ok⟩ (fun a ha j hj hm => ?_)).sat
  · refine ⟨?_, ?_, w0n a (fresh a ha)⟩
    · rcases List.mem_cons.mp ha with h | h
      · rw [h]; exact h2
      · exact (hp a h).2.1
    · rcases List.mem_cons.mp ha with h | h
      · rw [h, h1]; intro z; cases z
      · exact (hp a h).2.2
  · exact (f.there hm).2 (fresh a ha)
/-- name = [[..] for ..], the name a local -/
theorem xss_setLm (i : Nat) (own : List (Str × Nat)) (h : XLm S elt tg iter scope own env rows) (hc : S.calm = true) (hN : S.N.Nodup) (k : XSs S rest (env.set i (.own (.mat rows))) D) (hi : i < env.length := by exact Nat.le_of_ble_eq_true rfl)
    (hk : S.sc.kind = .function := by rfl) (hn : S.N[i]? = some n := by rfl) (hnl : S.sc.names.lookup n = some .local := by rfl) (ok : blkC S.N S.sc scope own = true := by first | (dsimp only; decide +kernel) | decide +kernel)
    (hl : (p'.line == pos'.line) = true := by rfl) (ha : (scope.names.any fun (m, k) => m == n && (k == .local || k == .cell)) = false := by decide +kernel) (hs : ∀ env x, foldedSetIterable iter env x = pure x := by intro _ _; rfl) :
    XSs S (.Assign [.Name n p'] (.ListComp elt [⟨tg, iter, [], 0⟩] scope pos') pos :: rest) env D := by
  obtain ⟨wi, g, tt, te, pi, pg, ptt, pte, q⟩ := h
  refine xss_of (fun W => ⟨tAsg (tLc wi g tt te (own.map (·.2))) (gName i), fun X C => ps_setLc (C.dyn.calm.trans hc) (by rw [C.dyn.N]; exact hN) (by rw [C.dyn.N]; exact hn) (by rw [C.dyn.sc]; exact hnl)
    (sw_true (by rw [C.dyn.sc]; exact hk) (by rw [C.dyn.sc]; exact hnl) hl ha) (pi X C.dyn) (by rw [C.dyn.N, C.dyn.sc]; exact blkOk_by ok) (fun s H C' cl fp => pg _ (C.dyn.blk scope s H C' cl fp)) (fun s H C' cl fp => ptt _ (C.dyn.blk scope s H C' cl fp))
    (fun s H C' cl fp => pte _ (C.dyn.blk scope s H C' cl fp)) (hs _), fun u ru B w0 w σ D' sat l => ?_⟩) k
  exact q B w0 w σ sat (fun x H1 => u D' (σ.set i (some x)) H1) fun r ps w1 hr g1 h1 h2 ok nd hp => ru B w0 w1 _ D' (sat.ownM hi hr g1 h1 h2 ok nd hp) l
end
end Fw


namespace Fw
open PySem PySem.Spec L2 Emb
section
variable {K : PySem.W.Frag} {B : List Addr} {w0 : Bs} {w : Wl} {σ : L2.St} {env : Evm} {i : Nat} {rows : List (List PyData)} {ps : List Addr} {r0 : Addr}
theorem Sat.ptr {p : Addr} (h : Sat K B w0 w σ env) (hi : i < env.length) : Sat K B w0 w (σ.set i (some (.ref p))) (env.set i (.ptr p)) :=
  let ⟨_, f⟩ := h.f; (f.put (e := .ptr p) hi (fp := []) ⟨rfl, rfl⟩ (fun _ ha => nomatch ha)).sat
/-- the same own thing, told otherwise -/
theorem Sat.tell {o o' : OD} (sat : Sat K B w0 w σ env) (h : env[i]? = some (.own o)) (key : ∀ v fp, σ[i]? = some (some v) → OwnOk K w v o fp → OwnOk K w v o' fp) : Sat K B w0 w σ (env.set i (.own o')) := by
  obtain ⟨fps, f⟩ := sat.f
  have hi : i < env.length := (List.getElem?_eq_some_iff.mp h).1
  have c := f.sl i
  have e0 : env.getD i .junk = .own o := by rw [List.getD_eq_getElem?_getD, h]; rfl
  rw [e0] at c
  obtain ⟨nd, ha, v, ev, ok⟩ := c
  have hl : i < σ.length := by rw [f.len]; exact hi
  have ev' : σ[i]? = some (some v) := by
    rw [List.getD_eq_getElem?_getD, List.getElem?_eq_getElem hl] at ev
    rw [List.getElem?_eq_getElem hl]
    exact congrArg some ev
  have hσ : σ.set i (some v) = σ := by
    rw [List.getElem?_eq_getElem hl] at ev'
    injection ev' with ev'
    rw [← ev']
    exact List.set_getElem_self hl
  rw [← hσ]
  exact (f.put (e := .own o') (fp := fps i) hi ⟨nd, ha, v, rfl, key v _ ev' ok⟩ (fun a ha j hj => f.dj i j a (fun z => hj z.symm) ha)).sat
theorem Sat.openM (sat : Sat K B w0 w σ env) (h : env[i]? = some (.own (.mat rows))) : ∃ (r : Addr) (ps : List Addr), ps.length = rows.length ∧ Sat K B w0 w σ (env.set i (.own (.matA r ps rows))) := by
  obtain ⟨v, fp, ev, r, ps, rfl, hfp, hr, ok⟩ := sat.getO (.inl h)
  refine ⟨r, ps, ok.len, sat.tell h fun v' fp' ev' ⟨r', ps', e1, e2, e3, e4⟩ => ?_⟩
  have e0 : v' = .ref r := by rw [ev] at ev'; injection ev' with e; injection e with e; exact e.symm
  rw [e0] at e1
  injection e1 with e1
  subst e1
  rw [hr] at e3
  injection e3 with e3
  injection e3 with e3
  have e3 := refs_inj e3
  subst e3
  exact ⟨e0, e2, hr, e4⟩
theorem Sat.closeM (sat : Sat K B w0 w σ env) (h : env[i]? = some (.own (.matA r0 ps rows))) : Sat K B w0 w σ (env.set i (.own (.mat rows))) :=
  sat.tell h fun v fp _ ⟨e1, e2, e3, e4⟩ => ⟨r0, ps, e1, e2, e3, e4⟩
/-- the row of p alone is written -/
theorem Sat.wrP {p : Addr} {a : Nat} {vs : List V} {row : List PyData} (sat : Sat K B w0 w σ env) (h : env[i]? = some (.own (.matA r0 ps rows))) (hp : ps[a]? = some p) (rr : RpAll K w.s vs row) :
    ∃ w' : Wl, w'.h = upd w.h p (.lst vs) ∧ w'.s = w.s ∧ Sat K B w0 w' σ (env.set i (.own (.matA r0 ps (rows.set a row)))) :=
  sat.wr (q := p) (u := .lst vs) (o' := .matA r0 ps (rows.set a row)) h fun v' fp' ev' nd ⟨e1, e2, e3, e4⟩ => by
    subst e2
    refine ⟨List.mem_cons_of_mem _ (List.mem_of_getElem? hp), fun w' h1 h2 => ⟨e1, rfl, ?_, RowsOk.wr rr e4 (List.nodup_cons.mp nd).2 hp h1 h2⟩⟩
    rw [h1, upd_ne (fun z => (List.nodup_cons.mp nd).1 (by rw [z]; exact List.mem_of_getElem? hp))]
    exact e3
theorem Sat.getP {p : Addr} (h : Sat K B w0 w σ env) (he : env[i]? = some (.ptr p)) : σ[i]? = some (some (.ref p)) := by
  obtain ⟨a, b, fps, c, _⟩ := h
  have q := c i
  rw [List.getD_eq_getElem?_getD, List.getD_eq_getElem?_getD, he] at q
  obtain ⟨_, e⟩ := q
  have hl : i < σ.length := by rw [b]; exact (List.getElem?_eq_some_iff.mp he).1
  rw [List.getElem?_eq_getElem hl] at e ⊢
  exact congrArg some e
end
section
variable {S : Sc} {env env' : Evm} {D : AE} {st : Stmt} {sts rest : List Stmt} {tg iter e a b cond o : Expr} {es : List Expr} {d x y z : PyData} {pos p p' p2 tpos : Pos} {n na nr : Str} {ds zs : List PyData} {k : Bool} {rows : List (List PyData)} {ps : List Addr} {r0 : Addr}
theorem xss_openM (i : Nat) (k : ∀ (r : Addr) (ps : List Addr), ps.length = rows.length → XSs S sts (env.set i (.own (.matA r ps rows))) D) (h : env[i]? = some (.own (.mat rows)) := by rfl) : XSs S sts env D := fun W => by
  let t : TS := fun D σ H => ∃ q : { q : Addr × List Addr // q.2.length = rows.length }, (Classical.choose (k q.1.1 q.1.2 q.2 W)) D σ H
  refine ⟨t, fun X C => pss_sup fun q => (Classical.choose_spec (k q.1.1 q.1.2 q.2 W)).1 X C, fun B w0 w σ D' sat l => ?_⟩
  obtain ⟨r, ps, hl, sat'⟩ := sat.openM h
  exact ⟨⟨(r, ps), hl⟩, (Classical.choose_spec (k r ps hl W)).2 B w0 w σ D' sat' l⟩
theorem xss_closeM (i : Nat) (k : XSs S sts (env.set i (.own (.mat rows))) D) (h : env[i]? = some (.own (.matA r0 ps rows)) := by rfl) : XSs S sts env D := fun W =>
  let ⟨t, pt, et⟩ := k W
  ⟨t, pt, fun B w0 w σ D' sat l => et B w0 w σ D' (sat.closeM h) l⟩
/-- for a, row in enumerate(rows), the rows written on the way -/
theorem xss_forE {S' R : Type} (r ia ir : Nat) {epos : Pos} {kk : Nat} {N : Nat} (hNp : N = ps.length) (en : S' → Evm) (mr : S' → List (List PyData)) (body : S' → Int → Fr S' R) (s0 : S') (hc : S.calm = true) (hN : S.N.Nodup) (h0 : Le env (en s0)) (hen : ∀ s, (en s)[r]? = some (.own (.matA r0 ps (mr s))))
    (hnr : r ≠ ia ∧ r ≠ ir ∧ ia ≠ ir) (hlen : ∀ s, ia < (en s).length ∧ ir < (en s).length)
    (turn : ∀ i p s, i < ps.length → ps[i]? = some p → forF body ((rng 0 N).take i) s0 = .nx s →
      XSs S sts (((en s).set ia (.dat (.int (i : Int)))).set ir (.ptr p)) { nx := fun ev => ∃ s', body s (i : Int) = .nx s' ∧ Le ev (en s'), ct := fun ev => ∃ s', body s (i : Int) = .nx s' ∧ Le ev (en s'), bk := fun ev => ∃ s', body s (i : Int) = .bk s' ∧ Le ev (en s'), rt := D.rt, ex := D.ex })
    (done : ∀ s, (forF body (rng 0 N) s0 = .nx s ∨ forF body (rng 0 N) s0 = .bk s) → XSs S rest (en s) D)
    (hm : S.mg "enumerate" = none) (hn : S.N[r]? = some n := by rfl) (hv : Vis S.sc n := by first | exact Or.inl rfl | exact Or.inr (Or.inl rfl) | exact Or.inr (Or.inr rfl)) (h1 : (n == ("__debug__" : Str)) = false := by decide) (h2 : (n == ("__classdict__" : Str)) = false := by decide)
    (hsa : Slot S ia na := by first | exact ⟨rfl, .inl rfl⟩ | exact ⟨rfl, .inr rfl⟩) (hsr : Slot S ir nr := by first | exact ⟨rfl, .inl rfl⟩ | exact ⟨rfl, .inr rfl⟩)
    (hg : Glo S "enumerate" := by rfl) (hs1 : ∀ env, starEach [.Name n p'] env = (false, eval (.Name n p') env) :: starEach [] env := by intro _; rfl) (hs : ∀ env x, foldedSetIterable (.Call (.Name "enumerate" p) [.Name n p'] [] epos) env x = pure x := by intro _ _; rfl) {q1 q2 : Pos} :
    XSs S (.For (.Tuple [.Name na q1, .Name nr q2] kk tpos) (.Call (.Name "enumerate" p) [.Name n p'] [] epos) sts [] pos :: rest) env D := by
  subst hNp
  refine xss_cut (fun e => ∃ s, (forF body (rng 0 ps.length) s0 = .nx s ∨ forF body (rng 0 ps.length) s0 = .bk s) ∧ e = en s) ?_ (fun ev ⟨s, h, e⟩ => by subst e; exact done s h)
  intro W
  let I := { q : Nat × Addr × S' // q.1 < ps.length ∧ ps[q.1]? = some q.2.1 ∧ forF body ((rng 0 ps.length).take q.1) s0 = .nx q.2.2 }
  let tb : TS := fun D σ H => ∃ q : I, (Classical.choose ((turn q.1.1 q.1.2.1 q.1.2.2 q.2.1 q.2.2.1 q.2.2.2) W)) D σ H
  have n1 : ∀ X, Ctx S W X → PG X (.Name na q1) (gName ia) := fun X C => pg_name (by rw [C.dyn.N]; exact hN) (by rw [C.dyn.N]; exact hsa.1) (hsa.loc C.dyn) (.inl (C.fn _))
  have n2 : ∀ X, Ctx S W X → PG X (.Name nr q2) (gName ir) := fun X C => pg_name (by rw [C.dyn.N]; exact hN) (by rw [C.dyn.N]; exact hsr.1) (hsr.loc C.dyn) (.inl (C.fn _))
  have pv : ∀ X, Dyn S X → PE X (.Name n p') (tVar r) := fun X C => pe_var (by rw [C.N]; exact hn) (by rw [C.sc]; exact hv) h1 h2
  refine ⟨tFor (iEnum S.K (tCons (tVar r) tNil)) (gTup S.K 2 (gCons (gName ia) (gCons (gName ir) gNil))) tb, fun X C => ps_for C.own (C.dyn.calm.trans hc)
    (by rw [← C.dyn.K]; exact pi_enum (hg.gl C.dyn) (by rw [C.dyn.mg]; exact hm) (pa_cons (pv X C.dyn) pa_nil (hs1 _)) (hs1 _)) (by rw [← C.dyn.K]; exact pg_tup (C.dyn.calm.trans hc) (pgs_cons (n1 X C) (pgs_cons (n2 X C) pgs_nil)))
    (pss_sup fun q => (Classical.choose_spec ((turn q.1.1 q.1.2.1 q.1.2.2 q.2.1 q.2.2.1 q.2.2.2) W)).1 X C) (hs _), ?_⟩
  intro B w0 w σ D' sat l
  have sat1 := sat.weak h0
  obtain ⟨v, fp, ev, rfl, _, hr0, ok0⟩ := sat1.getO (.inl (hen s0))
  refine ⟨.ref r0, ev, r0, ps.map V.ref, rfl, SqL.of hr0, ?_⟩
  refine ⟨fun i m σ H => i + m = ps.length ∧ ∃ (w : Wl) (s : S'), w.h = H ∧ Sat S.K B w0 w σ (en s) ∧ forF body ((rng 0 ps.length).take i) s0 = .nx s, ⟨ps.length, by omega, w, s0, rfl, sat1, rfl⟩, ?_⟩
  rintro i m σ H ⟨him, w2, s, rfl, sat2, hist⟩
  obtain ⟨v2, fp2, ev2, rfl, hfp2, hr2, ok2⟩ := sat2.getO (.inl (hen s))
  by_cases hlt : i < ps.length
  · right
    have hpi : ps[i]? = some ps[i] := List.getElem?_eq_getElem hlt
    have hri : (ps.map V.ref)[i]? = some (.ref ps[i]) := by rw [List.getElem?_map, hpi]; rfl
    refine ⟨⟨_, _, SqL.of hr2, hri⟩, fun σ' H' => i + 1 + (m - 1) = ps.length ∧ ∃ (w : Wl) (s : S'), w.h = H' ∧ Sat S.K B w0 w σ' (en s) ∧ forF body ((rng 0 ps.length).take (i + 1)) s0 = .nx s, fun σ' H' h => ⟨m - 1, by omega, h⟩, ?_⟩
    intro x H' hx
    obtain ⟨T, y, rfl, hT, rfl, hy⟩ := hx
    have hy := hy _ (SqL.of hr2)
    rw [hri] at hy
    injection hy with hy
    subst hy
    have g3 : Grow [] w2 (w2.new T (.tup [.int (i : Int), .ref ps[i]]) hT) := grow_new hT
    have sat3 := sat2.mono g3
    obtain ⟨hla, hlr⟩ := hlen s
    refine ⟨T, _, rfl, Or.inl (Or.inl upd_same), rfl, _, _, rfl, _, _, rfl, rfl, ?_⟩
    have sat4 := (sat3.dat (v := .int (i : Int)) hla (.int (i : Int))).ptr (p := ps[i]) (i := ir) (by rw [List.length_set]; exact hlr)
    have hxi : (rng 0 ps.length)[i]? = some (i : Int) := by rw [rng_get hlt]; rw [Int.zero_add]
    refine ⟨⟨(i, ps[i], s), hlt, hpi, hist⟩, ?_⟩
    refine (Classical.choose_spec (turn i ps[i] s hlt hpi hist W)).2 B w0 _ _ _ sat4 ⟨?_, ?_, ?_, ?_, ?_⟩
    · rintro ev w4 σ4 ⟨s', hb', le⟩ sat4
      exact ⟨by omega, w4, s', rfl, sat4.weak le, (forF_step hxi hist).trans hb'⟩
    · rintro ev w4 σ4 ⟨s', hb', le⟩ sat4
      exact l.nx _ _ _ ⟨s', .inr (forF_bk hxi hist hb'), rfl⟩ (sat4.weak le)
    · rintro ev w4 σ4 ⟨s', hb', le⟩ sat4
      exact ⟨by omega, w4, s', rfl, sat4.weak le, (forF_step hxi hist).trans hb'⟩
    · intro ev d v w4 σ4 h sat4 r
      exact l.rt ev d v w4 σ4 h sat4 r
    · intro ev e cls d w4 σ4 h sat4 r
      exact l.ex ev e cls d w4 σ4 h sat4 r
  · left
    have hm0 : i = ps.length := by omega
    subst hm0
    have : (rng 0 ps.length).take ps.length = rng 0 ps.length := List.take_of_length_le (by rw [rng_len]; exact Nat.le_refl _)
    rw [this] at hist
    exact ⟨⟨_, SqL.of hr2, by rw [List.length_map]; exact Nat.le_refl _⟩, l.nx _ _ _ ⟨s, .inl hist, rfl⟩ sat2⟩
/-- row[k] = e, row the alias of a row of rows -/
theorem xss_setP (r ir : Nat) {p : Addr} {a : Nat} {row : List PyData} {be : Expr} {bx : Int} (hp : ps[a]? = some p) (hr : rows[a]? = some row) (hb : 0 ≤ bx ∧ bx < row.length) (he : XE S e env d) (hbe : XE S be env (.int bx))
    (k : XSs S rest (env.set r (.own (.matA r0 ps (rows.set a (row.set bx.toNat d))))) D) (h : env[r]? = some (.own (.matA r0 ps rows)) := by rfl) (hir : env[ir]? = some (.ptr p) := by rfl) (hn : S.N[ir]? = some n := by rfl)
    (hv : Vis S.sc n := by first | exact Or.inl rfl | exact Or.inr (Or.inl rfl) | exact Or.inr (Or.inr rfl)) (h1 : (n == ("__debug__" : Str)) = false := by decide) (h2 : (n == ("__classdict__" : Str)) = false := by decide)
    (hs : ∀ env, swapsWithSole [.Subscript (.Name n p') be p2] e pos.line env = pure false := by intro _; rfl) (hw : ∀ env, swappedStores [.Subscript (.Name n p') be p2] e env = pure none := by intro _; rfl) (ha1 : ∀ env, List.map (·.2) (assignEach [.Subscript (.Name n p') be p2] env) = [assign (.Subscript (.Name n p') be p2) env] := by intro _; rfl)
    (ha : ∀ (X : Cx) v, assign (.Subscript (.Name n p') be p2) X.env v = (do
      let ov ← holding [v] (eval (.Name n p') X.env)
      let iv ← holding [v, ov] (eval be X.env)
      standAt p2
      holding [v, ov, iv] (setItem ov iv v)
      release [v, ov, iv] []) := by intro _ _; rfl) :
    XSs S (.Assign [.Subscript (.Name n p') be p2] e pos :: rest) env D := by
  obtain ⟨t, pt, et⟩ := he
  obtain ⟨tb, ptb, etb⟩ := hbe
  refine xss_of (fun W => ⟨tAsg t (gSub (tVar ir) tb rSetL), fun X C => ps_asg (pt X C.dyn) (pg_sub (pe_var (by rw [C.dyn.N]; exact hn) (by rw [C.dyn.sc]; exact hv) h1 h2) (ptb X C.dyn) set_list (ha X)) (hs _) (hw _) (ha1 _), fun u ru B w0 w σ D' sat l => ?_⟩) k
  refine et B w0 w σ sat _ fun v w1 g1 r1 => ?_
  have sat1 := sat.mono g1
  refine ⟨.ref p, sat1.getP hir, ?_⟩
  refine etb B w0 w1 σ sat1 _ fun v2 w2 g2 r2 => ?_
  cases r2
  have sat2 := sat1.mono g2
  obtain ⟨v', fp', ev', e1, e2, e3, ok⟩ := sat2.getO (.inl h)
  obtain ⟨q, vs, hq1, hq2, hq3⟩ := ok.get hr
  rw [hp] at hq1
  injection hq1 with hq1
  subst hq1
  obtain ⟨w3, e4, e5, sat3⟩ := sat2.wrP h hp (hq3.set bx.toNat (r1.mono g2.s))
  refine ⟨p, vs, bx, bx.toNat, rfl, rfl, hq2, ?_, ?_⟩
  · unfold ixN
    rw [if_pos hb.1, if_pos (by rw [hq3.length]; exact hb.2)]
  rw [← e4]
  exact ru B w0 w3 σ D' sat3 l
/-- the row's items, for a flat value -/
theorem xe_tmpP (r ir : Nat) {p : Addr} {a : Nat} {row : List PyData} (hp : ps[a]? = some p) (hr : rows[a]? = some row) (he : XE S e ((env.set r (.dat (.list (rows.map PyData.list)))).set ir (.dat (.list row))) d) (hd : flatD d = true := by rfl)
    (h : env[r]? = some (.own (.matA r0 ps rows)) := by rfl) (hir : env[ir]? = some (.ptr p) := by rfl) (hne : ir ≠ r := by decide) : XE S e env d := by
  obtain ⟨t, pt, et⟩ := he
  refine ⟨t, pt, fun B w0 w σ sat Q q => ?_⟩
  obtain ⟨v', fp', ev', e1, e2', e3, ok⟩ := sat.getO (.inl h)
  have hrl : r < env.length := (List.getElem?_eq_some_iff.mp h).1
  have hgm : (env.set r (.own (.mat rows)))[r]? = some (.own (.mat rows)) := by rw [List.getElem?_set, if_pos rfl, if_pos hrl]
  have key : ∃ w' : Wl, w'.h = w.h ∧ Ex w.s w'.s ∧ Sat S.K B w0 w' σ (env.set r (.dat (.list (rows.map PyData.list)))) := by
    obtain ⟨w', a, b, c⟩ := (sat.closeM h).frzM (rows := rows) (i := r) hgm
    rw [List.set_set] at c
    exact ⟨w', a, b, c⟩
  obtain ⟨w', e1, e2, sat'⟩ := key
  have hpg : ∃ v, σ[ir]? = some (some v) ∧ Rp S.K w'.s v (.list row) := by
    obtain ⟨v0, hv0, rv0⟩ := sat'.get (i := r) (d := .list (rows.map PyData.list)) (by
      rw [List.getElem?_set, if_pos rfl]
      exact if_pos (List.getElem?_eq_some_iff.mp h).1)
    rw [ev'] at hv0
    injection hv0 with hv0
    injection hv0 with hv0
    subst hv0
    rename_i e1'
    rw [e1'] at rv0
    cases rv0 with
    | lst hl ht =>
      have hl' := w'.le _ _ hl
      rw [e1, e3] at hl'
      injection hl' with hl'
      injection hl' with hl'
      rw [← hl'] at ht
      obtain ⟨v, hv, rv⟩ := ht.get (i := a) (d := .list row) (by rw [List.getElem?_map, hr]; rfl)
      rw [List.getElem?_map, hp] at hv
      injection hv with hv
      exact ⟨.ref p, sat.getP hir, hv ▸ rv⟩
  obtain ⟨v, ev, rv⟩ := hpg
  have hil : ir < env.length := (List.getElem?_eq_some_iff.mp hir).1
  have sat2 := sat'.dat (i := ir) (by rw [List.length_set]; exact hil) rv
  have hσ : σ.set ir (some v) = σ := by
    have hl : ir < σ.length := by rw [sat.len]; exact hil
    rw [List.getElem?_eq_getElem hl] at ev
    injection ev with ev
    rw [← ev]
    exact List.set_getElem_self hl
  rw [hσ] at sat2
  rw [← e1]
  refine et B w0 w' σ sat2 _ fun v w2 g2 r2 => ?_
  refine q v ⟨w.s, w2.h, fun a o ea => exh g2 a o (by rw [e1]; exact w.le a o ea)⟩ ⟨fun a o _ ea => exh g2 a o (by rw [e1]; exact ea), Ex.refl _, fun _ _ e => e, fun a ea => g2.dom a (by rw [e1]; exact ea)⟩ ?_
  cases r2 with
  | non => exact .non
  | bl b => exact .bl b
  | int b => exact .int b
  | str b => exact .str b
  | _ => cases hd
end
end Fw


namespace Fw
open PySem PySem.Spec L2 Emb
/-! ## typed forms -/
def embM {α : Type} [Emb α] (v : List (List α)) : List (List PyData) := v.map (·.map emb)
theorem embM_list {α : Type} [Emb α] (v : List (List α)) : (embM v).map PyData.list = v.map emb := by
  unfold embM
  rw [List.map_map]; rfl
def mRow {α : Type} (v : List (List α)) (a : Int) : List α := v[a.toNat]?.getD []
theorem mRow_get {α : Type} {v : List (List α)} {a : Int} (h : 0 ≤ a ∧ a < v.length) : v[a.toNat]? = some (mRow v a) := by
  unfold mRow
  rw [List.getElem?_eq_getElem (by omega)]; rfl
section
variable {S : Sc} {env env' : Evm} {D : AE} {st : Stmt} {sts rest : List Stmt} {tg iter e a b cond o : Expr} {es : List Expr} {d z : PyData} {pos p p' p2 tpos : Pos} {n na nr : Str} {k : Bool} {α β : Type} [Emb α] [Emb β] {ps : List Addr} {r0 : Addr}
theorem xss_setiE {v xs : List α} {x : α} {ie : Expr} {ix : Int} (hv' : v = setI xs ix x) (i : Nat) (hx : -(xs.length : Int) ≤ ix ∧ ix < xs.length) (he : XE S e env (emb x)) (hi : XE S ie env (.int ix)) (k : XSs S rest (env.set i (.own (.lst (v.map emb)))) D) (h : env[i]? = some (.own (.lst (xs.map emb))) := by rfl) (hn : S.N[i]? = some n := by rfl)
    (hv : Vis S.sc n := by first | exact Or.inl rfl | exact Or.inr (Or.inl rfl) | exact Or.inr (Or.inr rfl)) (h1 : (n == ("__debug__" : Str)) = false := by decide) (h2 : (n == ("__classdict__" : Str)) = false := by decide)
    (hs : ∀ env, swapsWithSole [.Subscript (.Name n p') ie p] e pos.line env = pure false := by intro _; rfl) (hw : ∀ env, swappedStores [.Subscript (.Name n p') ie p] e env = pure none := by intro _; rfl) (ha1 : ∀ env, List.map (·.2) (assignEach [.Subscript (.Name n p') ie p] env) = [assign (.Subscript (.Name n p') ie p) env] := by intro _; rfl)
    (ha : ∀ (X : Cx) v, assign (.Subscript (.Name n p') ie p) X.env v = (do
      let ov ← holding [v] (eval (.Name n p') X.env)
      let iv ← holding [v, ov] (eval ie X.env)
      standAt p
      holding [v, ov, iv] (setItem ov iv v)
      release [v, ov, iv] []) := by intro _ _; rfl) :
    XSs S (.Assign [.Subscript (.Name n p') ie p] e pos :: rest) env D := by
  subst hv'
  rw [setI_map] at k
  exact xss_seti i (by rw [List.length_map]; exact hx) he hi k h hn hv h1 h2 hs hw ha1 ha
theorem xss_addiE {v xs : List Int} {ie : Expr} {ix j : Int} (hv' : v = setI xs ix (getI xs ix + j)) (i : Nat) (hx : 0 ≤ ix ∧ ix < xs.length) (hi : XE S ie env (.int ix)) (he : XE S e env (.int j)) (k : XSs S rest (env.set i (.own (.lst (v.map emb)))) D) (h : env[i]? = some (.own (.lst (xs.map emb))) := by rfl) (hn : S.N[i]? = some n := by rfl)
    (hv : Vis S.sc n := by first | exact Or.inl rfl | exact Or.inr (Or.inl rfl) | exact Or.inr (Or.inr rfl)) (h1 : (n == ("__debug__" : Str)) = false := by decide) (h2 : (n == ("__classdict__" : Str)) = false := by decide)
    (ha : ∀ ov iv new, augStore ie ov iv new = (do holding [new, ov, iv] (setItem ov iv new); release [new, ov, iv] []; pure .next) := by intros; rfl) :
    XSs S (.AugAssign (.Subscript (.Name n p') ie p) .Add e pos :: rest) env D := by
  subst hv'
  exact xss_augi i (f := fun i j => i + j) (fun _ _ => ip_add) hx rfl hi he k h hn hv h1 h2 ha
theorem xss_subiE {v xs : List Int} {ie : Expr} {ix j : Int} (hv' : v = setI xs ix (getI xs ix - j)) (i : Nat) (hx : 0 ≤ ix ∧ ix < xs.length) (hi : XE S ie env (.int ix)) (he : XE S e env (.int j)) (k : XSs S rest (env.set i (.own (.lst (v.map emb)))) D) (h : env[i]? = some (.own (.lst (xs.map emb))) := by rfl) (hn : S.N[i]? = some n := by rfl)
    (hv : Vis S.sc n := by first | exact Or.inl rfl | exact Or.inr (Or.inl rfl) | exact Or.inr (Or.inr rfl)) (h1 : (n == ("__debug__" : Str)) = false := by decide) (h2 : (n == ("__classdict__" : Str)) = false := by decide)
    (ha : ∀ ov iv new, augStore ie ov iv new = (do holding [new, ov, iv] (setItem ov iv new); release [new, ov, iv] []; pure .next) := by intros; rfl) :
    XSs S (.AugAssign (.Subscript (.Name n p') ie p) .Sub e pos :: rest) env D := by
  subst hv'
  exact xss_augi i (f := fun i j => i - j) (fun _ _ => ip_sub) hx rfl hi he k h hn hv h1 h2 ha
theorem xss_setME {v rows : List (List α)} {x : α} {ae be : Expr} {ax bx : Int} (hv' : v = setM rows ax bx x) (i : Nat) (hx : 0 ≤ ax ∧ ax < rows.length) (hb : 0 ≤ bx ∧ bx < (mRow rows ax).length) (he : XE S e env (emb x)) (hae : XE S ae env (.int ax)) (hbe : XE S be env (.int bx))
    (k : XSs S rest (env.set i (.own (.mat (embM v)))) D) (h : env[i]? = some (.own (.mat (embM rows))) := by rfl) (hn : S.N[i]? = some n := by rfl)
    (hv : Vis S.sc n := by first | exact Or.inl rfl | exact Or.inr (Or.inl rfl) | exact Or.inr (Or.inr rfl)) (h1 : (n == ("__debug__" : Str)) = false := by decide) (h2 : (n == ("__classdict__" : Str)) = false := by decide) (hpl : PlainIx ae := by intro _ _; rfl)
    (hs : ∀ env, swapsWithSole [.Subscript (.Subscript (.Name n p') ae p2) be p] e pos.line env = pure false := by intro _; rfl) (hw : ∀ env, swappedStores [.Subscript (.Subscript (.Name n p') ae p2) be p] e env = pure none := by intro _; rfl)
    (ha1 : ∀ env, List.map (·.2) (assignEach [.Subscript (.Subscript (.Name n p') ae p2) be p] env) = [assign (.Subscript (.Subscript (.Name n p') ae p2) be p) env] := by intro _; rfl)
    (ha : ∀ (X : Cx) v, assign (.Subscript (.Subscript (.Name n p') ae p2) be p) X.env v = (do
      let ov ← holding [v] (eval (.Subscript (.Name n p') ae p2) X.env)
      let iv ← holding [v, ov] (eval be X.env)
      standAt p
      holding [v, ov, iv] (setItem ov iv v)
      release [v, ov, iv] []) := by intro _ _; rfl) :
    XSs S (.Assign [.Subscript (.Subscript (.Name n p') ae p2) be p] e pos :: rest) env D := by
  subst hv'
  unfold embM at k h
  rw [setM_map] at k
  exact xss_setM i (row := (mRow rows ax).map emb) hx.1 (by rw [List.getElem?_map, mRow_get hx]; rfl) (by rw [List.length_map]; exact hb) he hae hbe k h hn hv h1 h2 hpl hs hw ha1 ha
theorem xss_addME {v rows : List (List Int)} {j : Int} {ae be : Expr} {ax bx : Int} (hv' : v = setM rows ax bx (getI (mRow rows ax) bx + j)) (i : Nat) (hx : 0 ≤ ax ∧ ax < rows.length) (hb : 0 ≤ bx ∧ bx < (mRow rows ax).length) (hae : XE S ae env (.int ax)) (hbe : XE S be env (.int bx)) (he : XE S e env (.int j))
    (k : XSs S rest (env.set i (.own (.mat (embM v)))) D) (h : env[i]? = some (.own (.mat (embM rows))) := by rfl) (hn : S.N[i]? = some n := by rfl)
    (hv : Vis S.sc n := by first | exact Or.inl rfl | exact Or.inr (Or.inl rfl) | exact Or.inr (Or.inr rfl)) (h1 : (n == ("__debug__" : Str)) = false := by decide) (h2 : (n == ("__classdict__" : Str)) = false := by decide) (hpl : PlainIx ae := by intro _ _; rfl)
    (ha : ∀ ov iv new, augStore be ov iv new = (do holding [new, ov, iv] (setItem ov iv new); release [new, ov, iv] []; pure .next) := by intros; rfl) :
    XSs S (.AugAssign (.Subscript (.Subscript (.Name n p') ae p2) be p) .Add e pos :: rest) env D := by
  subst hv'
  exact xss_augM i (f := fun i j => i + j) (fun _ _ => ip_add) hx.1 (mRow_get hx) hb rfl hae hbe he k h hn hv h1 h2 hpl ha
theorem xss_frzME (i : Nat) {v : List (List α)} (k : XSs S sts (env.set i (.dat (emb v))) D) (h : env[i]? = some (.own (.mat (embM v))) := by rfl) : XSs S sts env D :=
  xss_frzM i (by rw [embM_list]; exact k) h
theorem xe_tmpME (i : Nat) {v : List (List α)} (he : XE S e (env.set i (.dat (emb v))) d) (hd : flatD d = true := by rfl) (h : env[i]? = some (.own (.mat (embM v))) := by rfl) : XE S e env d :=
  xe_tmpM i (by rw [embM_list]; exact he) hd h
theorem xss_setLmE {elt : Expr} {scope : Scope} {pos' : Pos} {v w : List (List α)} (hv : v = w) (i : Nat) (own : List (Str × Nat)) (h : XLm S elt tg iter scope own env (embM w)) (hc : S.calm = true) (hN : S.N.Nodup) (k : XSs S rest (env.set i (.own (.mat (embM v)))) D) (hi : i < env.length := by exact Nat.le_of_ble_eq_true rfl)
    (hk : S.sc.kind = .function := by rfl) (hn : S.N[i]? = some n := by rfl) (hnl : S.sc.names.lookup n = some .local := by rfl) (ok : blkC S.N S.sc scope own = true := by first | (dsimp only; decide +kernel) | decide +kernel)
    (hl : (p'.line == pos'.line) = true := by rfl) (ha : (scope.names.any fun (m, k) => m == n && (k == .local || k == .cell)) = false := by decide +kernel) (hs : ∀ env x, foldedSetIterable iter env x = pure x := by intro _ _; rfl) :
    XSs S (.Assign [.Name n p'] (.ListComp elt [⟨tg, iter, [], 0⟩] scope pos') pos :: rest) env D := by
  subst hv; exact xss_setLm i own h hc hN k hi hk hn hnl ok hl ha hs
theorem xlmE {γ : Type} {scope : Scope} {own : List (Str × Nat)} {ts : List Nat} {F : PyData → Evm → Evm} {P : Evm → PyData → Prop} {elt : Expr} (e : γ → PyData) (f : γ → List α) {xs : List γ} (hi : XI S tg iter env (xs.map e)) (hc : S.calm = true) (hN : S.N.Nodup) (hl : xs.length ≤ sizeLine)
    (hg : XG (S.blk scope) tg ts F P) (hts : ∀ j ∈ ts, j ∈ own.map (·.2)) (hP : ∀ x ∈ xs, P (wipeE env (own.map (·.2))) (e x))
    (he : ∀ x ∈ xs, XN (S.blk scope) elt (F (e x) (wipeE env (own.map (·.2)))) ((f x).map emb)) : XLm S elt tg iter scope own env (embM (xs.map f)) := by
  have h := xlm e (fun x => (f x).map emb) hi hc hN hl hg hts hP he
  unfold embM
  rw [List.map_map]
  exact h
theorem xss_setPE (r ir : Nat) {v rows : List (List α)} {q : Addr} {a : Nat} {x : α} {be : Expr} {bx : Int} (hv' : v = setM rows (a : Int) bx x) (hp : ps[a]? = some q) (ha' : a < rows.length) (hb : 0 ≤ bx ∧ bx < (mRow rows (a : Int)).length) (he : XE S e env (emb x)) (hbe : XE S be env (.int bx))
    (k : XSs S rest (env.set r (.own (.matA r0 ps (embM v)))) D) (h : env[r]? = some (.own (.matA r0 ps (embM rows))) := by rfl) (hir : env[ir]? = some (.ptr q) := by rfl) (hn : S.N[ir]? = some n := by rfl)
    (hv : Vis S.sc n := by first | exact Or.inl rfl | exact Or.inr (Or.inl rfl) | exact Or.inr (Or.inr rfl)) (h1 : (n == ("__debug__" : Str)) = false := by decide) (h2 : (n == ("__classdict__" : Str)) = false := by decide)
    (hs : ∀ env, swapsWithSole [.Subscript (.Name n p') be p2] e pos.line env = pure false := by intro _; rfl) (hw : ∀ env, swappedStores [.Subscript (.Name n p') be p2] e env = pure none := by intro _; rfl) (ha1 : ∀ env, List.map (·.2) (assignEach [.Subscript (.Name n p') be p2] env) = [assign (.Subscript (.Name n p') be p2) env] := by intro _; rfl)
    (ha : ∀ (X : Cx) v, assign (.Subscript (.Name n p') be p2) X.env v = (do
      let ov ← holding [v] (eval (.Name n p') X.env)
      let iv ← holding [v, ov] (eval be X.env)
      standAt p2
      holding [v, ov, iv] (setItem ov iv v)
      release [v, ov, iv] []) := by intro _ _; rfl) :
    XSs S (.Assign [.Subscript (.Name n p') be p2] e pos :: rest) env D := by
  subst hv'
  have hg : rows[a]? = some (mRow rows (a : Int)) := mRow_get (a := (a : Int)) ⟨by omega, by omega⟩
  refine xss_setP r ir (row := (mRow rows (a : Int)).map emb) hp (by unfold embM; rw [List.getElem?_map, hg]; rfl) (by rw [List.length_map]; exact hb) he hbe ?_ h hir hn hv h1 h2 hs hw ha1 ha
  have e1 : embM (setM rows (a : Int) bx x) = (embM rows).set a (((mRow rows (a : Int)).map emb).set bx.toNat (emb x)) := by
    unfold embM setM
    rw [List.map_set, List.map_set]
    rfl
  rw [← e1]
  exact k
theorem xe_tmpPE (r ir : Nat) {rows : List (List α)} {q : Addr} {a : Nat} (hp : ps[a]? = some q) (ha' : a < rows.length) (he : XE S e ((env.set r (.dat (emb rows))).set ir (.dat (emb (mRow rows (a : Int))))) d) (hd : flatD d = true := by rfl)
    (h : env[r]? = some (.own (.matA r0 ps (embM rows))) := by rfl) (hir : env[ir]? = some (.ptr q) := by rfl) (hne : ir ≠ r := by decide) : XE S e env d := by
  have hg : rows[a]? = some (mRow rows (a : Int)) := mRow_get (a := (a : Int)) ⟨by omega, by omega⟩
  refine xe_tmpP r ir (row := (mRow rows (a : Int)).map emb) hp (by unfold embM; rw [List.getElem?_map, hg]; rfl) ?_ hd h hir hne
  rw [embM_list]
  exact he
/-! list.index of ints -/
def idxI (xs : List Int) (y : Int) : Int := (xs.findIdx (· == y) : Nat)
theorem rm_index {K : PySem.W.Frag} {xs : List Int} {y : Int} (h : y ∈ xs) : RM K (rIndex K) (.list (xs.map PyData.int)) [.int y] (.int (idxI xs y)) := fun w u us r1 r2 Q q => by
  obtain ⟨v, rfl, r3⟩ := rpA1 r2
  cases r3
  obtain ⟨a, vs, rfl, ha, t⟩ := rp_list r1
  have hvs := RpAll.of_ints t
  subst hvs
  have hlt : xs.findIdx (· == y) < xs.length := List.findIdx_lt_length_of_exists ⟨y, h, beq_self_eq_true y⟩
  have hp := List.findIdx_getElem (w := hlt)
  refine ⟨a, xs.map V.int, .int y, xs.findIdx (· == y), .int xs[xs.findIdx (· == y)], rfl, rfl, SqL.of (w.le _ _ ha), rfl, ?_, by rw [List.getElem?_map, List.getElem?_eq_getElem hlt]; rfl, ?_, fun m z' hm hz => ?_, q _ w (Grow.refl _ _) (.int _)⟩
  · rw [List.all_eq_true]
    intro x hx
    obtain ⟨i, _, rfl⟩ := List.mem_map.mp hx
    rfl
  · show (xs[xs.findIdx (· == y)] == y) = true
    exact hp
  · rw [List.getElem?_map, List.getElem?_eq_getElem (by omega)] at hz
    injection hz with hz
    subst hz
    show (xs[m] == y) = false
    exact List.not_of_lt_findIdx hm
theorem xe_index {apos : Pos} {xs : List Int} {y : Int} (h : y ∈ xs) (ho : XE S o env (emb xs)) (ha : XE S a env (.int y)) (hbase : ∀ env, attributeBase o "index" env (eval o env) = eval o env := by intro _; rfl) (hline : (apos.endLine == pos.line) = true := by rfl)
    (hs : ∀ env, starEach (a :: []) env = (false, eval a env) :: starEach [] env := by intro _; rfl)
    (hfew : ∀ env, ((backTo pos (starEach (a :: []) env)).all (fun x => !x.1) && (backToKw pos (keywordEach [] env)).all (fun x => x.1.isSome)
      && decide ((a :: []).length + ([] : List Keyword).length + (if ([] : List Keyword).isEmpty then 0 else 1) < 30)) = true := by intro _; rfl) :
    XE S (.Call (.Attribute o "index" apos) [a] [] pos) env (.int (idxI xs y)) :=
  xe_bm PySem.F.plainAttrs_list PySem.F.slot_list_index PySem.F.type_list_index (fun _ D => by rw [← D.K]; exact mt_index) rfl trivial (rm_index h) ho (xa_cons ha xa_nil hs) hbase hfew hline hs (by intro _; rfl)
/-- a branch that is never taken -/
theorem xss_dead {c : Expr} {b1 b2 : List Stmt} (ht : XT S c env k) (hk : k = false) (k2 : XSs S b2 env { D with nx := fun e => XSs S rest e D }) : XSs S (.If c b1 b2 pos :: rest) env D :=
  xss_if ht (fun h => by rw [hk] at h; cases h) (fun _ => k2)
end
end Fw


namespace Fw
open PySem PySem.Spec L2 Emb
/-! ## what may be None; one kind or another -/
instance {α : Type} [Inhabited α] : Inhabited (T1 α) := ⟨⟨default⟩⟩
instance {α β : Type} [Inhabited α] [Inhabited β] : Inhabited (T2 α β) := ⟨⟨default, default⟩⟩
instance {α β γ : Type} [Inhabited α] [Inhabited β] [Inhabited γ] : Inhabited (T3 α β γ) := ⟨⟨default, default, default⟩⟩
instance {α β γ δ : Type} [Inhabited α] [Inhabited β] [Inhabited γ] [Inhabited δ] : Inhabited (T4 α β γ δ) := ⟨⟨default, default, default, default⟩⟩
instance {α β γ δ ε : Type} [Inhabited α] [Inhabited β] [Inhabited γ] [Inhabited δ] [Inhabited ε] : Inhabited (T5 α β γ δ ε) := ⟨⟨default, default, default, default, default⟩⟩
instance {α β : Type} [Emb α] [Emb β] : Emb (Sum α β) := ⟨fun u => match u with | .inl x => emb x | .inr y => emb y⟩
def og {α : Type} [Inhabited α] (o : Option α) : α := o.getD default
theorem og_eq {α : Type} [Inhabited α] {o : Option α} (h : o.isSome = true) : o = some (og o) := by
  cases o with
  | none => cases h
  | some x => rfl
theorem og_emb {α : Type} [Inhabited α] [Emb α] {o : Option α} (h : o.isSome = true) : emb o = emb (og o) := by
  cases o with
  | none => cases h
  | some x => rfl
def ul {α β : Type} [Inhabited α] (u : Sum α β) : α := match u with | .inl x => x | .inr _ => default
def ur {α β : Type} [Inhabited β] (u : Sum α β) : β := match u with | .inr x => x | .inl _ => default
theorem ul_emb {α β : Type} [Inhabited α] [Emb α] [Emb β] {u : Sum α β} (h : u.isLeft = true) : emb u = emb (ul u) := by
  cases u with
  | inl x => rfl
  | inr x => cases h
theorem ur_emb {α β : Type} [Inhabited β] [Emb α] [Emb β] {u : Sum α β} (h : u.isRight = true) : emb u = emb (ur u) := by
  cases u with
  | inl x => cases h
  | inr x => rfl
section
variable {S : Sc} {env env' : Evm} {D : AE} {a b : Expr} {d z : PyData} {pos p p' p2 : Pos} {i : Int} {ds : List PyData} {α β : Type} [Emb α] [Emb β]
theorem kit_c {d : PyData} {t : String} {n : String} {k : Bool} (h : tyD d = t) (h2 : kitB t n = some k) : kitB (tyD d) n = some k := by rw [h]; exact h2
theorem isN_opt [NNone α] (o : Option α) : isN (emb o) = o.isNone := by
  cases o with
  | none => rfl
  | some x =>
    show isN (emb x) = false
    exact NNone.nn x
theorem xe_isNO [NNone α] {o : Option α} {k} {p3 : Pos} (ha : XE S a env (emb o)) : XE S (.Compare a [.Is] [.Constant .none k p3] pos) env (.bool o.isNone) := by
  rw [← isN_opt]; exact xe_isN ha
theorem xe_notNO [NNone α] {o : Option α} {k} {p3 : Pos} (ha : XE S a env (emb o)) : XE S (.Compare a [.IsNot] [.Constant .none k p3] pos) env (.bool o.isSome) := by
  have e : o.isSome = !(isN (emb o)) := by rw [isN_opt]; cases o <;> rfl
  rw [e]; exact xe_notN ha
theorem xt_isNO [NNone α] {o : Option α} {k} {p3 : Pos} (ha : XE S a env (emb o)) : XT S (.Compare a [.Is] [.Constant .none k p3] pos) env o.isNone := by
  rw [← isN_opt]; exact xt_isN ha
theorem xt_notNO [NNone α] {o : Option α} {k} {p3 : Pos} (ha : XE S a env (emb o)) : XT S (.Compare a [.IsNot] [.Constant .none k p3] pos) env o.isSome := by
  have e : o.isSome = !(isN (emb o)) := by rw [isN_opt]; cases o <;> rfl
  rw [e]; exact xt_notN ha
theorem xe_ixU (hd : d = .tuple (itemsD d)) (h : atI (itemsD d) i = some z) (ha : XE S a env d) (hb : XE S b env (.int i)) (hs : PlainIx b := by intro _ _; rfl) : XE S (.Subscript a b pos) env z := by
  rw [hd] at ha
  exact xe_ixT h ha hb hs
end
end Fw


namespace Fw
open PySem PySem.Spec L2 Emb
/-! ## plain maths of lists, loops -/
theorem enumT_get {α : Type} {xs : List α} {i : Nat} {x : T2 Int α} (h : (enumT xs)[i]? = some x) : i < xs.length ∧ x.p0 = (i : Int) ∧ xs[i]? = some x.p1 := by
  unfold enumT at h
  rw [List.getElem?_zipWith] at h
  by_cases c : i < xs.length
  · rw [List.getElem?_range c, List.getElem?_eq_getElem c] at h
    injection h with h
    subst h
    exact ⟨c, rfl, List.getElem?_eq_getElem c⟩
  · rw [List.getElem?_eq_none (by rw [List.length_range]; omega)] at h
    cases h
theorem zipT_get {α β : Type} {xs : List α} {ys : List β} {i : Nat} {x : T2 α β} (h : (zipT xs ys)[i]? = some x) : xs[i]? = some x.p0 ∧ ys[i]? = some x.p1 := by
  unfold zipT at h
  rw [List.getElem?_zipWith] at h
  cases e1 : xs[i]? with
  | none => rw [e1] at h; cases h
  | some a =>
    cases e2 : ys[i]? with
    | none => rw [e1, e2] at h; cases h
    | some b =>
      rw [e1, e2] at h
      injection h with h
      subst h
      exact ⟨rfl, rfl⟩
theorem zipT_mem {α β : Type} {xs : List α} {ys : List β} {x : T2 α β} (h : x ∈ zipT xs ys) : x.p0 ∈ xs ∧ x.p1 ∈ ys := by
  obtain ⟨i, hi⟩ := List.getElem?_of_mem h
  obtain ⟨a, b⟩ := zipT_get hi
  exact ⟨List.mem_of_getElem? a, List.mem_of_getElem? b⟩
theorem foldl_inv {S α : Type} {f : S → α → S} (P : S → Prop) : ∀ (l : List α) (s : S), P s → (∀ s x, x ∈ l → P s → P (f s x)) → P (l.foldl f s)
  | [], _, h, _ => h
  | x :: l, s, h, hs => foldl_inv P l (f s x) (hs s x List.mem_cons_self h) fun s y hy => hs s y (List.mem_cons_of_mem _ hy)
theorem take_inv {S α : Type} {f : S → α → S} {xs : List α} {i : Nat} {s s0 : S} (P : S → Prop) (hist : s = (xs.take i).foldl f s0) (h : P s0) (hs : ∀ s x, x ∈ xs → P s → P (f s x)) : P s := by
  rw [hist]
  exact foldl_inv P _ _ h fun s x hx => hs s x (List.mem_of_mem_take hx)
theorem forF_inv {S R α : Type} {f : S → α → Fr S R} (P : S → Prop) : ∀ (l : List α) (s s' : S), P s → (∀ s x s', x ∈ l → P s → f s x = .nx s' → P s') → forF f l s = .nx s' → P s'
  | [], s, s', h, _, e => by
    injection e with e
    rw [← e]; exact h
  | x :: l, s, s', h, hs, e => by
    have e : (match f s x with | .nx s' => forF f l s' | .rt r => .rt r | .bk s' => .bk s') = .nx s' := e
    cases c : f s x with
    | nx s2 =>
      rw [c] at e
      exact forF_inv P l s2 s' (hs s x s2 List.mem_cons_self h c) (fun s y s' hy => hs s y s' (List.mem_cons_of_mem _ hy)) e
    | rt r => rw [c] at e; cases e
    | bk r => rw [c] at e; cases e
theorem forT_inv {S R α : Type} {f : S → α → Fr S R} {xs : List α} {i : Nat} {s s0 : S} (P : S → Prop) (hist : forF f (xs.take i) s0 = .nx s) (h : P s0) (hs : ∀ s x s', x ∈ xs → P s → f s x = .nx s' → P s') : P s :=
  forF_inv P _ _ _ h (fun s x s' hx => hs s x s' (List.mem_of_mem_take hx)) hist
theorem forF_nx {S R α : Type} {f : S → α → Fr S R} {g : S → α → S} : ∀ (l : List α) (s : S), (∀ s x, x ∈ l → f s x = .nx (g s x)) → forF f l s = .nx (l.foldl g s)
  | [], _, _ => rfl
  | x :: l, s, h => by
    show (match f s x with | .nx s' => forF f l s' | .rt r => .rt r | .bk s' => .bk s') = _
    rw [h s x List.mem_cons_self]
    exact forF_nx l (g s x) fun s y hy => h s y (List.mem_cons_of_mem _ hy)
theorem forF_unit {R α : Type} {f : Unit → α → Fr Unit R} : ∀ {l : List α}, (∀ x ∈ l, f () x = .nx ()) → forF f l () = .nx ()
  | [], _ => rfl
  | x :: l, h => by
    unfold forF
    rw [h x List.mem_cons_self]
    exact forF_unit fun y hy => h y (List.mem_cons_of_mem _ hy)
theorem sIx_in {n d : Nat} {k : Int} (h : 0 ≤ k ∧ k ≤ n) : HT.sIx n d (some k) = k.toNat := by
  show (if k < 0 then (k + (n : Int)).toNat else min k.toNat n) = _
  rw [if_neg (by omega)]
  omega
theorem cut_take {α : Type} (xs : List α) {k : Int} (h : 0 ≤ k ∧ k ≤ xs.length) : cut xs none (some k) = xs.take k.toNat := by
  unfold cut
  rw [sIx_in h, show HT.sIx xs.length 0 none = 0 from rfl, List.drop_zero, Nat.sub_zero]
theorem cut_drop {α : Type} (xs : List α) {k : Int} (h : 0 ≤ k ∧ k ≤ xs.length) : cut xs (some k) none = xs.drop k.toNat := by
  unfold cut
  rw [sIx_in h, show HT.sIx xs.length xs.length none = xs.length from rfl]
  exact List.take_of_length_le (by rw [List.length_drop]; omega)
theorem mem_cut {α : Type} {xs : List α} {l h : Option Int} {x : α} (hx : x ∈ cut xs l h) : x ∈ xs := List.mem_of_mem_drop (List.mem_of_mem_take hx)
theorem mem_down {n : Int} {x : Int} (h : x ∈ rngC (n - 1) (-1) (Int.toNat (n - 1 - -1))) : 0 ≤ x ∧ x < n := by
  obtain ⟨k, hk, rfl⟩ := mem_rngC h
  omega
theorem getI_eq {α : Type} [Inhabited α] (c : List α) (i : Nat) : getI c (i : Int) = (c[i]?).getD default := by
  by_cases h : i < c.length
  · rw [getI_nat c i h, List.getElem?_eq_getElem h]; rfl
  · rw [List.getElem?_eq_none (by omega)]
    unfold getI atI ixN
    rw [if_pos (by omega), if_neg (by omega)]; rfl
theorem getI_setI {α : Type} [Inhabited α] {xs : List α} {i j : Int} {x : α} (h : 0 ≤ i ∧ i < xs.length) (hj : 0 ≤ j ∧ j < xs.length) : getI (setI xs i x) j = if j = i then x else getI xs j := by
  rw [setI_nat xs x h, getI_pos _ hj.1 (by rw [List.length_set]; exact hj.2), getI_pos _ hj.1 hj.2, List.getElem_set]
  by_cases c : j = i
  · rw [if_pos c, if_pos (by rw [c])]
  · rw [if_neg c, if_neg (by omega)]
theorem mRow_setM {α : Type} {rows : List (List α)} {a b a' : Int} {x : α} (h : 0 ≤ a ∧ a < rows.length) (h' : 0 ≤ a' ∧ a' < rows.length) : mRow (setM rows a b x) a' = if a' = a then (mRow rows a).set b.toNat x else mRow rows a' := by
  unfold mRow setM
  rw [List.getElem?_set]
  by_cases c : a' = a
  · rw [if_pos c, if_pos (by rw [c]), if_pos (by omega)]; rfl
  · rw [if_neg c, if_neg (by omega)]
theorem getI_row {rows : List (List Int)} {a : Int} (h : 0 ≤ a ∧ a < rows.length) : getI rows a = mRow rows a := by
  rw [getI_pos _ h.1 h.2]
  unfold mRow
  rw [List.getElem?_eq_getElem (by omega)]; rfl
theorem getI_repl {α : Type} [Inhabited α] [Emb α] (x : α) (n : Int) {i : Int} (h : 0 ≤ i ∧ i < n) : getI (repL [x] n) i = x := by
  rw [repL_one, getI_pos _ h.1 (by rw [List.length_replicate]; omega), List.getElem_replicate]
theorem repL_len {α : Type} [Emb α] (x : α) (n : Int) : (repL [x] n).length = n.toNat := by rw [repL_one, List.length_replicate]
/-- rows of m items -/
def Rect {α : Type} (rows : List (List α)) (n m : Nat) : Prop := rows.length = n ∧ ∀ r ∈ rows, r.length = m
theorem Rect.row {α : Type} {rows : List (List α)} {n m : Nat} (h : Rect rows n m) {a : Int} (ha : 0 ≤ a ∧ a < rows.length) : (mRow rows a).length = m := by
  have := mRow_get (v := rows) ha
  exact h.2 _ (List.mem_of_getElem? this)
theorem Rect.set {α : Type} {rows : List (List α)} {n m : Nat} (h : Rect rows n m) (a b : Int) (x : α) : Rect (setM rows a b x) n m := by
  refine ⟨by rw [setM_len]; exact h.1, fun r hr => ?_⟩
  unfold setM at hr
  by_cases c : a.toNat < rows.length
  · obtain ⟨i, hi, rfl⟩ := List.getElem_of_mem hr
    rw [List.getElem_set]
    split
    · rw [List.length_set, List.getElem?_eq_getElem c]
      exact h.2 _ (List.getElem_mem c)
    · exact h.2 _ (List.getElem_mem _)
  · rw [List.set_eq_of_length_le (by omega)] at hr
    exact h.2 r hr
theorem rect_new {α β : Type} [Emb β] (xs : List α) (x : β) (m : Int) : Rect (xs.map (fun _ => repL [x] m)) xs.length m.toNat := by
  refine ⟨List.length_map .., fun r hr => ?_⟩
  obtain ⟨_, _, rfl⟩ := List.mem_map.mp hr
  exact repL_len x m
end Fw


namespace Fw
open PySem PySem.Spec L2 Emb
/-! ## plain maths: loops down and up, worths -/
theorem forF_cons {S R α : Type} {f : S → α → Fr S R} {x : α} {l : List α} {s : S} : forF f (x :: l) s = match f s x with | .nx s' => forF f l s' | .rt r => .rt r | .bk s' => .bk s' := rfl
def down : Nat → List Int
  | 0 => []
  | n + 1 => (n : Int) :: down n
theorem rngC_down (n : Nat) : rngC ((n : Int) - 1) (-1) (Int.toNat ((n : Int) - 1 - -1)) = down n := by
  have e : Int.toNat ((n : Int) - 1 - -1) = n := by omega
  rw [e]
  clear e
  induction n with
  | zero => rfl
  | succ n ih =>
    unfold rngC at *
    rw [List.range_succ_eq_map, List.map_cons, List.map_map]
    show _ :: _ = (n : Int) :: down n
    rw [← ih]
    congr 1
    · omega
    · apply List.map_congr_left
      intro i _
      show ((n + 1 : Nat) : Int) - 1 + ((i + 1 : Nat) : Int) * -1 = _
      omega
theorem foldl_down {S : Type} {f : S → Int → S} (P : Nat → S → Prop) : ∀ (n : Nat) (s : S), P n s → (∀ (k : Nat) (s : S), k < n → P (k + 1) s → P k (f s (k : Int))) → P 0 ((down n).foldl f s)
  | 0, s, h, _ => h
  | n + 1, s, h, hs => foldl_down P n (f s (n : Int)) (hs n s (by omega) h) fun k s hk => hs k s (by omega)
theorem rng_succ (n : Nat) : rng 0 (n + 1) = rng 0 n ++ [(n : Int)] := by
  unfold rng
  rw [List.range_succ, List.map_append]
  simp
theorem foldl_up {S : Type} {f : S → Int → S} (Q : Nat → S → Prop) : ∀ (n : Nat) (s : S), Q 0 s → (∀ (t : Nat) (s : S), t < n → Q t s → Q (t + 1) (f s (t : Int))) → Q n ((rng 0 n).foldl f s)
  | 0, s, h, _ => h
  | n + 1, s, h, hs => by
    rw [rng_succ, List.foldl_append]
    exact hs n _ (by omega) (foldl_up Q n s h fun t s ht => hs t s (by omega))
theorem foldl_eq {S α : Type} {f g : S → α → S} (P : S → Prop) : ∀ (l : List α) (s : S), P s → (∀ s x, x ∈ l → P s → f s x = g s x ∧ P (g s x)) → l.foldl f s = l.foldl g s
  | [], _, _, _ => rfl
  | x :: l, s, h, hs => by
    obtain ⟨e, h'⟩ := hs s x List.mem_cons_self h
    rw [List.foldl_cons, List.foldl_cons, e]
    exact foldl_eq P l _ h' fun s y hy => hs s y (List.mem_cons_of_mem _ hy)
/-- a loop with enough turns comes to its end -/
theorem whF_done {S R : Type} {c : S → Bool} {f : S → Fr S R} {g : S → S} (hg : ∀ s, f s = .nx (g s)) (P : S → Prop) (m : S → Nat) (hs : ∀ s, P s → c s = true → P (g s) ∧ m (g s) < m s) : ∀ (n : Nat) (s : S), P s → m s < n → ∃ s', whF c f n s = .nx s' ∧ P s' ∧ c s' = false
  | 0, s, _, h => absurd h (Nat.not_lt_zero _)
  | n + 1, s, h, hm => by
    cases hc : c s with
    | false => exact ⟨s, whF_end hc, h, hc⟩
    | true =>
      rw [whF_on hc (hg s)]
      obtain ⟨h1, h2⟩ := hs s h hc
      exact whF_done hg P m hs n (g s) h1 (by omega)
/-- the sum of products -/
def Wo : List Int → List Int → Int
  | a :: c, b :: h => a * b + Wo c h
  | _, _ => 0
theorem wo_zip : ∀ (c h : List Int), ((zipT c h).map (fun t => ((t.p0 * t.p1) : Int))).sum = Wo c h
  | [], _ => rfl
  | _ :: _, [] => rfl
  | a :: c, b :: h => by
    show (((T2.mk a b) :: zipT c h).map _).sum = _
    rw [List.map_cons, List.sum_cons, wo_zip c h]; rfl
theorem wo_rng : ∀ (c h : List Int), c.length ≤ h.length → ((rng 0 c.length).map (fun k => ((getI c k * getI h k) : Int))).sum = Wo c h
  | [], _, _ => rfl
  | _ :: _, [], h => by exact absurd h (by simp)
  | a :: c, b :: h, hl => by
    have ih := wo_rng c h (by simpa using hl)
    have e : rng 0 (a :: c).length = 0 :: (rng 0 c.length).map (· + 1) := by
      unfold rng
      rw [List.length_cons, List.range_succ_eq_map, List.map_cons, List.map_map, List.map_map]
      first
        | (congr 1; done)
        | (congr 1; apply List.map_congr_left; intro i _; show (0 : Int) + ((i + 1 : Nat) : Int) = 0 + (i : Int) + 1; omega)
    rw [e, List.map_cons, List.sum_cons, List.map_map]
    show getI (a :: c) 0 * getI (b :: h) 0 + _ = a * b + Wo c h
    have g : ∀ (x : Int) (xs : List Int) (i : Nat), getI (x :: xs) ((i : Int) + 1) = getI xs i := fun x xs i => by
      rw [show ((i : Int) + 1) = ((i + 1 : Nat) : Int) by omega, getI_eq, getI_eq]; rfl
    have g0 : ∀ (x : Int) (xs : List Int), getI (x :: xs) 0 = x := fun x xs => by
      rw [show (0 : Int) = ((0 : Nat) : Int) by rfl, getI_eq]; rfl
    have e2 : ((rng 0 c.length).map ((fun k => ((getI (a :: c) k * getI (b :: h) k) : Int)) ∘ (· + 1))) = (rng 0 c.length).map (fun k => getI c k * getI h k) := by
      apply List.map_congr_left
      intro k hk
      have := mem_rng hk
      obtain ⟨i, rfl⟩ : ∃ i : Nat, k = (i : Int) := ⟨k.toNat, by omega⟩
      show getI (a :: c) ((i : Int) + 1) * getI (b :: h) ((i : Int) + 1) = _
      rw [g, g]
    rw [e2, ih, g0, g0]
    try rfl
theorem getI_take {c : List Int} {k j : Int} (hj : 0 ≤ j ∧ j < k) : getI (c.take k.toNat) j = getI c j := by
  obtain ⟨i, rfl⟩ : ∃ i : Nat, j = (i : Int) := ⟨j.toNat, by omega⟩
  rw [getI_eq, getI_eq, List.getElem?_take, if_pos (by omega)]
theorem getI_drop {c : List Int} {k : Int} {i : Nat} (hk : 0 ≤ k ∧ k ≤ c.length) : getI (c.drop k.toNat) (i : Int) = getI c (k + i) := by
  obtain ⟨m, rfl⟩ : ∃ m : Nat, k = (m : Int) := ⟨k.toNat, by omega⟩
  rw [show ((m : Int) + (i : Int)) = ((m + i : Nat) : Int) by omega, getI_eq, getI_eq, List.getElem?_drop]
  rfl
theorem wo_take {c h : List Int} {k : Int} (hk : 0 ≤ k ∧ k ≤ c.length) (hl : c.length ≤ h.length) : ((rng 0 k.toNat).map (fun j => ((getI c j * getI h j) : Int))).sum = Wo (c.take k.toNat) (h.take k.toNat) := by
  have e : (c.take k.toNat).length = k.toNat := by rw [List.length_take]; omega
  rw [← wo_rng _ _ (by rw [e, List.length_take]; omega), e]
  congr 1
  apply List.map_congr_left
  intro j hj
  have := mem_rng hj
  rw [getI_take ⟨this.1, by omega⟩, getI_take ⟨this.1, by omega⟩]
theorem wo_drop {c h : List Int} {k : Int} (hk : 0 ≤ k ∧ k ≤ c.length) (hl : c.length ≤ h.length) : ((rng k (Int.toNat ((c.length : Int) - k))).map (fun j => ((getI c j * getI h j) : Int))).sum = Wo (c.drop k.toNat) (h.drop k.toNat) := by
  have e : (c.drop k.toNat).length = Int.toNat ((c.length : Int) - k) := by rw [List.length_drop]; omega
  rw [← wo_rng _ _ (by rw [e, List.length_drop]; omega), e]
  congr 1
  unfold rng
  rw [List.map_map, List.map_map]
  apply List.map_congr_left
  intro i hi
  have := List.mem_range.mp hi
  show getI c (k + (i : Int)) * getI h (k + (i : Int)) = getI (c.drop k.toNat) (0 + (i : Int)) * getI (h.drop k.toNat) (0 + (i : Int))
  rw [Int.zero_add, getI_drop hk, getI_drop ⟨hk.1, by omega⟩]
theorem wo_set : ∀ (c r : List Int) (k : Nat) (x : Int), k < c.length → k < r.length → Wo c (r.set k x) = Wo c r + (c[k]?.getD 0) * (x - (r[k]?.getD 0))
  | [], _, _, _, h, _ => absurd h (by simp)
  | _ :: _, [], _, _, _, h => absurd h (by simp)
  | a :: c, b :: r, 0, x, _, _ => by
    show a * x + Wo c r = a * b + Wo c r + a * (x - b)
    rw [Int.mul_sub]; omega
  | a :: c, b :: r, k + 1, x, h1, h2 => by
    show a * b + Wo c (r.set k x) = a * b + Wo c r + (c[k]?.getD 0) * (x - (r[k]?.getD 0))
    rw [wo_set c r k x (by simpa using h1) (by simpa using h2)]
    omega
theorem wo_step {c h : List Int} {k : Nat} (h1 : k < c.length) (h2 : k < h.length) : Wo (c.drop k) (h.drop k) = getI c k * getI h k + Wo (c.drop (k + 1)) (h.drop (k + 1)) := by
  rw [List.drop_eq_getElem_cons h1, List.drop_eq_getElem_cons h2, getI_nat c k h1, getI_nat h k h2]
  rfl
theorem wo_end (c h : List Int) : Wo (c.drop c.length) (h.drop c.length) = 0 := by
  rw [List.drop_length]; rfl
theorem wo_zero (c : List Int) (n : Nat) : Wo c (List.replicate n 0) = 0 := by
  induction c generalizing n with
  | nil => cases n <;> rfl
  | cons a c ih => cases n with
    | zero => rfl
    | succ n =>
      show a * 0 + Wo c (List.replicate n 0) = 0
      rw [ih]; simp
theorem wo_nonneg : ∀ (c h : List Int), (∀ v ∈ c, 0 ≤ v) → (∀ v ∈ h, 0 ≤ v) → 0 ≤ Wo c h
  | [], _, _, _ => Int.le_refl _
  | _ :: _, [], _, _ => Int.le_refl _
  | a :: c, b :: h, h1, h2 => by
    have := wo_nonneg c h (fun v hv => h1 v (List.mem_cons_of_mem _ hv)) (fun v hv => h2 v (List.mem_cons_of_mem _ hv))
    have := Int.mul_nonneg (h1 a List.mem_cons_self) (h2 b List.mem_cons_self)
    show 0 ≤ a * b + Wo c h
    omega
end Fw


namespace Fw
open PySem PySem.Spec L2 Emb
theorem relc_int {mg : Str → Option Value} {x : Str} {i : Int} (h : ∃ t, mg x = some (.int i t)) : RelC mg x (.int i) := by
  obtain ⟨t, h⟩ := h
  exact ⟨_, h, t, rfl⟩
theorem relc_str {mg : Str → Option Value} {x : Str} {s : Str} (h : ∃ t, mg x = some (.str s t)) : RelC mg x (.str s) := by
  obtain ⟨t, h⟩ := h
  exact ⟨_, h, t, rfl⟩
abbrev gcOf (P : Program) (w : World) (K : PySem.W.Frag) (mg : Str → Option Value) (base : Heap) (ct : Nat → Addr × Option Str) : Gc := ⟨P, w, K, mg, base, ct⟩
theorem law_end {l : PySem.W.OpenLaw} {k : Nat} {q : Program} {loose : List Str} {XP : (Str → Option Value) → Heap → Prop} {YP : World → Heap → Prop} {d : DefRec} {R : List PyData → Except Exn PyData → Prop} (ct : PySem.W.Frag → Nat → Addr × Option Str)
    (hn : l.most = some 63) (hdf : d.params.defaults = []) (hr : Room k callerA) (hR : ∀ ns : List Int, ns.length ≤ 63 → R [scrD ns] (.ok (.bool true)))
    (F : ∀ (w : World) (mg : Str → Option Value) (fa : Addr) (h : Heap), YP w h → h.Ns mainGlobals mg → mg d.name = some (.ref fa) →
      ∃ (K : PySem.W.Frag) (fd : FuncData), K.In h ∧ (∀ (s : Shared) (u : Value), BindsTo s fd ⟨[u], []⟩ [("script", u)]) ∧ ∀ base : Heap, FnOk l.prog w K mg base (L2.CX l.prog w) k fa fd ["script"] (SpD (gcOf l.prog w K mg base (ct K)) R)) :
    PySem.W.WalkO q loose XP YP l.row.toRowW d [] (fun f vs => PySem.call f vs) := by
  refine Att.attach_call hn hdf fun w s₀ s₁ mg mb fa o pm cd doc a vs ns G Y ho hd hcd hmg hobj hints hlen hg => ?_
  obtain ⟨K, fd, KX, hb, hF⟩ := F w mg fa _ Y G.T.g hmg
  refine law_call (CX := L2.CX l.prog w) (sp := fun vs H Q E => ∃ ns : List Int, ns.length ≤ 63 ∧ (∃ a, vs = [.ref a] ∧ SqL K H a (ns.map V.int)) ∧ ∀ v H', v = .bl true → Q v H') KX G.T.g G.T.b G.T.builtins G.T.nolimit hg hobj hints (Nat.le_trans hlen (by decide)) hr (fun base _ _ => ?_) hb (fun H hO hS => ⟨ns, hlen, ⟨a, rfl, hS⟩, fun _ _ h => h⟩) fun H e s' z => ?_
  · refine FnOk.imp (hF base) fun vs H Q E h => ?_
    obtain ⟨ns, hl, ⟨a, rfl, hS⟩, hq⟩ := h
    refine ⟨⟨H, H, fun _ _ e => e⟩, [scrD ns], _, rfl, .cons (.scr hS) .nil, hR ns hl, fun d e v w' g r => ?_, fun e z => by cases z⟩
    injection e with e
    subst e
    cases r
    exact hq _ _ rfl
  · obtain ⟨_, _, _, _, _, _, _, _, _, _, _, _, q⟩ := z
    exact q
end Fw


namespace K96
open PySem L2 Fw Emb
def is_whole (value : Int) : Bool :=
(true && (!false))
def is_from_to (value : Int) (least : Int) (most : Int) : Bool :=
((is_whole value) && (decide (least ≤ value) && decide (value ≤ most)))
def is_listed (value : (List Int)) : Bool :=
(true && (decide ((1 : Int) ≤ (value.length : Int)) && decide ((value.length : Int) ≤ (8 : Int))))
def follows (before : Int) (value : Int) : Bool :=
((decide (before < value)) && (decide ((value % before) = (0 : Int))))
def bd_first_wrong_1 (listed : (List Int)) (s1 : Unit) (x1 : (T2 Int Int)) : Fr Unit (Option Int) :=
if (!(is_from_to x1.p1 (1 : Int) (1000000 : Int))) = true then
((.rt (some x1.p0))) else
(if ((decide ((0 : Int) < x1.p0)) && (!(follows (getI listed (x1.p0 - (1 : Int))) x1.p1))) = true then
((.rt (some x1.p0))) else
(.nx ()))
def first_wrong (listed : (List Int)) : (Option Int) :=
(forF (bd_first_wrong_1 listed) (enumT listed) ()).go (fun (fin_1 : Unit) =>
(none : (Option Int)))
def check_chain (value : (List Int)) : Unit :=
let wrong_1 : (Option Int) := (first_wrong value)
()
def bd_first_wrong_x2_1 (s1 : Unit) (x1 : (T2 Int Int)) : Fr Unit (Option Int) :=
if (!(is_from_to x1.p1 (0 : Int) (99 : Int))) = true then
((.rt (some x1.p0))) else
(.nx ())
def first_wrong_x2 (heap : (List Int)) : (Option Int) :=
(forF bd_first_wrong_x2_1 (enumT heap) ()).go (fun (fin_1 : Unit) =>
(none : (Option Int)))
def check_counts (chain : (List Int)) (value : (List Int)) : Unit :=
let wrong_1 : (Option Int) := (first_wrong_x2 value)
()
def check_heap (chain : (List Int)) (value : (List Int)) : Unit :=
()
def worth_of (chain : (List Int)) (heap : (List Int)) : Int :=
(((zipT chain heap).map (fun it_1 => ((it_1.p0 * it_1.p1) : Int))).sum)
def lesser_of (chain : (List Int)) (heap : (List Int)) (k : Int) : Int :=
(worth_of (cut chain none (some k)) (cut heap none (some k)))
def greater_of (chain : (List Int)) (heap : (List Int)) (k : Int) : Int :=
(worth_of (cut chain (some k) none) (cut heap (some k) none))
def left_by (chain : (List Int)) (amounts : (List Int)) (k : Int) : Int :=
if (decide (k = (chain.length : Int))) = true then
((amounts.sum)) else
(((amounts.map (fun amount_1 => ((amount_1 % (getI chain k)) : Int))).sum))
def spare_list (chain : (List Int)) (heap : (List Int)) (amounts : (List Int)) : (List Int) :=
((rng 0 (Int.toNat ((chain.length : Int) + (1 : Int)))).map (fun k_1 => (((lesser_of chain heap k_1) - (left_by chain amounts k_1)) : Int)))
def bd_house_payments_2 (chain : (List Int)) (x1 : Int) (s2 : (T3 (List (List Int)) Int (List Int))) (x2 : Int) : Fr (T3 (List (List Int)) Int (List Int)) (T2 (List (List Int)) (List Int)) :=
let rows_2 : (List (List Int)) := (setM s2.p0 (x2 : Int) x1 (min s2.p1 ((getI s2.p2 x2) / (getI chain x1))))
let count_2 : Int := (s2.p1 - (getI (mRow rows_2 (x2 : Int)) x1))
let left_2 : (List Int) := (setI s2.p2 x2 (getI s2.p2 x2 - ((getI (mRow rows_2 (x2 : Int)) x1) * (getI chain x1))))
.nx (T3.mk rows_2 count_2 left_2)
def bd_house_payments_1 (chain : (List Int)) (heap : (List Int)) (s1 : (T2 (List (List Int)) (List Int))) (x1 : Int) : (T2 (List (List Int)) (List Int)) :=
let count_1 : Int := (getI heap x1)
(forF (bd_house_payments_2 chain x1) (rng 0 s1.p0.length) (T3.mk s1.p0 count_1 s1.p1)).go (fun (fin_1 : (T3 (List (List Int)) Int (List Int))) =>
(T2.mk fin_1.p0 fin_1.p2))
def house_payments (chain : (List Int)) (heap : (List Int)) (amounts : (List Int)) : (List (List Int)) :=
let rows_1 : (List (List Int)) := (amounts.map (fun x_1 => ((repL ([(0 : Int)]) (chain.length : Int)) : (List Int))))
let left_1 : (List Int) := amounts
let fin_2 : (T2 (List (List Int)) (List Int)) := (rngC ((chain.length : Int) - (1 : Int)) (-1) (Int.toNat (((chain.length : Int) - (1 : Int)) - (-(1 : Int))))).foldl (bd_house_payments_1 chain heap) (T2.mk rows_1 left_1)
fin_2.p0
def bd_first_lack_1 (chain : (List Int)) (heap : (List Int)) (amounts : (List Int)) (s1 : Unit) (x1 : (T2 Int Int)) : Fr Unit (Option (T3 Int Int Int)) :=
if (decide (x1.p1 < (0 : Int))) = true then
((.rt (some (T3.mk x1.p0 (left_by chain amounts x1.p0) (lesser_of chain heap x1.p0))))) else
(.nx ())
def first_lack (chain : (List Int)) (heap : (List Int)) (amounts : (List Int)) : (Option (T3 Int Int Int)) :=
(forF (bd_first_lack_1 chain heap amounts) (enumT (spare_list chain heap amounts)) ()).go (fun (fin_1 : Unit) =>
(none : (Option (T3 Int Int Int))))
def told_answer (chain : (List Int)) (heap : (List Int)) (amounts : (List Int)) : (Sum (T4 Str Int Int Int) (T2 Str (List (List Int)))) :=
let lack_1 : (Option (T3 Int Int Int)) := (first_lack chain heap amounts)
if (lack_1.isSome) = true then
((.inl (T4.mk (T1.mk ("value" : Str)).p0 (og lack_1).p0 (og lack_1).p1 (og lack_1).p2) : (Sum (T4 Str Int Int Int) (T2 Str (List (List Int)))))) else
((.inr (T2.mk ("payments" : Str) (house_payments chain heap amounts)) : (Sum (T4 Str Int Int Int) (T2 Str (List (List Int))))))
def room_of (chain : (List Int)) (boxes : (List Int)) (k : Int) : Int :=
((boxes.map (fun hold_1 => (((hold_1 / (getI chain k)) * (getI chain k)) : Int))).sum)
def bd_last_full_1 (chain : (List Int)) (heap : (List Int)) (boxes : (List Int)) (s1 : Unit) (x1 : Int) : Fr Unit (Option (T3 Int Int Int)) :=
let greater_1 : Int := (greater_of chain heap x1)
let room_1 : Int := (room_of chain boxes x1)
if (decide (room_1 < greater_1)) = true then
((.rt (some (T3.mk x1 greater_1 room_1)))) else
(.nx ())
def last_full (chain : (List Int)) (heap : (List Int)) (boxes : (List Int)) : (Option (T3 Int Int Int)) :=
(forF (bd_last_full_1 chain heap boxes) (rngC ((chain.length : Int) - (1 : Int)) (-1) (Int.toNat (((chain.length : Int) - (1 : Int)) - (-(1 : Int))))) ()).go (fun (fin_1 : Unit) =>
(none : (Option (T3 Int Int Int))))
def bd_house_load_2 (chain : (List Int)) (x1 : Int) (s2 : (T3 (List (List Int)) Int (List Int))) (x2 : Int) : Fr (T3 (List (List Int)) Int (List Int)) (T2 (List (List Int)) (List Int)) :=
let rows_2 : (List (List Int)) := (setM s2.p0 (x2 : Int) x1 (min s2.p1 ((getI s2.p2 x2) / (getI chain x1))))
let count_2 : Int := (s2.p1 - (getI (mRow rows_2 (x2 : Int)) x1))
let left_2 : (List Int) := (setI s2.p2 x2 (getI s2.p2 x2 - ((getI (mRow rows_2 (x2 : Int)) x1) * (getI chain x1))))
.nx (T3.mk rows_2 count_2 left_2)
def bd_house_load_1 (chain : (List Int)) (heap : (List Int)) (s1 : (T2 (List (List Int)) (List Int))) (x1 : Int) : (T2 (List (List Int)) (List Int)) :=
let count_1 : Int := (getI heap x1)
(forF (bd_house_load_2 chain x1) (rng 0 s1.p0.length) (T3.mk s1.p0 count_1 s1.p1)).go (fun (fin_1 : (T3 (List (List Int)) Int (List Int))) =>
(T2.mk fin_1.p0 fin_1.p2))
def house_load (chain : (List Int)) (heap : (List Int)) (boxes : (List Int)) : (List (List Int)) :=
let rows_1 : (List (List Int)) := (boxes.map (fun x_1 => ((repL ([(0 : Int)]) (chain.length : Int)) : (List Int))))
let left_1 : (List Int) := boxes
let fin_2 : (T2 (List (List Int)) (List Int)) := (rngC ((chain.length : Int) - (1 : Int)) (-1) (Int.toNat (((chain.length : Int) - (1 : Int)) - (-(1 : Int))))).foldl (bd_house_load_1 chain heap) (T2.mk rows_1 left_1)
fin_2.p0
def ct_hold_for_1 (s1 : (T2 Int Int)) : Bool := (decide (s1.p1 < s1.p0))
def bd_hold_for_1 (chain : (List Int)) (heap : (List Int)) (n : Int) (s1 : (T2 Int Int)) : Fr (T2 Int Int) Int :=
let middle_1 : Int := ((s1.p1 + s1.p0) / (2 : Int))
let most_2 : Int := if ((last_full chain heap (repL ([middle_1]) n)).isNone) = true then middle_1 else s1.p0
let least_2 : Int := if ((last_full chain heap (repL ([middle_1]) n)).isNone) = true then s1.p1 else (middle_1 + (1 : Int))
.nx (T2.mk most_2 least_2)
def hold_for (chain : (List Int)) (heap : (List Int)) (n : Int) : Int :=
let least_1 : Int := (0 : Int)
let most_1 : Int := (worth_of chain heap)
(whF ct_hold_for_1 (bd_hold_for_1 chain heap n) (((fun (s : (T2 Int Int)) => (s.p0 - s.p1).toNat) (T2.mk most_1 least_1)) + 1) (T2.mk most_1 least_1)).go (fun (fin_1 : (T2 Int Int)) =>
fin_1.p1)
def check_persons (value : Int) : Unit :=
()
def check_sharing (chain : (List Int)) (heap : (List Int)) (n : Int) : Unit :=
()
def least_greatest (chain : (List Int)) (heap : (List Int)) (n : Int) : Int :=
(hold_for chain heap n)
def levelled (chain : (List Int)) (heap : (List Int)) (n : Int) : (List (List Int)) :=
(house_load chain heap (repL ([(hold_for chain heap n)]) n))
def bd_by_turns_2 (n : Int) (x1 : Int) (s2 : (T2 (List (List Int)) Int)) (x2 : Int) : (T2 (List (List Int)) Int) :=
let rows_2 : (List (List Int)) := (setM s2.p0 (s2.p1 % n) x1 (getI (mRow s2.p0 (s2.p1 % n)) x1 + (1 : Int)))
let turn_2 : Int := (s2.p1 + (1 : Int))
(T2.mk rows_2 turn_2)
def bd_by_turns_1 (heap : (List Int)) (n : Int) (s1 : (T2 (List (List Int)) Int)) (x1 : Int) : (T2 (List (List Int)) Int) :=
let fin_1 : (T2 (List (List Int)) Int) := (rng 0 (Int.toNat (getI heap x1))).foldl (bd_by_turns_2 n x1) (T2.mk s1.p0 s1.p1)
(T2.mk fin_1.p0 fin_1.p1)
def by_turns (chain : (List Int)) (heap : (List Int)) (n : Int) : (List (List Int)) :=
let rows_1 : (List (List Int)) := ((rng 0 (Int.toNat n)).map (fun x_1 => ((repL ([(0 : Int)]) (chain.length : Int)) : (List Int))))
let turn_1 : Int := (0 : Int)
let fin_2 : (T2 (List (List Int)) Int) := (rngC ((chain.length : Int) - (1 : Int)) (-1) (Int.toNat (((chain.length : Int) - (1 : Int)) - (-(1 : Int))))).foldl (bd_by_turns_1 heap n) (T2.mk rows_1 turn_1)
fin_2.p0
def neediest (worths : (List Int)) : Int :=
(idxI worths (lmin worths))
def bd_by_need_2 (chain : (List Int)) (x1 : Int) (s2 : (T2 (List (List Int)) (List Int))) (x2 : Int) : (T2 (List (List Int)) (List Int)) :=
let person_1 : Int := (neediest s2.p1)
let rows_2 : (List (List Int)) := (setM s2.p0 person_1 x1 (getI (mRow s2.p0 person_1) x1 + (1 : Int)))
let sums_2 : (List Int) := (setI s2.p1 person_1 (getI s2.p1 person_1 + (getI chain x1)))
(T2.mk rows_2 sums_2)
def bd_by_need_1 (chain : (List Int)) (heap : (List Int)) (s1 : (T2 (List (List Int)) (List Int))) (x1 : Int) : (T2 (List (List Int)) (List Int)) :=
let fin_1 : (T2 (List (List Int)) (List Int)) := (rng 0 (Int.toNat (getI heap x1))).foldl (bd_by_need_2 chain x1) (T2.mk s1.p0 s1.p1)
(T2.mk fin_1.p0 fin_1.p1)
def by_need (chain : (List Int)) (heap : (List Int)) (n : Int) : (List (List Int)) :=
let rows_1 : (List (List Int)) := ((rng 0 (Int.toNat n)).map (fun x_1 => ((repL ([(0 : Int)]) (chain.length : Int)) : (List Int))))
let sums_1 : (List Int) := (repL ([(0 : Int)]) n)
let fin_2 : (T2 (List (List Int)) (List Int)) := (rngC ((chain.length : Int) - (1 : Int)) (-1) (Int.toNat (((chain.length : Int) - (1 : Int)) - (-(1 : Int))))).foldl (bd_by_need_1 chain heap) (T2.mk rows_1 sums_1)
fin_2.p0
def worths (chain : (List Int)) (rows : (List (List Int))) : (List Int) :=
(rows.map (fun row_1 => ((worth_of chain row_1) : Int)))
def gap (chain : (List Int)) (rows : (List (List Int))) : Int :=
let found_1 : (List Int) := (worths chain rows)
((lmax found_1) - (lmin found_1))
def check_weights (value : (List Int)) : Unit :=
()
def amounts_of (worth : Int) (weights : (List Int)) : (Option (List Int)) :=
let total_1 : Int := (weights.sum)
if (!((weights.map (fun weight_1 => ((decide (((worth * weight_1) % total_1) = (0 : Int))) : Bool))).all id)) = true then
((none : (Option (List Int)))) else
((some (weights.map (fun weight_2 => (((worth * weight_2) / total_1) : Int)))))
def parts (chain : (List Int)) (heap : (List Int)) (weights : (List Int)) : (Option (List Int)) :=
(amounts_of (worth_of chain heap) weights)
def weighed (chain : (List Int)) (heap : (List Int)) (weights : (List Int)) : (Option (List (List Int))) :=
let amounts_1 : (Option (List Int)) := (parts chain heap weights)
if (amounts_1.isNone) = true then
((none : (Option (List (List Int))))) else
(let found_1 : (Sum (T4 Str Int Int Int) (T2 Str (List (List Int)))) := (told_answer chain heap (og amounts_1))
(if (decide ((Sum.elim (fun t => t.p0) (fun t => t.p0) found_1) = ("payments" : Str))) = true then (some ((ur found_1).p1)) else (none : (Option (List (List Int))))))
def bd_law_numbers_1 (at_ : Int) (s1 : (T2 (List Int) Int)) (x1 : Int) : (T2 (List Int) Int) :=
let numbers_2 : (List Int) := if (decide (((10 : Int) ^ (Int.toNat (18 : Int))) ≤ s1.p1)) = true then (s1.p0 ++ [(s1.p1 % (1009 : Int))]) else (s1.p0 ++ [(((((((((s1.p1 * (48271 : Int)) + ((x1 + (1 : Int)) * (69621 : Int))) + (at_ * (4001 : Int))) % (2147483647 : Int)) * ((((s1.p1 * (48271 : Int)) + ((x1 + (1 : Int)) * (69621 : Int))) + (at_ * (4001 : Int))) % (2147483647 : Int))) + ((16807 : Int) * (x1 + (3 : Int)))) % (2147483629 : Int)) / (7 : Int)) % (1009 : Int))])
let cell_4 : Int := if (decide (((10 : Int) ^ (Int.toNat (18 : Int))) ≤ s1.p1)) = true then (s1.p1 / (1009 : Int)) else s1.p1
(T2.mk numbers_2 cell_4)
def law_numbers (script : List Int) (at_ : Int) (many : Int) : (List Int) :=
let cell_1 : Int := ((1000003 : Int) * (at_ + (1 : Int)))
let cell_2 : Int := if (decide (at_ < (script.length : Int))) = true then (getI script at_) else cell_1
let cell_3 : Int := if (decide (cell_2 < (0 : Int))) = true then ((1 : Int) - ((2 : Int) * cell_2)) else cell_2
let numbers_1 : (List Int) := ([] : (List Int))
let fin_1 : (T2 (List Int) Int) := (rng 0 (Int.toNat many)).foldl (bd_law_numbers_1 at_) (T2.mk numbers_1 cell_3)
fin_1.p0
def law_is_integer (value : Int) : Bool :=
(true && (!false))
def bd_law_chain_1 (numbers_1 : (List Int)) (s1 : (List Int)) (x1 : Int) : (List Int) :=
let chain_2 : (List Int) := (s1 ++ [((getI s1 (-(1 : Int))) * ((2 : Int) + ((getI numbers_1 ((2 : Int) + x1)) % (4 : Int))))])
chain_2
def law_chain (script : List Int) (at_ : Int) (most : Int) : (List Int) :=
let numbers_1 : (List Int) := (law_numbers script at_ (12 : Int))
let chain_1 : (List Int) := [((1 : Int) + ((getI numbers_1 (0 : Int)) % (3 : Int)))]
let fin_1 : (List Int) := (rng 0 (Int.toNat ((1 : Int) + ((getI numbers_1 (1 : Int)) % (most - (1 : Int)))))).foldl (bd_law_chain_1 numbers_1) chain_1
fin_1
def law_heap (script : List Int) (at_ : Int) (chain : (List Int)) (most : Int) : (List Int) :=
((law_numbers script at_ (chain.length : Int)).map (fun number_1 => ((number_1 % ((1 : Int) + most)) : Int)))
def law_worth (chain : (List Int)) (heap : (List Int)) : Int :=
(((rng 0 (Int.toNat (chain.length : Int))).map (fun k_1 => (((getI chain k_1) * (getI heap k_1)) : Int))).sum)
def law_greater (chain : (List Int)) (heap : (List Int)) (k : Int) : Int :=
(((rng k (Int.toNat ((chain.length : Int) - k))).map (fun j_1 => (((getI chain j_1) * (getI heap j_1)) : Int))).sum)
def bd_law_laid_2 (chain : (List Int)) (x1 : Int) (s2 : (T3 (List (List Int)) Int (List Int))) (x2 : Int) : (T3 (List (List Int)) Int (List Int)) :=
let number_1 : Int := (min s2.p1 ((getI s2.p2 x2) / (getI chain x1)))
let rows_2 : (List (List Int)) := (setM s2.p0 x2 x1 number_1)
let count_2 : Int := (s2.p1 - number_1)
let left_2 : (List Int) := (setI s2.p2 x2 ((getI s2.p2 x2) - (number_1 * (getI chain x1))))
(T3.mk rows_2 count_2 left_2)
def bd_law_laid_1 (chain : (List Int)) (heap : (List Int)) (boxes : (List Int)) (s1 : (T2 (List (List Int)) (List Int))) (x1 : Int) : (T2 (List (List Int)) (List Int)) :=
let count_1 : Int := (getI heap x1)
let fin_1 : (T3 (List (List Int)) Int (List Int)) := (rng 0 (Int.toNat (boxes.length : Int))).foldl (bd_law_laid_2 chain x1) (T3.mk s1.p0 count_1 s1.p1)
(T2.mk fin_1.p0 fin_1.p2)
def law_laid (chain : (List Int)) (heap : (List Int)) (boxes : (List Int)) : (List (List Int)) :=
let left_1 : (List Int) := boxes
let rows_1 : (List (List Int)) := (boxes.map (fun hold_1 => ((repL ([(0 : Int)]) (chain.length : Int)) : (List Int))))
let fin_2 : (T2 (List (List Int)) (List Int)) := (rngC ((chain.length : Int) - (1 : Int)) (-1) (Int.toNat (((chain.length : Int) - (1 : Int)) - (-(1 : Int))))).foldl (bd_law_laid_1 chain heap boxes) (T2.mk rows_1 left_1)
fin_2.p0
def law_left (chain : (List Int)) (amounts : (List Int)) (k : Int) : Int :=
if (decide (k = (chain.length : Int))) = true then
((amounts.sum)) else
(((amounts.map (fun amount_1 => ((amount_1 % (getI chain k)) : Int))).sum))
def law_lesser (chain : (List Int)) (heap : (List Int)) (k : Int) : Int :=
(((rng 0 (Int.toNat k)).map (fun j_1 => (((getI chain j_1) * (getI heap j_1)) : Int))).sum)
def law_lacks (chain : (List Int)) (heap : (List Int)) (amounts : (List Int)) : (List Int) :=
(((rng 0 (Int.toNat ((chain.length : Int) + (1 : Int)))).filter (fun k_1 => (decide ((law_lesser chain heap k_1) < (law_left chain amounts k_1))))).map (fun k_1 => (k_1 : Int)))
def ct_law_payments_3 (chain : (List Int)) (x1 : Int) (x2 : Int) (s3 : (T3 (List (List Int)) (List Int) Int)) : Bool := ((decide ((0 : Int) < s3.p2)) && (decide ((getI chain x1) ≤ (getI s3.p1 x2))))
def bd_law_payments_3 (chain : (List Int)) (x1 : Int) (x2 : Int) (s3 : (T3 (List (List Int)) (List Int) Int)) : Fr (T3 (List (List Int)) (List Int) Int) (T3 (List (List Int)) (List Int) Int) :=
let rows_2 : (List (List Int)) := (setM s3.p0 x2 x1 ((getI (getI s3.p0 x2) x1) + (1 : Int)))
let left_2 : (List Int) := (setI s3.p1 x2 ((getI s3.p1 x2) - (getI chain x1)))
let count_2 : Int := (s3.p2 - (1 : Int))
.nx (T3.mk rows_2 left_2 count_2)
def bd_law_payments_2 (chain : (List Int)) (x1 : Int) (s2 : (T3 (List (List Int)) (List Int) Int)) (x2 : Int) : (T3 (List (List Int)) (List Int) Int) :=
(whF (ct_law_payments_3 chain x1 x2) (bd_law_payments_3 chain x1 x2) (((fun (s : (T3 (List (List Int)) (List Int) Int)) => (s.p2).toNat) (T3.mk s2.p0 s2.p1 s2.p2)) + 1) (T3.mk s2.p0 s2.p1 s2.p2)).go (fun (fin_1 : (T3 (List (List Int)) (List Int) Int)) =>
(T3.mk fin_1.p0 fin_1.p1 fin_1.p2))
def bd_law_payments_1 (chain : (List Int)) (heap : (List Int)) (amounts : (List Int)) (s1 : (T2 (List (List Int)) (List Int))) (x1 : Int) : (T2 (List (List Int)) (List Int)) :=
let count_1 : Int := (getI heap x1)
let fin_2 : (T3 (List (List Int)) (List Int) Int) := (rng 0 (Int.toNat (amounts.length : Int))).foldl (bd_law_payments_2 chain x1) (T3.mk s1.p0 s1.p1 count_1)
(T2.mk fin_2.p0 fin_2.p1)
def law_payments (chain : (List Int)) (heap : (List Int)) (amounts : (List Int)) : (List (List Int)) :=
let left_1 : (List Int) := amounts
let rows_1 : (List (List Int)) := (amounts.map (fun amount_1 => ((repL ([(0 : Int)]) (chain.length : Int)) : (List Int))))
let fin_3 : (T2 (List (List Int)) (List Int)) := (rngC ((chain.length : Int) - (1 : Int)) (-1) (Int.toNat (((chain.length : Int) - (1 : Int)) - (-(1 : Int))))).foldl (bd_law_payments_1 chain heap amounts) (T2.mk rows_1 left_1)
fin_3.p0
def bd_law_need_2 (chain : (List Int)) (x1 : Int) (s2 : (T2 (List (List Int)) (List Int))) (x2 : Int) : (T2 (List (List Int)) (List Int)) :=
let j_2 : Int := (idxI s2.p1 (lmin s2.p1))
let rows_2 : (List (List Int)) := (setM s2.p0 j_2 x1 ((getI (getI s2.p0 j_2) x1) + (1 : Int)))
let sums_2 : (List Int) := (setI s2.p1 j_2 ((getI s2.p1 j_2) + (getI chain x1)))
(T2.mk rows_2 sums_2)
def bd_law_need_1 (chain : (List Int)) (heap : (List Int)) (s1 : (T2 (List (List Int)) (List Int))) (x1 : Int) : (T2 (List (List Int)) (List Int)) :=
let fin_1 : (T2 (List (List Int)) (List Int)) := (rng 0 (Int.toNat (getI heap x1))).foldl (bd_law_need_2 chain x1) (T2.mk s1.p0 s1.p1)
(T2.mk fin_1.p0 fin_1.p1)
def law_need (chain : (List Int)) (heap : (List Int)) (n : Int) : (List (List Int)) :=
let rows_1 : (List (List Int)) := ((rng 0 (Int.toNat n)).map (fun j_1 => ((repL ([(0 : Int)]) (chain.length : Int)) : (List Int))))
let sums_1 : (List Int) := (repL ([(0 : Int)]) n)
let fin_2 : (T2 (List (List Int)) (List Int)) := (rngC ((chain.length : Int) - (1 : Int)) (-1) (Int.toNat (((chain.length : Int) - (1 : Int)) - (-(1 : Int))))).foldl (bd_law_need_1 chain heap) (T2.mk rows_1 sums_1)
fin_2.p0
def bd_law_2 (chain_1 : (List Int)) (heap_1 : (List Int)) (x1 : Int) (s2 : Int) (x2 : Int) : Int :=
let pieces_1 : Int := ((law_greater chain_1 heap_1 x2) / (getI chain_1 x2))
let due_2 : Int := (max s2 ((((pieces_1 + x1) - (1 : Int)) / x1) * (getI chain_1 x2)))
due_2
def bd_law_4 (x1 : Int) (x3 : Int) (s4 : (T2 (List (List Int)) Int)) (x4 : Int) : (T2 (List (List Int)) Int) :=
let rows_2 : (List (List Int)) := (setM s4.p0 (s4.p1 % x1) x3 ((getI (getI s4.p0 (s4.p1 % x1)) x3) + (1 : Int)))
let turn_2 : Int := (s4.p1 + (1 : Int))
(T2.mk rows_2 turn_2)
def bd_law_3 (heap_1 : (List Int)) (x1 : Int) (s3 : (T2 (List (List Int)) Int)) (x3 : Int) : (T2 (List (List Int)) Int) :=
let fin_2 : (T2 (List (List Int)) Int) := (rng 0 (Int.toNat (getI heap_1 x3))).foldl (bd_law_4 x1 x3) (T2.mk s3.p0 s3.p1)
(T2.mk fin_2.p0 fin_2.p1)
def bd_law_1 (chain_1 : (List Int)) (heap_1 : (List Int)) (s1 : Unit) (x1 : Int) : Fr Unit Bool :=
let due_1 : Int := (0 : Int)
let fin_1 : Int := (rng 0 (Int.toNat (chain_1.length : Int))).foldl (bd_law_2 chain_1 heap_1 x1) due_1
let told_1 : Int := (least_greatest chain_1 heap_1 x1)
if ((!(law_is_integer told_1)) || ((!decide (told_1 = fin_1)) || (!decide (((levelled chain_1 heap_1 x1) : (List (List Int))) = (law_laid chain_1 heap_1 (repL ([fin_1]) x1)))))) = true then
((.rt false)) else
(let need_1 : (List (List Int)) := (by_need chain_1 heap_1 x1)
if ((!decide ((need_1 : (List (List Int))) = (law_need chain_1 heap_1 x1))) || (!decide ((lmax (worths chain_1 need_1)) = fin_1))) = true then
((.rt false)) else
(let rows_1 : (List (List Int)) := ((rng 0 (Int.toNat x1)).map (fun j_1 => ((repL ([(0 : Int)]) (chain_1.length : Int)) : (List Int))))
let turn_1 : Int := (0 : Int)
let fin_3 : (T2 (List (List Int)) Int) := (rngC ((chain_1.length : Int) - (1 : Int)) (-1) (Int.toNat (((chain_1.length : Int) - (1 : Int)) - (-(1 : Int))))).foldl (bd_law_3 heap_1 x1) (T2.mk rows_1 turn_1)
if ((!decide (((by_turns chain_1 heap_1 x1) : (List (List Int))) = fin_3.p0)) || (!decide (((worths chain_1 fin_3.p0) : (List Int)) = (fin_3.p0.map (fun row_1 => ((law_worth chain_1 row_1) : Int)))))) = true then
((.rt false)) else
(let sums_1 : (List Int) := (fin_3.p0.map (fun row_2 => ((law_worth chain_1 row_2) : Int)))
if ((!decide ((gap chain_1 fin_3.p0) = ((lmax sums_1) - (lmin sums_1)))) || (decide ((lmax sums_1) < fin_1))) = true then
((.rt false)) else
(.nx ()))))
def law (script : List Int) : Bool :=
let chain_1 : (List Int) := (law_chain script (0 : Int) (6 : Int))
let heap_1 : (List Int) := (law_heap script (1 : Int) chain_1 (12 : Int))
(forF (bd_law_1 chain_1 heap_1) (rng (2 : Int) (Int.toNat ((9 : Int) - (2 : Int)))) ()).go (fun (fin_4 : Unit) =>
let weights_1 : (List Int) := (cut ((law_numbers script (2 : Int) (9 : Int)).map (fun number_1 => (((1 : Int) + (number_1 % (4 : Int))) : Int))) none (some ((2 : Int) + ((getI (law_numbers script (3 : Int) (1 : Int)) (0 : Int)) % (3 : Int)))))
let whole_1 : Int := (law_worth chain_1 heap_1)
let amounts_1 : (List Int) := (weights_1.map (fun weight_1 => (((whole_1 * weight_1) / (weights_1.sum)) : Int)))
if (!decide ((((weights_1.filter (fun weight_2 => (!decide (((whole_1 * weight_2) % (weights_1.sum)) = (0 : Int))))).map (fun weight_2 => (weight_2 : Int))) : (List Int)) = ([] : (List Int)))) = true then
((((parts chain_1 heap_1 weights_1).isNone) && ((weighed chain_1 heap_1 weights_1).isNone))) else
(if (!decide (((parts chain_1 heap_1 weights_1) : (Option (List Int))) = (some amounts_1))) = true then
(false) else
(if (!decide (((law_lacks chain_1 heap_1 amounts_1) : (List Int)) = ([] : (List Int)))) = true then
(((weighed chain_1 heap_1 weights_1).isNone)) else
(if (!decide (((weighed chain_1 heap_1 weights_1) : (Option (List (List Int)))) = (some (law_payments chain_1 heap_1 amounts_1)))) = true then
(false) else
(true)))))
end K96


namespace K96
open PySem L2 Fw Emb NumText
/-! ### lemmas: _law_numbers -/
theorem ln_len (at_ : Int) : ∀ (l : List Int) (s : T2 (List Int) Int), ((l.foldl (bd_law_numbers_1 at_) s).p0).length = s.p0.length + l.length
  | [], s => rfl
  | x :: l, s => by
    rw [List.foldl_cons, ln_len at_ l, List.length_cons]
    have : ((bd_law_numbers_1 at_ s x).p0).length = s.p0.length + 1 := by
      unfold bd_law_numbers_1
      dsimp only
      split <;> simp
    omega
theorem ln_app {at_ many : Int} {i1 : Nat} {s1 : T2 (List Int) Int} {n1 : List Int} {c3 : Int} (hist1 : s1 = ((rng 0 (Int.toNat many)).take i1).foldl (bd_law_numbers_1 at_) (T2.mk n1 c3)) (hn : n1 = []) (hm : 0 ≤ many ∧ many ≤ 1000) : s1.p0.length < sizeLine := by
  have h := ln_len at_ ((rng 0 (Int.toNat many)).take i1) (T2.mk n1 c3)
  rw [← hist1, hn, List.length_take, rng_len] at h
  have e := sizeLine_eq
  have h0 : ([] : List Int).length = 0 := rfl
  have h1 : s1.p0.length = ([] : List Int).length + min i1 many.toNat := h
  omega
theorem ln_mem (at_ : Int) : ∀ (l : List Int) (s : T2 (List Int) Int), (∀ n ∈ s.p0, 0 ≤ n ∧ n < 1009) → ∀ n ∈ (l.foldl (bd_law_numbers_1 at_) s).p0, 0 ≤ n ∧ n < 1009
  | [], s, h => h
  | x :: l, s, h => by
    rw [List.foldl_cons]
    refine ln_mem at_ l _ ?_
    have m : ∀ y : Int, 0 ≤ y % 1009 ∧ y % 1009 < 1009 := fun y => ⟨Int.emod_nonneg _ (by decide), Int.emod_lt_of_pos _ (by decide)⟩
    unfold bd_law_numbers_1
    dsimp only
    intro n hn
    split at hn
    all_goals
      rcases List.mem_append.mp hn with hn | hn
      · exact h n hn
      · rw [List.mem_singleton.mp hn]; exact m _
theorem numbers_len (script : List Int) (at_ many : Int) : (law_numbers script at_ many).length = many.toNat := by
  unfold law_numbers
  dsimp only
  rw [ln_len, rng_len]
  exact Nat.zero_add _
theorem numbers_bd (script : List Int) (at_ many : Int) : ∀ n ∈ law_numbers script at_ many, 0 ≤ n ∧ n < 1009 := by
  unfold law_numbers
  dsimp only
  exact ln_mem at_ _ _ (fun n h => nomatch h)
theorem numbers_get {l : List Int} {m : Int} (hl : l.length = m.toNat) (hb : ∀ n ∈ l, 0 ≤ n ∧ n < 1009) (i : Int) (h : 0 ≤ i ∧ i < m) : 0 ≤ getI l i ∧ getI l i < 1009 := hb _ (getI_mem ⟨by omega, by omega⟩)
/-! ### lemmas: chains and heaps -/
structure Chain (c : List Int) : Prop where
  l1 : 1 ≤ c.length
  l2 : c.length ≤ 8
  v1 : ∀ v ∈ c, 1 ≤ v ∧ v ≤ 1000000
  st : ∀ i : Int, 0 ≤ i → i + 1 < c.length → getI c i < getI c (i + 1) ∧ getI c (i + 1) % getI c i = 0
def Pile (c h : List Int) : Prop := h.length = c.length ∧ ∀ n ∈ h, 0 ≤ n ∧ n ≤ 99
def Pos (c : List Int) : Prop := ∀ v ∈ c, 0 < v
theorem Chain.pos {c : List Int} (h : Chain c) : Pos c := fun v hv => (h.v1 v hv).1
theorem Chain.at_ {c : List Int} (h : Chain c) {k : Int} (hk : 0 ≤ k ∧ k < c.length) : 1 ≤ getI c k ∧ getI c k ≤ 1000000 := h.v1 _ (getI_mem ⟨by omega, by omega⟩)
theorem Pile.at_ {c p : List Int} (h : Pile c p) {k : Int} (hk : 0 ≤ k ∧ k < c.length) : 0 ≤ getI p k ∧ getI p k ≤ 99 := h.2 _ (getI_mem ⟨by have := h.1; omega, by have := h.1; omega⟩)
theorem from_to (v a b : Int) : is_from_to v a b = (decide (a ≤ v) && decide (v ≤ b)) := rfl
theorem chain_listed {c : List Int} (h : Chain c) : is_listed c = true := by
  have := h.l1
  have := h.l2
  unfold is_listed
  simp
  omega
theorem chain_right {c : List Int} (h : Chain c) : first_wrong c = none := by
  unfold first_wrong
  rw [forF_unit]
  · rfl
  · intro x hx
    obtain ⟨i, hi⟩ := List.getElem?_of_mem hx
    obtain ⟨h1, h2, h3⟩ := enumT_get hi
    have hv := h.v1 _ (List.mem_of_getElem? h3)
    unfold bd_first_wrong_1
    rw [from_to, decide_eq_true hv.1, decide_eq_true hv.2]
    rw [if_neg (by decide), if_neg]
    intro e
    rw [Bool.and_eq_true, decide_eq_true_eq, Bool.not_eq_true'] at e
    have s := h.st (x.p0 - 1) (by omega) (by omega)
    have ex : getI c (x.p0 - 1 + 1) = x.p1 := by
      rw [Int.sub_add_cancel, h2]
      rw [getI_nat _ _ h1]
      rw [List.getElem?_eq_getElem h1] at h3
      injection h3
    rw [ex] at s
    have f : follows (getI c (x.p0 - 1)) x.p1 = true := by
      unfold follows
      rw [decide_eq_true s.1, decide_eq_true s.2]; rfl
    rw [f] at e
    exact absurd e.2 (by decide)
theorem heap_right {c p : List Int} (h : Pile c p) : first_wrong_x2 p = none := by
  unfold first_wrong_x2
  rw [forF_unit]
  · rfl
  · intro x hx
    obtain ⟨i, hi⟩ := List.getElem?_of_mem hx
    obtain ⟨h1, h2, h3⟩ := enumT_get hi
    have hv := h.2 _ (List.mem_of_getElem? h3)
    unfold bd_first_wrong_x2_1
    rw [from_to, decide_eq_true hv.1, decide_eq_true hv.2, if_neg (by decide)]
def Few (c : List Int) : Prop := c.length ≤ 1000 ∧ ∀ v ∈ c, -(2 ^ 64) < v ∧ v < 2 ^ 64
theorem Chain.few {c : List Int} (h : Chain c) : Few c := ⟨by have := h.l2; omega, fun v hv => by have := h.v1 v hv; omega⟩
theorem Few.cut {c : List Int} (h : Few c) (l r : Option Int) : Few (cut c l r) := ⟨Nat.le_trans (cut_len ..) h.1, fun v hv => h.2 v (mem_cut hv)⟩
theorem house_payments_inv2 {chain : List Int} {x1 : Int} {n m i2 : Nat} {s2 : T3 (List (List Int)) Int (List Int)} {r1 : List (List Int)} {c1 : Int} {l1 : List Int} {xs : List Int} (hist : forF (bd_house_payments_2 chain x1) (xs.take i2) (T3.mk r1 c1 l1) = .nx s2) (h : Rect r1 n m ∧ l1.length = n) : Rect s2.p0 n m ∧ s2.p2.length = n := by
  refine forT_inv (fun s => Rect s.p0 n m ∧ s.p2.length = n) hist h fun s x s' _ hs e => ?_
  unfold bd_house_payments_2 at e
  injection e with e
  subst e
  exact ⟨hs.1.set _ _ _, by rw [setI_len]; exact hs.2⟩
theorem house_payments_inv {chain heap : List Int} {n m i1 : Nat} {s1 : T2 (List (List Int)) (List Int)} {r1 : List (List Int)} {l1 : List Int} {xs : List Int} (hist : s1 = (xs.take i1).foldl (bd_house_payments_1 chain heap) (T2.mk r1 l1)) (h : Rect r1 n m) (hl : l1.length = n) : Rect s1.p0 n m ∧ s1.p1.length = n := by
  refine take_inv (fun s => Rect s.p0 n m ∧ s.p1.length = n) hist ⟨h, hl⟩ fun s x _ hs => ?_
  unfold bd_house_payments_1
  dsimp only
  have hn : forF (R := T2 (List (List Int)) (List Int)) (bd_house_payments_2 chain x) (rng 0 s.p0.length) (T3.mk s.p0 (getI heap x) s.p1) = .nx _ := forF_nx (g := fun s2 x2 => _) _ _ fun s x _ => rfl
  rw [hn]
  exact house_payments_inv2 (xs := rng 0 s.p0.length) (i2 := (rng 0 s.p0.length).length) (by rw [List.take_length]; exact hn) hs
theorem house_load_inv2 {chain : List Int} {x1 : Int} {n m i2 : Nat} {s2 : T3 (List (List Int)) Int (List Int)} {r1 : List (List Int)} {c1 : Int} {l1 : List Int} {xs : List Int} (hist : forF (bd_house_load_2 chain x1) (xs.take i2) (T3.mk r1 c1 l1) = .nx s2) (h : Rect r1 n m ∧ l1.length = n) : Rect s2.p0 n m ∧ s2.p2.length = n := by
  refine forT_inv (fun s => Rect s.p0 n m ∧ s.p2.length = n) hist h fun s x s' _ hs e => ?_
  unfold bd_house_load_2 at e
  injection e with e
  subst e
  exact ⟨hs.1.set _ _ _, by rw [setI_len]; exact hs.2⟩
theorem house_load_inv {chain heap : List Int} {n m i1 : Nat} {s1 : T2 (List (List Int)) (List Int)} {r1 : List (List Int)} {l1 : List Int} {xs : List Int} (hist : s1 = (xs.take i1).foldl (bd_house_load_1 chain heap) (T2.mk r1 l1)) (h : Rect r1 n m) (hl : l1.length = n) : Rect s1.p0 n m ∧ s1.p1.length = n := by
  refine take_inv (fun s => Rect s.p0 n m ∧ s.p1.length = n) hist ⟨h, hl⟩ fun s x _ hs => ?_
  unfold bd_house_load_1
  dsimp only
  have hn : forF (R := T2 (List (List Int)) (List Int)) (bd_house_load_2 chain x) (rng 0 s.p0.length) (T3.mk s.p0 (getI heap x) s.p1) = .nx _ := forF_nx (g := fun s2 x2 => _) _ _ fun s x _ => rfl
  rw [hn]
  exact house_load_inv2 (xs := rng 0 s.p0.length) (i2 := (rng 0 s.p0.length).length) (by rw [List.take_length]; exact hn) hs
theorem foldl_inv' {S α : Type} {f : S → α → S} {l : List α} {s : S} (P : S → Prop) (h : P s) (hs : ∀ s x, x ∈ l → P s → P (f s x)) : P (l.foldl f s) := foldl_inv P l s h hs
theorem idxI_lt {xs : List Int} {y : Int} (h : y ∈ xs) : 0 ≤ idxI xs y ∧ idxI xs y < xs.length := by
  unfold idxI
  have := List.findIdx_lt_length_of_exists (p := (· == y)) ⟨y, h, beq_self_eq_true y⟩
  omega
theorem least_lt {xs : List Int} {n : Nat} (hn : 1 ≤ n) (h : xs.length = n) : xs ≠ [] ∧ lmin xs ∈ xs ∧ 0 ≤ neediest xs ∧ neediest xs < n := by
  have h0 : xs ≠ [] := fun e => by rw [e] at h; have : ([] : List Int).length = 0 := rfl; omega
  have := idxI_lt (lmin_mem h0)
  unfold neediest
  exact ⟨h0, lmin_mem h0, by omega, by omega⟩
/-! by turns -/
theorem by_turns_inv2 {n x1 : Int} {a m i2 : Nat} {s2 : T2 (List (List Int)) Int} {r1 : List (List Int)} {t1 : Int} {xs : List Int} (hist : s2 = (xs.take i2).foldl (bd_by_turns_2 n x1) (T2.mk r1 t1)) (h : Rect r1 a m) : Rect s2.p0 a m :=
  take_inv (fun s => Rect s.p0 a m) hist h fun s x _ hs => hs.set _ _ _
theorem by_turns_inv {heap : List Int} {n : Int} {a m i1 : Nat} {s1 : T2 (List (List Int)) Int} {r1 : List (List Int)} {t1 : Int} {xs : List Int} (hist : s1 = (xs.take i1).foldl (bd_by_turns_1 heap n) (T2.mk r1 t1)) (h : Rect r1 a m) : Rect s1.p0 a m :=
  take_inv (fun s => Rect s.p0 a m) hist h fun s x _ hs => foldl_inv' (fun s : T2 (List (List Int)) Int => Rect s.p0 a m) hs fun s x _ hs => hs.set _ _ _
theorem law_turns_inv2 {n x1 : Int} {a m i2 : Nat} {s2 : T2 (List (List Int)) Int} {r1 : List (List Int)} {t1 : Int} {xs : List Int} (hist : s2 = (xs.take i2).foldl (bd_law_4 n x1) (T2.mk r1 t1)) (h : Rect r1 a m) : Rect s2.p0 a m :=
  take_inv (fun s => Rect s.p0 a m) hist h fun s x _ hs => hs.set _ _ _
theorem law_turns_inv {heap : List Int} {n : Int} {a m i1 : Nat} {s1 : T2 (List (List Int)) Int} {r1 : List (List Int)} {t1 : Int} {xs : List Int} (hist : s1 = (xs.take i1).foldl (bd_law_3 heap n) (T2.mk r1 t1)) (h : Rect r1 a m) : Rect s1.p0 a m :=
  take_inv (fun s => Rect s.p0 a m) hist h fun s x _ hs => foldl_inv' (fun s : T2 (List (List Int)) Int => Rect s.p0 a m) hs fun s x _ hs => hs.set _ _ _
/-! by need -/
def RS (s : T2 (List (List Int)) (List Int)) (a m : Nat) : Prop := Rect s.p0 a m ∧ s.p1.length = a
theorem by_need_step2 {chain : List Int} {x1 : Int} {a m : Nat} (s : T2 (List (List Int)) (List Int)) (x : Int) (h : RS s a m) : RS (bd_by_need_2 chain x1 s x) a m := ⟨h.1.set _ _ _, by
  show (setI _ _ _).length = a
  rw [setI_len]; exact h.2⟩
theorem by_need_inv2 {chain : List Int} {x1 : Int} {a m i2 : Nat} {s2 s0 : T2 (List (List Int)) (List Int)} {xs : List Int} (hist : s2 = (xs.take i2).foldl (bd_by_need_2 chain x1) s0) (h : RS s0 a m) : RS s2 a m :=
  take_inv (fun s => RS s a m) hist h fun s x _ hs => by_need_step2 s x hs
theorem by_need_inv {chain heap : List Int} {a m i1 : Nat} {s1 s0 : T2 (List (List Int)) (List Int)} {xs : List Int} (hist : s1 = (xs.take i1).foldl (bd_by_need_1 chain heap) s0) (h : RS s0 a m) : RS s1 a m :=
  take_inv (fun s => RS s a m) hist h fun s x _ hs => foldl_inv' (fun s => RS s a m) hs fun s x _ hs => by_need_step2 s x hs
theorem law_need_step2 {chain : List Int} {x1 : Int} {a m : Nat} (s : T2 (List (List Int)) (List Int)) (x : Int) (h : RS s a m) : RS (bd_law_need_2 chain x1 s x) a m := ⟨h.1.set _ _ _, by
  show (setI _ _ _).length = a
  rw [setI_len]; exact h.2⟩
theorem law_need_inv2 {chain : List Int} {x1 : Int} {a m i2 : Nat} {s2 s0 : T2 (List (List Int)) (List Int)} {xs : List Int} (hist : s2 = (xs.take i2).foldl (bd_law_need_2 chain x1) s0) (h : RS s0 a m) : RS s2 a m :=
  take_inv (fun s => RS s a m) hist h fun s x _ hs => law_need_step2 s x hs
theorem law_need_inv {chain heap : List Int} {a m i1 : Nat} {s1 s0 : T2 (List (List Int)) (List Int)} {xs : List Int} (hist : s1 = (xs.take i1).foldl (bd_law_need_1 chain heap) s0) (h : RS s0 a m) : RS s1 a m :=
  take_inv (fun s => RS s a m) hist h fun s x _ hs => foldl_inv' (fun s => RS s a m) hs fun s x _ hs => law_need_step2 s x hs
/-! laid -/
def R3 (s : T3 (List (List Int)) Int (List Int)) (a m : Nat) : Prop := Rect s.p0 a m ∧ s.p2.length = a
theorem law_laid_step2 {chain : List Int} {x1 : Int} {a m : Nat} (s : T3 (List (List Int)) Int (List Int)) (x : Int) (h : R3 s a m) : R3 (bd_law_laid_2 chain x1 s x) a m := ⟨h.1.set _ _ _, by
  show (setI _ _ _).length = a
  rw [setI_len]; exact h.2⟩
theorem law_laid_inv2 {chain : List Int} {x1 : Int} {a m i2 : Nat} {s2 s0 : T3 (List (List Int)) Int (List Int)} {xs : List Int} (hist : s2 = (xs.take i2).foldl (bd_law_laid_2 chain x1) s0) (h : R3 s0 a m) : R3 s2 a m :=
  take_inv (fun s => R3 s a m) hist h fun s x _ hs => law_laid_step2 s x hs
theorem law_laid_inv {chain heap boxes : List Int} {a m i1 : Nat} {s1 s0 : T2 (List (List Int)) (List Int)} {xs : List Int} (hist : s1 = (xs.take i1).foldl (bd_law_laid_1 chain heap boxes) s0) (h : RS s0 a m) : RS s1 a m :=
  take_inv (fun s => RS s a m) hist h fun s x _ hs => by
    have := foldl_inv' (f := bd_law_laid_2 chain x) (l := rng 0 (Int.toNat (boxes.length : Int))) (s := T3.mk s.p0 (getI heap x) s.p1) (fun s => R3 s a m) hs fun s y _ hs => law_laid_step2 s y hs
    exact ⟨this.1, this.2⟩
/-! payments -/
def R3' (s : T3 (List (List Int)) (List Int) Int) (a m : Nat) : Prop := Rect s.p0 a m ∧ s.p1.length = a
theorem law_pay_step3 {chain : List Int} {x1 x2 : Int} {a m : Nat} {s s' : T3 (List (List Int)) (List Int) Int} (e : bd_law_payments_3 chain x1 x2 s = .nx s') (h : R3' s a m) : R3' s' a m := by
  unfold bd_law_payments_3 at e
  injection e with e
  subst e
  exact ⟨h.1.set _ _ _, by show (setI _ _ _).length = a; rw [setI_len]; exact h.2⟩
theorem law_pay_less {chain : List Int} {x1 x2 : Int} {s s' : T3 (List (List Int)) (List Int) Int} (hc : ct_law_payments_3 chain x1 x2 s = true) (e : bd_law_payments_3 chain x1 x2 s = .nx s') : s'.p2.toNat < s.p2.toNat := by
  unfold bd_law_payments_3 at e
  injection e with e
  subst e
  unfold ct_law_payments_3 at hc
  rw [Bool.and_eq_true, decide_eq_true_eq] at hc
  have := hc.1
  show (s.p2 - 1).toNat < s.p2.toNat
  omega
theorem whF_inv {S R : Type} {c : S → Bool} {f : S → Fr S R} (P : S → Prop) (hs : ∀ s s', P s → c s = true → f s = .nx s' → P s') : ∀ (n : Nat) (s s' : S), P s → whF c f n s = .nx s' → P s'
  | 0, s, s', h, e => by injection e with e; rw [← e]; exact h
  | n + 1, s, s', h, e => by
    have e : (if c s = true then (match f s with | .nx s' => whF c f n s' | .rt r => .rt r | .bk s' => .bk s') else Fr.nx s) = Fr.nx s' := e
    by_cases hc : c s = true
    · rw [if_pos hc] at e
      cases q : f s with
      | nx s2 => rw [q] at e; exact whF_inv P hs n s2 s' (hs s s2 h hc q) e
      | rt r => rw [q] at e; cases e
      | bk r => rw [q] at e; cases e
    · rw [if_neg hc] at e
      injection e with e
      rw [← e]; exact h
theorem whF_nx {S R : Type} {c : S → Bool} {f : S → Fr S R} {g : S → S} (hg : ∀ s, f s = .nx (g s)) : ∀ (n : Nat) (s : S), ∃ s', whF c f n s = .nx s'
  | 0, s => ⟨s, rfl⟩
  | n + 1, s => by
    by_cases hc : c s = true
    · rw [whF_on hc (hg s)]; exact whF_nx hg n (g s)
    · exact ⟨s, whF_end (by rw [Bool.eq_false_iff]; exact hc)⟩
theorem law_pay_step2 {chain : List Int} {x1 : Int} {a m : Nat} (s : T3 (List (List Int)) (List Int) Int) (x : Int) (h : R3' s a m) : R3' (bd_law_payments_2 chain x1 s x) a m := by
  unfold bd_law_payments_2
  obtain ⟨s', e⟩ := whF_nx (c := ct_law_payments_3 chain x1 x) (f := bd_law_payments_3 (chain := chain) x1 x) (fun s => rfl) (((fun (s : (T3 (List (List Int)) (List Int) Int)) => (s.p2).toNat) (T3.mk s.p0 s.p1 s.p2)) + 1) (T3.mk s.p0 s.p1 s.p2)
  rw [e]
  exact whF_inv (fun s => R3' s a m) (fun s s' h _ e => law_pay_step3 e h) _ _ _ h e
theorem law_pay_inv2 {chain : List Int} {x1 : Int} {a m i2 : Nat} {s2 s0 : T3 (List (List Int)) (List Int) Int} {xs : List Int} (hist : s2 = (xs.take i2).foldl (bd_law_payments_2 chain x1) s0) (h : R3' s0 a m) : R3' s2 a m :=
  take_inv (fun s => R3' s a m) hist h fun s x _ hs => law_pay_step2 s x hs
theorem law_pay_inv {chain heap amounts : List Int} {a m i1 : Nat} {s1 s0 : T2 (List (List Int)) (List Int)} {xs : List Int} (hist : s1 = (xs.take i1).foldl (bd_law_payments_1 chain heap amounts) s0) (h : RS s0 a m) : RS s1 a m :=
  take_inv (fun s => RS s a m) hist h fun s x _ hs => by
    have := foldl_inv' (f := bd_law_payments_2 chain x) (l := rng 0 (Int.toNat (amounts.length : Int))) (s := T3.mk s.p0 s.p1 (getI heap x)) (fun s => R3' s a m) hs fun s y _ hs => law_pay_step2 s y hs
    exact ⟨this.1, this.2⟩
theorem hold_step {chain heap : List Int} {n : Int} : ∀ s s' : T2 Int Int, True → ct_hold_for_1 s = true → bd_hold_for_1 chain heap n s = .nx s' → True ∧ (s'.p0 - s'.p1).toNat < (s.p0 - s.p1).toNat := by
  intro s s' _ hc e
  refine ⟨trivial, ?_⟩
  unfold ct_hold_for_1 at hc
  rw [decide_eq_true_eq] at hc
  unfold bd_hold_for_1 at e
  injection e with e
  subst e
  dsimp only
  split <;> omega
theorem spare_len (chain heap amounts : List Int) : (spare_list chain heap amounts).length = chain.length + 1 := by
  unfold spare_list
  rw [List.length_map, rng_len]
  omega
/-! the law's chain -/
def CF (c : List Int) (k : Nat) : Prop := c.length = 1 + k ∧ (∀ i : Nat, i < c.length → 1 ≤ getI c i ∧ getI c i ≤ 3 * 5 ^ i) ∧ (∀ i : Nat, i + 1 < c.length → getI c i < getI c ((i + 1 : Nat) : Int) ∧ getI c ((i + 1 : Nat) : Int) % getI c i = 0)
theorem getI_app {c : List Int} {x : Int} {i : Nat} : getI (c ++ [x]) i = if i < c.length then getI c i else if i = c.length then x else 0 := by
  rw [getI_eq, getI_eq]
  by_cases h : i < c.length
  · rw [if_pos h, List.getElem?_append_left h]
  · rw [if_neg h, List.getElem?_append_right (by omega)]
    by_cases h2 : i = c.length
    · rw [if_pos h2, h2, Nat.sub_self]; rfl
    · rw [if_neg h2]
      obtain ⟨j, hj⟩ : ∃ j, i - c.length = j + 1 := ⟨i - c.length - 1, by omega⟩
      rw [hj]; rfl
theorem getI_last {c : List Int} {k : Nat} (h : c.length = k + 1) : getI c (-1) = getI c k := by
  unfold getI atI ixN
  rw [if_neg (by omega), if_pos (by omega), if_pos (by omega), if_pos (by omega)]
  show (c[(-1 + (c.length : Int)).toNat]?).getD default = (c[(k : Int).toNat]?).getD default
  rw [show (-1 + (c.length : Int)).toNat = (k : Int).toNat by omega]
theorem CF.step {c : List Int} {k : Nat} (h : CF c k) {f : Int} (hf : 0 ≤ f ∧ f < 4) : CF (c ++ [getI c (-1) * (2 + f)]) (k + 1) := by
  obtain ⟨h1, h2, h3⟩ := h
  rw [getI_last (show c.length = k + 1 by omega)]
  have hv := h2 k (by omega)
  refine ⟨by rw [List.length_append, h1]; rfl, fun i hi => ?_, fun i hi => ?_⟩
  · rw [List.length_append] at hi
    have hi : i < c.length + 1 := hi
    rw [getI_app]
    by_cases c1 : i < c.length
    · rw [if_pos c1]; exact h2 i c1
    · rw [if_neg c1, if_pos (by omega)]
      have i1 : i = k + 1 := by omega
      subst i1
      have p5 : (3 * 5 ^ (k + 1) : Int) = 5 * (3 * 5 ^ k) := by rw [Int.pow_succ]; omega
      rw [p5]
      generalize (3 * 5 ^ k : Int) = P at *
      refine ⟨?_, ?_⟩
      · have := Int.mul_le_mul hv.1 (show (1 : Int) ≤ 2 + f by omega) (by decide) (by omega)
        omega
      · have := Int.mul_le_mul hv.2 (show 2 + f ≤ 5 by omega) (by omega) (by omega)
        omega
  · rw [List.length_append] at hi
    have hi : i + 1 < c.length + 1 := hi
    rw [getI_app, getI_app, if_pos (show i < c.length by omega)]
    by_cases c1 : i + 1 < c.length
    · rw [if_pos c1]; exact h3 i c1
    · rw [if_neg c1, if_pos (by omega)]
      have i1 : i = k := by omega
      subst i1
      refine ⟨?_, Int.mul_emod_right _ _⟩
      have := Int.mul_le_mul (Int.le_refl (getI c i)) (show (2 : Int) ≤ 2 + f by omega) (by decide) (by omega)
      omega
theorem chain_fold {numbers : List Int} (c0 : Int) (h0 : 1 ≤ c0 ∧ c0 ≤ 3) : ∀ k : Nat, CF ((rng 0 k).foldl (bd_law_chain_1 numbers) [c0]) k
  | 0 => by
    refine ⟨rfl, fun i h => ?_, fun i h => ?_⟩
    · have : i = 0 := by
        have : i < 1 := h
        omega
      subst this
      exact ⟨h0.1, by show c0 ≤ 3; omega⟩
    · exfalso
      have : i + 1 < 1 := h
      omega
  | k + 1 => by
    have e : rng 0 (k + 1) = rng 0 k ++ [(k : Int)] := by
      unfold rng
      rw [List.range_succ, List.map_append]
      simp
    rw [e, List.foldl_append]
    exact (chain_fold c0 h0 k).step ⟨Int.emod_nonneg _ (by decide), Int.emod_lt_of_pos _ (by decide)⟩
theorem CF.chain {c : List Int} {k : Nat} (h : CF c k) (hk : k ≤ 7) : Chain c := by
  obtain ⟨a1, a2, a3⟩ := h
  refine ⟨by omega, by omega, fun v hv => ?_, fun i hi hl => ?_⟩
  · obtain ⟨i, hi, rfl⟩ := List.getElem_of_mem hv
    have := a2 i hi
    rw [getI_nat c i hi] at this
    have p : (5 : Int) ^ i ≤ 5 ^ 7 := by
      have : (5 : Nat) ^ i ≤ 5 ^ 7 := Nat.pow_le_pow_right (by decide) (by omega)
      have e : ((5 ^ i : Nat) : Int) = (5 : Int) ^ i := Int.natCast_pow 5 i
      have e2 : ((5 ^ 7 : Nat) : Int) = (5 : Int) ^ 7 := by decide
      rw [← e, ← e2]
      omega
    have e7 : (5 : Int) ^ 7 = 78125 := by decide
    omega
  · obtain ⟨j, rfl⟩ : ∃ j : Nat, i = (j : Int) := ⟨i.toNat, by omega⟩
    have := a3 j (by omega)
    rw [show ((j : Int) + 1) = ((j + 1 : Nat) : Int) by omega]
    exact this
theorem law_chain_ok {script : List Int} {at_ most : Int} (hm : 2 ≤ most ∧ most ≤ 8) : Chain (law_chain script at_ most) ∧ 2 ≤ (law_chain script at_ most).length ∧ ((law_chain script at_ most).length : Int) ≤ most := by
  unfold law_chain
  dsimp only
  generalize law_numbers script at_ 12 = n
  have h1 : 0 ≤ getI n 1 % (most - 1) ∧ getI n 1 % (most - 1) < most - 1 := ⟨Int.emod_nonneg _ (by omega), Int.emod_lt_of_pos _ (by omega)⟩
  have h0 : 0 ≤ getI n 0 % 3 ∧ getI n 0 % 3 < 3 := ⟨Int.emod_nonneg _ (by decide), Int.emod_lt_of_pos _ (by decide)⟩
  obtain ⟨k, hk⟩ : ∃ k : Nat, k = (1 + getI n 1 % (most - 1)).toNat := ⟨_, rfl⟩
  rw [← hk]
  have hf := chain_fold (numbers := n) (1 + getI n 0 % 3) (by omega) k
  have hl := hf.1
  exact ⟨hf.chain (by omega), by omega, by omega⟩
theorem law_chain_app {numbers : List Int} {i1 m : Nat} {s1 : List Int} {c0 : Int} (hist : s1 = ((rng 0 m).take i1).foldl (bd_law_chain_1 numbers) [c0]) (hm : m ≤ 1000) : 1 ≤ s1.length ∧ s1.length ≤ 1001 := by
  have : ∀ (l : List Int) (s : List Int), (l.foldl (bd_law_chain_1 numbers) s).length = s.length + l.length := by
    intro l
    induction l with
    | nil => intro s; rfl
    | cons x l ih =>
      intro s
      rw [List.foldl_cons, ih, List.length_cons]
      unfold bd_law_chain_1
      dsimp only
      rw [List.length_append]
      simp
      omega
  have h := this ((rng 0 m).take i1) [c0]
  rw [← hist, List.length_take, rng_len] at h
  have : ([c0] : List Int).length = 1 := rfl
  omega
theorem law_heap_ok {script chain : List Int} {at_ most : Int} (hm : 0 ≤ most ∧ most ≤ 99) : Pile chain (law_heap script at_ chain most) := by
  have hn := numbers_len script at_ (chain.length : Int)
  unfold law_heap
  refine ⟨by rw [List.length_map, hn]; omega, fun n h => ?_⟩
  obtain ⟨k, _, rfl⟩ := List.mem_map.mp h
  exact ⟨Int.emod_nonneg _ (by omega), by have := Int.emod_lt_of_pos k (show 0 < 1 + most by omega); omega⟩
/-! weights -/
def Weights (w : List Int) : Prop := 2 ≤ w.length ∧ w.length ≤ 8 ∧ ∀ v ∈ w, 1 ≤ v ∧ v ≤ 100
theorem weights_dead1 {value : List Int} (hw : Weights value) (h : ((!true) || (!(decide ((2 : Int) ≤ (value.length : Int)) && decide ((value.length : Int) ≤ (8 : Int))))) = true) : False := by
  have h1 := hw.1
  have h2 := hw.2.1
  simp at h
  omega
theorem weights_dead2 {value : List Int} (hw : Weights value) (h : (!((value.map (fun weight_1 => ((is_from_to weight_1 (1 : Int) (100 : Int)) : Bool))).all id)) = true) : False := by
  rw [Bool.not_eq_true', Bool.eq_false_iff] at h
  refine h (List.all_eq_true.mpr fun b hb => ?_)
  obtain ⟨v, hv, rfl⟩ := List.mem_map.mp hb
  have := hw.2.2 v hv
  rw [from_to, decide_eq_true this.1, decide_eq_true this.2]; rfl
theorem sum_bd {l : List Int} {a b : Int} (h : ∀ v ∈ l, a ≤ v ∧ v ≤ b) : l.length * a ≤ l.sum ∧ l.sum ≤ l.length * b := by
  induction l with
  | nil => simp
  | cons x l ih =>
    have h1 := h x List.mem_cons_self
    have h2 := ih fun v hv => h v (List.mem_cons_of_mem _ hv)
    rw [List.sum_cons, List.length_cons, Int.natCast_add, Int.add_mul, Int.add_mul]
    simp only [Int.natCast_one, Int.one_mul]
    omega
theorem weights_sum {w : List Int} (h : Weights w) : 2 ≤ w.sum ∧ w.sum ≤ 800 := by
  have := sum_bd h.2.2
  have := h.1
  have := h.2.1
  omega
theorem amounts_len {chain heap w : List Int} {a : Option (List Int)} (e : a = parts chain heap w) (h : Weights w) (hn : a.isNone = false) : (og a).length ≤ 1000 := by
  have h2 := h.2.1
  subst e
  unfold parts amounts_of at *
  dsimp only at *
  split at hn
  · cases hn
  · rename_i c
    rw [if_neg c]
    show (List.map _ _).length ≤ 1000
    rw [List.length_map]; omega
theorem told_right {chain heap a : List Int} {f : (Sum (T4 Str Int Int Int) (T2 Str (List (List Int))))} (e : f = told_answer chain heap a) (h : decide ((Sum.elim (fun t => t.p0) (fun t => t.p0) f) = ("payments" : Str)) = true) : f.isRight = true := by
  subst e
  unfold told_answer at *
  dsimp only at *
  split at h
  · exfalso
    exact absurd (show ("value" : Str) = ("payments" : Str) from of_decide_eq_true h) (by decide)
  · rename_i c
    rw [if_neg c]; rfl
theorem by_need_rect {chain heap : List Int} {n : Int} (hn : 0 ≤ n) : Rect (by_need chain heap n) n.toNat chain.length := by
  unfold by_need
  dsimp only
  have hr : Rect ((rng 0 (Int.toNat n)).map (fun x_1 => ((repL ([(0 : Int)]) (chain.length : Int)) : (List Int)))) n.toNat chain.length := by
    have q := rect_new (rng 0 (Int.toNat n)) (0 : Int) (chain.length : Int)
    rw [rng_len] at q; exact q
  have h := by_need_inv (chain := chain) (heap := heap) (a := n.toNat) (m := chain.length) (s0 := T2.mk ((rng 0 (Int.toNat n)).map (fun x_1 => ((repL ([(0 : Int)]) (chain.length : Int)) : (List Int)))) (repL [(0 : Int)] n)) (xs := rngC ((chain.length : Int) - (1 : Int)) (-1) (Int.toNat (((chain.length : Int) - (1 : Int)) - (-(1 : Int))))) (i1 := (rngC ((chain.length : Int) - (1 : Int)) (-1) (Int.toNat (((chain.length : Int) - (1 : Int)) - (-(1 : Int))))).length) (by rw [List.take_length]) ⟨hr, repL_len _ _⟩
  exact h.1
theorem map_ne {α β : Type} {f : α → β} {l : List α} (h : 1 ≤ l.length) : l.map f ≠ [] := fun e => by
  have := congrArg List.length e
  rw [List.length_map] at this
  have : ([] : List β).length = 0 := rfl
  omega
theorem worths_ne {chain : List Int} {rows : List (List Int)} (h : 1 ≤ rows.length) : worths chain rows ≠ [] := map_ne h
theorem law_turns_end {heap : List Int} {n : Int} {a m : Nat} {s1 : T2 (List (List Int)) Int} {r1 : List (List Int)} {t1 : Int} {xs : List Int} (hist : s1 = xs.foldl (bd_law_3 heap n) (T2.mk r1 t1)) (h : Rect r1 a m) : Rect s1.p0 a m :=
  law_turns_inv (xs := xs) (i1 := xs.length) (by rw [List.take_length]; exact hist) h
theorem law_weights_ok {l : List Int} (hl : l.length = 9) (hb : ∀ n ∈ l, 0 ≤ n ∧ n < 1009) (x : Int) : Weights (cut (l.map (fun number_1 => (((1 : Int) + (number_1 % (4 : Int))) : Int))) none (some ((2 : Int) + (x % (3 : Int))))) := by
  have h1 : 0 ≤ x % 3 ∧ x % 3 < 3 := ⟨Int.emod_nonneg _ (by decide), Int.emod_lt_of_pos _ (by decide)⟩
  have hl' : (l.map (fun number_1 => (((1 : Int) + (number_1 % (4 : Int))) : Int))).length = 9 := by rw [List.length_map]; exact hl
  refine ⟨?_, ?_, fun v hv => ?_⟩
  · rw [cut_take _ ⟨by omega, by omega⟩, List.length_take, hl']; omega
  · rw [cut_take _ ⟨by omega, by omega⟩, List.length_take, hl']; omega
  · obtain ⟨k, _, rfl⟩ := List.mem_map.mp (mem_cut hv)
    have : 0 ≤ k % 4 ∧ k % 4 < 4 := ⟨Int.emod_nonneg _ (by decide), Int.emod_lt_of_pos _ (by decide)⟩
    omega
end K96


namespace K96
open PySem L2 Fw Emb NumText
/-! ### the plain law of k96 -/
theorem worth_of_eq (c h : List Int) : worth_of c h = Wo c h := wo_zip c h
theorem law_worth_eq {c h : List Int} (hl : c.length ≤ h.length) : law_worth c h = Wo c h := by
  unfold law_worth
  rw [Int.toNat_natCast]
  exact wo_rng c h hl
theorem greater_eq {c h : List Int} {k : Int} (hk : 0 ≤ k ∧ k ≤ c.length) (hl : h.length = c.length) : greater_of c h k = Wo (c.drop k.toNat) (h.drop k.toNat) := by
  unfold greater_of
  rw [worth_of_eq, cut_drop c hk, cut_drop h (by rw [hl]; exact hk)]
theorem law_greater_eq {c h : List Int} {k : Int} (hk : 0 ≤ k ∧ k ≤ c.length) (hl : h.length = c.length) : law_greater c h k = Wo (c.drop k.toNat) (h.drop k.toNat) := wo_drop hk (by omega)
theorem lesser_eq {c h : List Int} {k : Int} (hk : 0 ≤ k ∧ k ≤ c.length) (hl : h.length = c.length) : lesser_of c h k = law_lesser c h k := by
  unfold lesser_of law_lesser
  rw [worth_of_eq, cut_take c hk, cut_take h (by rw [hl]; exact hk)]
  exact (wo_take hk (by omega)).symm
/-- the worth of the pieces from k on -/
def G (c h : List Int) (k : Nat) : Int := Wo (c.drop k) (h.drop k)
theorem chain_dvd {c : List Int} (hc : Chain c) {k : Nat} (hk : k + 1 < c.length) : getI c k ∣ getI c ((k + 1 : Nat) : Int) := by
  have := (hc.st k (by omega) (by omega)).2
  rw [show ((k : Int) + 1) = ((k + 1 : Nat) : Int) by omega] at this
  exact Int.dvd_of_emod_eq_zero this
theorem G_step {c h : List Int} (hh : h.length = c.length) {k : Nat} (hk : k < c.length) : G c h k = getI c k * getI h k + G c h (k + 1) := wo_step hk (by omega)
theorem G_end (c h : List Int) : G c h c.length = 0 := wo_end c h
theorem G_dvd {c h : List Int} (hc : Chain c) (hh : h.length = c.length) : ∀ (j k : Nat), k + j + 1 = c.length → getI c k ∣ G c h k
  | 0, k, e => by
    rw [G_step hh (by omega), show k + 1 = c.length by omega, G_end, Int.add_zero]
    exact Int.dvd_mul_right ..
  | j + 1, k, e => by
    rw [G_step hh (by omega)]
    exact Int.dvd_add (Int.dvd_mul_right ..) (Int.dvd_trans (chain_dvd hc (by omega)) (G_dvd hc hh j (k + 1) (by omega)))
theorem G_nonneg {c h : List Int} (hc : Chain c) (hh : Pile c h) (k : Nat) : 0 ≤ G c h k :=
  wo_nonneg _ _ (fun v hv => by have := hc.v1 v (List.mem_of_mem_drop hv); omega) (fun v hv => (hh.2 v (List.mem_of_mem_drop hv)).1)
theorem G_mono {c h : List Int} (hc : Chain c) (hh : Pile c h) : ∀ (j k : Nat), k + j = c.length → G c h k ≤ G c h 0
  | j, 0, _ => Int.le_refl _
  | j, k + 1, e => by
    refine Int.le_trans ?_ (G_mono hc hh (j + 1) k (by omega))
    rw [G_step hh.1 (show k < c.length by omega)]
    have h1 := hc.at_ (k := (k : Int)) ⟨by omega, by omega⟩
    have h2 := hh.at_ (k := (k : Int)) ⟨by omega, by omega⟩
    have := Int.mul_nonneg (show 0 ≤ getI c k by omega) h2.1
    omega
/-- what one must take of the pieces from k on, up to whole pieces -/
def dueK (c h : List Int) (n : Int) (k : Nat) : Int := ((G c h k / getI c k + n - 1) / n) * getI c k
theorem due_iff {c h : List Int} (hc : Chain c) (hh : h.length = c.length) {n m : Int} (hn : 1 ≤ n) {k : Nat} (hk : k < c.length) : dueK c h n k ≤ m ↔ G c h k ≤ n * (m / getI c k * getI c k) := by
  have hck := hc.at_ (k := (k : Int)) ⟨by omega, by omega⟩
  obtain ⟨p, hp⟩ := G_dvd hc hh (c.length - k - 1) k (by omega)
  unfold dueK
  rw [hp]
  generalize getI c k = ck at hck
  have h0 : (0 : Int) < ck := by omega
  rw [Int.mul_ediv_cancel_left p (by omega), ← Int.le_ediv_iff_mul_le h0]
  generalize m / ck = q
  have e : n * (q * ck) = ck * (n * q) := by rw [Int.mul_comm q ck, ← Int.mul_assoc, Int.mul_comm n ck, Int.mul_assoc]
  rw [e]
  have h1 : (p + n - 1) / n ≤ q ↔ p ≤ n * q := by
    constructor
    · intro h
      have : (p + n - 1) / n < q + 1 := by omega
      rw [Int.ediv_lt_iff_lt_mul (by omega)] at this
      rw [Int.add_mul, Int.one_mul, Int.mul_comm q n] at this
      omega
    · intro h
      have : (p + n - 1) / n < q + 1 := by
        rw [Int.ediv_lt_iff_lt_mul (by omega), Int.add_mul, Int.one_mul, Int.mul_comm q n]
        omega
      omega
  rw [h1]
  constructor
  · intro h; exact Int.mul_le_mul_of_nonneg_left h (by omega)
  · intro h; exact Int.le_of_mul_le_mul_left h h0
def dueA (c h : List Int) (n : Int) : Int := (rng 0 (Int.toNat (c.length : Int))).foldl (bd_law_2 c h n) 0
theorem foldl_max {α : Type} (f : α → Int) : ∀ (l : List α) (a m : Int), l.foldl (fun s x => max s (f x)) a ≤ m ↔ a ≤ m ∧ ∀ x ∈ l, f x ≤ m
  | [], a, m => by simp
  | x :: l, a, m => by
    rw [List.foldl_cons, foldl_max f l]
    simp only [List.mem_cons, forall_eq_or_imp]
    rw [Int.max_le, and_assoc]
theorem dueA_le {c h : List Int} (hc : Chain c) (hh : h.length = c.length) {n m : Int} : dueA c h n ≤ m ↔ 0 ≤ m ∧ ∀ k : Nat, k < c.length → dueK c h n k ≤ m := by
  have e : dueA c h n = (rng 0 c.length).foldl (fun s x => max s (dueK c h n x.toNat)) 0 := by
    unfold dueA
    rw [Int.toNat_natCast]
    refine foldl_eq (fun _ => True) _ _ trivial fun s x hx _ => ⟨?_, trivial⟩
    have := mem_rng hx
    unfold bd_law_2 dueK G
    dsimp only
    rw [law_greater_eq ⟨this.1, by omega⟩ hh, show ((x.toNat : Nat) : Int) = x by omega]
  rw [e, foldl_max]
  refine and_congr_right fun _ => ⟨fun h k hk => ?_, fun h x hx => ?_⟩
  · have := h (k : Int) (by
      unfold rng
      exact List.mem_map.mpr ⟨k, List.mem_range.mpr hk, by omega⟩)
    rw [Int.toNat_natCast] at this
    exact this
  · have := mem_rng hx
    exact h _ (by omega)
theorem sum_repl (n : Nat) (x : Int) : (List.replicate n x).sum = n * x := by
  induction n with
  | zero => simp
  | succ n ih =>
    rw [List.replicate_succ, List.sum_cons, ih]
    rw [Int.natCast_add, Int.add_mul]
    simp only [Int.natCast_one, Int.one_mul]
    omega
theorem room_eq (c : List Int) (m n k : Int) (hn : 0 ≤ n) : room_of c (repL [m] n) k = n * (m / getI c k * getI c k) := by
  unfold room_of
  rw [repL_one, List.map_replicate, sum_repl]
  congr 1
  omega
theorem forF_none {α β : Type} {f : Unit → α → Fr Unit (Option β)} {b : α → Bool} {r : α → β} : ∀ {l : List α}, (∀ x ∈ l, f () x = if b x = true then .rt (some (r x)) else .nx ()) → (((forF f l ()).go (fun _ => (none : Option β))).isNone = true ↔ ∀ x ∈ l, b x = false)
  | [], _ => by simp [forF, Fr.go]
  | x :: l, h => by
    have hx := h x List.mem_cons_self
    have ih := forF_none (l := l) fun y hy => h y (List.mem_cons_of_mem _ hy)
    rw [forF_cons, hx]
    cases hb : b x with
    | true =>
      rw [if_pos rfl]
      simp [Fr.go, hb]
    | false =>
      rw [if_neg Bool.false_ne_true]
      show ((forF f l ()).go _).isNone = true ↔ _
      rw [ih]
      simp [hb]
theorem mem_downs {n : Int} {x : Int} (h : 0 ≤ x ∧ x < n) : x ∈ rngC (n - 1) (-1) (Int.toNat (n - 1 - -1)) := by
  unfold rngC
  exact List.mem_map.mpr ⟨(n - 1 - x).toNat, List.mem_range.mpr (by omega), by omega⟩
theorem full_iff {c h : List Int} (hc : Chain c) (hh : h.length = c.length) {n m : Int} (hn : 1 ≤ n) (hm : 0 ≤ m) : (last_full c h (repL [m] n)).isNone = true ↔ dueA c h n ≤ m := by
  rw [dueA_le hc hh]
  unfold last_full
  rw [forF_none (b := fun x => decide (room_of c (repL [m] n) x < greater_of c h x)) (r := fun x => T3.mk x (greater_of c h x) (room_of c (repL [m] n) x)) (fun x hx => rfl)]
  constructor
  · intro hx
    refine ⟨hm, fun k hk => (due_iff hc hh hn hk).mpr ?_⟩
    have := hx (k : Int) (mem_downs ⟨by omega, by omega⟩)
    rw [decide_eq_false_iff_not, room_eq c m n k (by omega), greater_eq ⟨by omega, by omega⟩ hh] at this
    unfold G
    rw [Int.toNat_natCast] at this
    omega
  · rintro ⟨_, hx⟩ x hxm
    have := mem_down hxm
    have h2 := (due_iff hc hh (m := m) hn (k := x.toNat) (by omega)).mp (hx _ (by omega))
    rw [decide_eq_false_iff_not, room_eq c m n x (by omega), greater_eq ⟨by omega, by omega⟩ hh]
    unfold G at h2
    rw [show ((x.toNat : Nat) : Int) = x by omega] at h2
    omega
theorem hold_eq {c h : List Int} (hc : Chain c) (hh : Pile c h) {n : Int} (hn : 1 ≤ n) : hold_for c h n = dueA c h n := by
  have hD : dueA c h n ≤ worth_of c h := by
    rw [dueA_le hc hh.1, worth_of_eq, show Wo c h = G c h 0 from rfl]
    refine ⟨G_nonneg hc hh 0, fun k hk => (due_iff hc hh.1 hn hk).mpr ?_⟩
    have hck := hc.at_ (k := (k : Int)) ⟨by omega, by omega⟩
    have hg0 := G_nonneg hc hh k
    have hg := G_mono hc hh (c.length - k) k (by omega)
    obtain ⟨p, hp⟩ := G_dvd hc hh.1 (c.length - k - 1) k (by omega)
    rw [hp] at hg hg0 ⊢
    generalize G c h 0 = W at hg
    generalize getI c k = ck at *
    have h1 : p ≤ W / ck := (Int.le_ediv_iff_mul_le (by omega)).mpr (by rw [Int.mul_comm]; exact hg)
    have h2 : ck * p ≤ ck * (W / ck) := Int.mul_le_mul_of_nonneg_left h1 (by omega)
    have h3 : 0 ≤ ck * (W / ck) := by omega
    have h4 := Int.mul_le_mul_of_nonneg_right hn h3
    rw [Int.one_mul] at h4
    rw [Int.mul_comm (W / ck) ck]
    omega
  have hD0 : 0 ≤ dueA c h n := by
    have := (dueA_le hc hh.1 (n := n) (m := dueA c h n)).mp (Int.le_refl _)
    exact this.1
  unfold hold_for
  dsimp only
  obtain ⟨s', e1, e2, e3⟩ := whF_done (R := Int) (c := ct_hold_for_1) (f := bd_hold_for_1 c h n) (g := fun s => _) (fun s => rfl) (fun s : T2 Int Int => 0 ≤ s.p1 ∧ s.p1 ≤ dueA c h n ∧ dueA c h n ≤ s.p0) (fun s => (s.p0 - s.p1).toNat) (fun s hP hcs => by
    unfold ct_hold_for_1 at hcs
    rw [decide_eq_true_eq] at hcs
    obtain ⟨h1, h2, h3⟩ := hP
    have hf := full_iff hc hh.1 (m := (s.p1 + s.p0) / 2) hn (by omega)
    dsimp only
    by_cases q : (last_full c h (repL [(s.p1 + s.p0) / 2] n)).isNone = true
    · rw [if_pos q, if_pos q]
      have := hf.mp q
      exact ⟨⟨h1, h2, this⟩, by omega⟩
    · rw [if_neg q, if_neg q]
      have : ¬ dueA c h n ≤ (s.p1 + s.p0) / 2 := fun z => q (hf.mpr z)
      exact ⟨⟨by omega, by omega, h3⟩, by omega⟩) ((fun (s : T2 Int Int) => (s.p0 - s.p1).toNat) (T2.mk (worth_of c h) 0) + 1) (T2.mk (worth_of c h) 0) ⟨Int.le_refl _, hD0, hD⟩ (Nat.lt_succ_self _)
  rw [e1]
  show s'.p1 = _
  unfold ct_hold_for_1 at e3
  rw [decide_eq_false_iff_not] at e3
  omega
end K96


namespace K96
open PySem L2 Fw Emb NumText
/-! ### k96: the same tables -/
theorem get_setM {rows : List (List Int)} {n m : Nat} (h : Rect rows n m) {a b v : Int} (ha : 0 ≤ a ∧ a < n) (hb : 0 ≤ b ∧ b < m) : getI (mRow (setM rows a b v) a) b = v := by
  have h1 := h.1
  rw [mRow_setM ⟨ha.1, by omega⟩ ⟨ha.1, by omega⟩, if_pos rfl]
  have hr := h.row (a := a) ⟨ha.1, by omega⟩
  rw [getI_pos _ hb.1 (by rw [List.length_set, hr]; exact hb.2), List.getElem_set]
  rw [if_pos rfl]
theorem new_rect (xs : List Int) (m : Nat) : Rect (xs.map (fun _ => repL [(0 : Int)] (m : Int))) xs.length m := rect_new xs 0 (m : Int)
theorem load_eq {c h b : List Int} (hc : Chain c) : house_load c h b = law_laid c h b := by
  unfold house_load law_laid
  dsimp only
  rw [foldl_eq (f := bd_house_load_1 c h) (g := bd_law_laid_1 c h b) (fun s => RS s b.length c.length) _ _ ⟨new_rect b c.length, rfl⟩ fun s x hx hs => ?_]
  have hxm := mem_down hx
  obtain ⟨hr, hl⟩ := hs
  have hr1 := hr.1
  have e : bd_house_load_1 c h s x = bd_law_laid_1 c h b s x := by
    unfold bd_house_load_1 bd_law_laid_1
    dsimp only
    have hn : forF (R := T2 (List (List Int)) (List Int)) (bd_house_load_2 c x) (rng 0 s.p0.length) (T3.mk s.p0 (getI h x) s.p1) = .nx _ := forF_nx (g := fun s2 x2 => _) _ _ fun s x _ => rfl
    rw [hn, hr1, Int.toNat_natCast]
    show T2.mk _ _ = _
    rw [foldl_eq (g := bd_law_laid_2 c x) (fun s => R3 s b.length c.length) _ _ ⟨hr, hl⟩ fun s2 x2 hx2 hs2 => ?_]
    refine ⟨?_, law_laid_step2 s2 x2 hs2⟩
    have hx2m := mem_rng hx2
    unfold bd_law_laid_2
    dsimp only
    rw [get_setM hs2.1 ⟨hx2m.1, by omega⟩ ⟨hxm.1, by omega⟩]
  refine ⟨e, ?_⟩
  exact law_laid_inv (xs := [x]) (i1 := 1) (s0 := s) rfl ⟨hr, hl⟩
theorem need_eq {c h : List Int} {n : Int} (hn : 1 ≤ n) : by_need c h n = law_need c h n := by
  unfold by_need law_need
  dsimp only
  have hr0 : Rect ((rng 0 (Int.toNat n)).map (fun x_1 => ((repL ([(0 : Int)]) (c.length : Int)) : (List Int)))) n.toNat c.length := by
    have q := rect_new (rng 0 (Int.toNat n)) (0 : Int) (c.length : Int)
    rw [rng_len] at q; exact q
  rw [foldl_eq (f := bd_by_need_1 c h) (g := bd_law_need_1 c h) (fun s => RS s n.toNat c.length) _ _ ⟨hr0, repL_len _ _⟩ fun s x hx hs => ?_]
  have hxm := mem_down hx
  have e : bd_by_need_1 c h s x = bd_law_need_1 c h s x := by
    unfold bd_by_need_1 bd_law_need_1
    dsimp only
    rw [foldl_eq (f := bd_by_need_2 c x) (g := bd_law_need_2 c x) (fun s => RS s n.toNat c.length) _ _ hs fun s2 x2 hx2 hs2 => ?_]
    refine ⟨?_, law_need_step2 s2 x2 hs2⟩
    have hl := least_lt (show 1 ≤ n.toNat by omega) hs2.2
    have h21 := hs2.1.1
    unfold bd_by_need_2 bd_law_need_2
    dsimp only
    unfold neediest at hl
    have hg := getI_row (rows := s2.p0) (a := idxI s2.p1 (lmin s2.p1)) ⟨hl.2.2.1, by omega⟩
    unfold neediest
    rw [hg]
  exact ⟨e, law_need_inv (xs := [x]) (i1 := 1) (s0 := s) rfl hs⟩
theorem turns_eq {c h : List Int} {n : Int} (hn : 1 ≤ n) : by_turns c h n = ((rngC ((c.length : Int) - (1 : Int)) (-1) (Int.toNat (((c.length : Int) - (1 : Int)) - (-(1 : Int))))).foldl (bd_law_3 h n) (T2.mk ((rng 0 (Int.toNat n)).map (fun j_1 => ((repL ([(0 : Int)]) (c.length : Int)) : (List Int)))) 0)).p0 := by
  unfold by_turns
  dsimp only
  have hr0 : Rect ((rng 0 (Int.toNat n)).map (fun x_1 => ((repL ([(0 : Int)]) (c.length : Int)) : (List Int)))) n.toNat c.length := by
    have q := rect_new (rng 0 (Int.toNat n)) (0 : Int) (c.length : Int)
    rw [rng_len] at q; exact q
  rw [foldl_eq (f := bd_by_turns_1 h n) (g := bd_law_3 h n) (fun s => Rect s.p0 n.toNat c.length) _ _ hr0 fun s x hx hs => ?_]
  have hxm := mem_down hx
  have e : bd_by_turns_1 h n s x = bd_law_3 h n s x := by
    unfold bd_by_turns_1 bd_law_3
    dsimp only
    rw [foldl_eq (f := bd_by_turns_2 n x) (g := bd_law_4 n x) (fun s => Rect s.p0 n.toNat c.length) _ _ hs fun s2 x2 hx2 hs2 => ?_]
    refine ⟨?_, hs2.set _ _ _⟩
    have h21 := hs2.1
    have hm1 := Int.emod_nonneg s2.p1 (show n ≠ 0 by omega)
    have hm2 := Int.emod_lt_of_pos s2.p1 (show 0 < n by omega)
    unfold bd_by_turns_2 bd_law_4
    dsimp only
    rw [getI_row (rows := s2.p0) (a := s2.p1 % n) ⟨hm1, by omega⟩]
  exact ⟨e, law_turns_inv (xs := [x]) (i1 := 1) (s1 := bd_law_3 h n s x) (r1 := s.p0) (t1 := s.p1) rfl hs⟩
theorem worths_eq {c : List Int} {rows : List (List Int)} {n : Nat} (h : Rect rows n c.length) : worths c rows = rows.map (fun row_1 => ((law_worth c row_1) : Int)) := by
  unfold worths
  apply List.map_congr_left
  intro r hr
  rw [worth_of_eq, law_worth_eq (by rw [h.2 r hr]; exact Nat.le_refl _)]
/-! ### how the pieces come to lie -/
/-- the worths while the pieces of value k are given out, t of them so far -/
structure Lay (c h : List Int) (n : Int) (k t : Nat) (S : List Int) : Prop where
  len : S.length = n.toNat
  dvd : ∀ v ∈ S, getI c k ∣ v
  sum : S.sum = G c h (k + 1) + t * getI c k
theorem sum_set : ∀ (S : List Int) (p : Nat) (v : Int), p < S.length → (S.set p v).sum = S.sum + (v - S[p]?.getD 0)
  | [], _, _, h => absurd h (by simp)
  | x :: S, 0, v, _ => by
    show (v :: S).sum = (x :: S).sum + (v - x)
    rw [List.sum_cons, List.sum_cons]; omega
  | x :: S, p + 1, v, h => by
    show (x :: S.set p v).sum = (x :: S).sum + (v - S[p]?.getD 0)
    rw [List.sum_cons, List.sum_cons, sum_set S p v (by simpa using h)]; omega
theorem Lay.step {c h : List Int} {n : Int} {k t : Nat} {S : List Int} (L : Lay c h n k t S) {p : Int} (hp : 0 ≤ p ∧ p < n) : Lay c h n k (t + 1) (setI S p (getI S p + getI c k)) := by
  have hl := L.len
  rw [setI_nat S _ ⟨hp.1, by omega⟩]
  have hg : getI S p = S[p.toNat]?.getD 0 := by
    have := getI_eq S p.toNat
    rw [show ((p.toNat : Nat) : Int) = p by omega] at this
    exact this
  refine ⟨by rw [List.length_set]; exact hl, fun v hv => ?_, ?_⟩
  · rcases List.mem_or_eq_of_mem_set hv with h1 | h1
    · exact L.dvd v h1
    · rw [h1]
      exact Int.dvd_add (L.dvd _ (getI_mem ⟨by omega, by omega⟩)) (Int.dvd_refl _)
  · rw [sum_set _ _ _ (by omega), L.sum, hg, Int.natCast_add, Int.add_mul]
    omega
theorem Lay.next {c h : List Int} (hc : Chain c) (hh : h.length = c.length) {n : Int} {k : Nat} {S : List Int} (hk : k + 1 < c.length) (hp : 0 ≤ getI h ((k + 1 : Nat) : Int)) (L : Lay c h n (k + 1) (getI h ((k + 1 : Nat) : Int)).toNat S) : Lay c h n k 0 S := by
  refine ⟨L.len, fun v hv => Int.dvd_trans (chain_dvd hc hk) (L.dvd v hv), ?_⟩
  rw [L.sum, G_step hh (show k + 1 < c.length by omega)]
  have e : (((getI h ((k + 1 : Nat) : Int)).toNat : Nat) : Int) = getI h ((k + 1 : Nat) : Int) := by omega
  rw [e, Int.mul_comm]
  simp
  omega
theorem sum_le_all {S : List Int} {M : Int} (h : ∀ v ∈ S, v ≤ M) : S.sum ≤ S.length * M := by
  induction S with
  | nil => simp
  | cons x S ih =>
    have h1 := h x List.mem_cons_self
    have h2 := ih fun v hv => h v (List.mem_cons_of_mem _ hv)
    rw [List.sum_cons, List.length_cons, Int.natCast_add, Int.add_mul]
    simp only [Int.natCast_one, Int.one_mul]
    omega
theorem sum_all_eq {S : List Int} {M : Int} (h : ∀ v ∈ S, v = M) : S.sum = S.length * M := by
  induction S with
  | nil => simp
  | cons x S ih =>
    have h1 := h x List.mem_cons_self
    have h2 := ih fun v hv => h v (List.mem_cons_of_mem _ hv)
    rw [List.sum_cons, List.length_cons, Int.natCast_add, Int.add_mul, h2]
    simp only [Int.natCast_one, Int.one_mul]
    omega
/-- all pieces from k on given out: the greatest worth is at least the due -/
theorem Lay.low {c h : List Int} (hc : Chain c) (hh : Pile c h) {n : Int} (hn : 1 ≤ n) {k : Nat} (hk : k < c.length) {S : List Int} (L : Lay c h n k (getI h k).toNat S) : dueK c h n k ≤ lmax S := by
  rw [due_iff hc hh.1 hn hk]
  have hl := L.len
  have h0 : S ≠ [] := fun e => by rw [e] at hl; have : ([] : List Int).length = 0 := rfl; omega
  have hhk := hh.at_ (k := (k : Int)) ⟨by omega, by omega⟩
  have hck := hc.at_ (k := (k : Int)) ⟨by omega, by omega⟩
  have e : G c h k = S.sum := by
    rw [L.sum, G_step hh.1 hk, show (((getI h k).toNat : Nat) : Int) = getI h k by omega, Int.mul_comm]
    omega
  rw [e]
  obtain ⟨q, hq⟩ := L.dvd _ (lmax_mem h0)
  rw [hq, Int.mul_ediv_cancel_left q (by omega)]
  have := sum_le_all (S := S) (M := lmax S) fun v hv => le_lmax hv
  rw [hl, hq, show ((n.toNat : Nat) : Int) = n by omega] at this
  rw [Int.mul_comm q]
  exact this
theorem lmax_set {S : List Int} {p : Int} {x : Int} (hp : 0 ≤ p ∧ p < S.length) (hx : getI S p ≤ x) : lmax S ≤ lmax (setI S p x) ∧ lmax (setI S p x) ≤ max (lmax S) x := by
  have h0 : S ≠ [] := fun e => by rw [e] at hp; have : ([] : List Int).length = 0 := rfl; omega
  have h0' : setI S p x ≠ [] := fun e => by
    have := congrArg List.length e
    rw [setI_len] at this
    have : ([] : List Int).length = 0 := rfl
    omega
  rw [setI_nat S x hp] at *
  constructor
  · have hm := lmax_mem h0
    obtain ⟨i, hi, e⟩ := List.getElem_of_mem hm
    by_cases c : p.toNat = i
    · subst c
      rw [← e]
      rw [getI_pos S hp.1 hp.2] at hx
      refine Int.le_trans hx (le_lmax (List.mem_iff_getElem.mpr ⟨p.toNat, by rw [List.length_set]; exact hi, ?_⟩))
      rw [List.getElem_set, if_pos rfl]
    · rw [← e]
      refine le_lmax (List.mem_iff_getElem.mpr ⟨i, by rw [List.length_set]; exact hi, ?_⟩)
      rw [List.getElem_set, if_neg c]
  · rcases List.mem_or_eq_of_mem_set (lmax_mem h0') with h1 | h1
    · have := le_lmax h1
      omega
    · omega
/-- the piece goes to one that has the least: no more than the due -/
theorem Lay.high {c h : List Int} (hc : Chain c) (hh : Pile c h) {n : Int} (hn : 1 ≤ n) {k t : Nat} (hk : k < c.length) {S : List Int} (L : Lay c h n k t S) (ht : (t : Int) + 1 ≤ getI h k) {D : Int} (hD : dueK c h n k ≤ D) (hS : lmax S ≤ D) : lmin S + getI c k ≤ D := by
  have hl := L.len
  have h0 : S ≠ [] := fun e => by rw [e] at hl; have : ([] : List Int).length = 0 := rfl; omega
  have hck := hc.at_ (k := (k : Int)) ⟨by omega, by omega⟩
  by_cases q : lmin S + getI c k ≤ lmax S
  · omega
  · obtain ⟨a, ha⟩ := L.dvd _ (lmin_mem h0)
    have all : ∀ v ∈ S, v = lmin S := fun v hv => by
      obtain ⟨b, hb⟩ := L.dvd v hv
      have h1 := lmin_le hv
      have h2 := le_lmax hv
      rw [ha, hb] at h1
      have h3 : getI c k * b < getI c k * (a + 1) := by rw [Int.mul_add, Int.mul_one, ← ha, ← hb]; omega
      have h4 : b < a + 1 := Int.lt_of_mul_lt_mul_left h3 (by omega)
      have h5 : a ≤ b := Int.le_of_mul_le_mul_left h1 (by omega)
      have : a = b := by omega
      rw [hb, ← this, ha]
    have hs := sum_all_eq all
    rw [hl, show ((n.toNat : Nat) : Int) = n by omega, L.sum] at hs
    have hd := (due_iff hc hh.1 (m := dueK c h n k) hn hk).mp (Int.le_refl _)
    rw [G_step hh.1 hk] at hd
    have h6 : (t : Int) * getI c k + getI c k ≤ getI c k * getI h k := by
      have := Int.mul_le_mul_of_nonneg_left ht (show 0 ≤ getI c k by omega)
      rw [Int.mul_add, Int.mul_one, Int.mul_comm] at this
      exact this
    have hr : dueK c h n k / getI c k * getI c k ≤ dueK c h n k := Int.ediv_mul_le _ (by omega)
    generalize dueK c h n k / getI c k = r at hd hr
    have h8 : n * lmin S + getI c k ≤ n * (r * getI c k) := by omega
    have h9 : a < r := by
      rcases Int.lt_or_le a r with z | z
      · exact z
      · exfalso
        have := Int.mul_le_mul_of_nonneg_left (Int.mul_le_mul_of_nonneg_left z (show 0 ≤ getI c k by omega)) (show 0 ≤ n by omega)
        rw [ha] at h8
        rw [Int.mul_comm r] at h8
        omega
    have h10 := Int.mul_le_mul_of_nonneg_left (show a + 1 ≤ r by omega) (show 0 ≤ getI c k by omega)
    rw [Int.mul_add, Int.mul_one, Int.mul_comm (getI c k) r] at h10
    omega
theorem ws_step {c : List Int} {rows : List (List Int)} {n : Nat} (hr : Rect rows n c.length) {p k : Int} (hp : 0 ≤ p ∧ p < n) (hk : 0 ≤ k ∧ k < c.length) :
    (setM rows p k (getI (mRow rows p) k + 1)).map (Wo c) = setI (rows.map (Wo c)) p (getI (rows.map (Wo c)) p + getI c k) := by
  have h1 := hr.1
  have hm := mRow_get (v := rows) (a := p) ⟨hp.1, by omega⟩
  have hl := hr.row (a := p) ⟨hp.1, by omega⟩
  have hg : getI (rows.map (Wo c)) p = Wo c (mRow rows p) := by
    have := getI_eq (rows.map (Wo c)) p.toNat
    rw [show ((p.toNat : Nat) : Int) = p by omega, List.getElem?_map, hm] at this
    exact this
  rw [setI_nat _ _ ⟨hp.1, by rw [List.length_map]; omega⟩, hg]
  unfold setM
  rw [List.map_set, hm]
  congr 1
  show Wo c ((mRow rows p).set k.toNat _) = _
  rw [wo_set c _ _ _ (by omega) (by omega)]
  have e1 : getI c k = c[k.toNat]?.getD 0 := by
    have := getI_eq c k.toNat
    rw [show ((k.toNat : Nat) : Int) = k by omega] at this; exact this
  have e2 : getI (mRow rows p) k = (mRow rows p)[k.toNat]?.getD 0 := by
    have := getI_eq (mRow rows p) k.toNat
    rw [show ((k.toNat : Nat) : Int) = k by omega] at this; exact this
  rw [e1, e2, show (mRow rows p)[k.toNat]?.getD 0 + 1 - (mRow rows p)[k.toNat]?.getD 0 = 1 by omega, Int.mul_one]
/-- between the values: what lies is told by the index k reached -/
def At (c h : List Int) (n D : Int) (k : Nat) (S : List Int) : Prop :=
  (k < c.length → Lay c h n k (getI h k).toNat S) ∧ (k = c.length → S = List.replicate n.toNat 0) ∧ (∀ i : Nat, k ≤ i → i < c.length → dueK c h n i ≤ lmax S) ∧ lmax S ≤ D
def In (c h : List Int) (n D : Int) (k t : Nat) (S : List Int) : Prop :=
  Lay c h n k t S ∧ (∀ i : Nat, k + 1 ≤ i → i < c.length → dueK c h n i ≤ lmax S) ∧ lmax S ≤ D
theorem At.enter {c h : List Int} (hc : Chain c) (hh : Pile c h) {n D : Int} {k : Nat} {S : List Int} (hk : k < c.length) (a : At c h n D (k + 1) S) : In c h n D k 0 S := by
  obtain ⟨a1, a2, a3, a4⟩ := a
  refine ⟨?_, a3, a4⟩
  by_cases e : k + 1 < c.length
  · exact (a1 e).next hc hh.1 e (hh.at_ (k := ((k + 1 : Nat) : Int)) ⟨by omega, by omega⟩).1
  · have e : k + 1 = c.length := by omega
    have z := a2 e
    refine ⟨by rw [z, List.length_replicate], fun v hv => ?_, ?_⟩
    · rw [z] at hv
      rw [List.eq_of_mem_replicate hv]; exact Int.dvd_zero _
    · rw [z, sum_repl, e, G_end]; simp
theorem In.leave {c h : List Int} (hc : Chain c) (hh : Pile c h) {n D : Int} (hn : 1 ≤ n) {k : Nat} {S : List Int} (hk : k < c.length) (a : In c h n D k (getI h k).toNat S) : At c h n D k S := by
  obtain ⟨a1, a2, a3⟩ := a
  refine ⟨fun _ => a1, fun e => by omega, fun i h1 h2 => ?_, a3⟩
  by_cases e : i = k
  · rw [e]; exact a1.low hc hh hn hk
  · exact a2 i (by omega) h2
theorem In.step {c h : List Int} {n D : Int} {k t : Nat} {S : List Int} (a : In c h n D k t S) {p : Int} (hp : 0 ≤ p ∧ p < n) (hck : 0 ≤ getI c k) (hb : max (lmax S) (getI S p + getI c k) ≤ D) : In c h n D k (t + 1) (setI S p (getI S p + getI c k)) := by
  obtain ⟨a1, a2, a3⟩ := a
  have hl := a1.len
  have m := lmax_set (S := S) (p := p) (x := getI S p + getI c k) ⟨hp.1, by omega⟩ (by omega)
  exact ⟨a1.step hp, fun i h1 h2 => Int.le_trans (a2 i h1 h2) m.1, Int.le_trans m.2 hb⟩
theorem getI_idx {S : List Int} (h : S ≠ []) : getI S (idxI S (lmin S)) = lmin S := by
  have hm := lmin_mem h
  have hlt : S.findIdx (· == lmin S) < S.length := List.findIdx_lt_length_of_exists ⟨lmin S, hm, beq_self_eq_true _⟩
  unfold idxI
  rw [getI_nat S _ hlt]
  have := List.findIdx_getElem (p := (· == lmin S)) (xs := S) (w := hlt)
  exact eq_of_beq this
theorem rect0 (n : Int) (c : List Int) : Rect ((rng 0 (Int.toNat n)).map (fun x_1 => ((repL ([(0 : Int)]) (c.length : Int)) : (List Int)))) n.toNat c.length := by
  have q := rect_new (rng 0 (Int.toNat n)) (0 : Int) (c.length : Int)
  rw [rng_len] at q; exact q
theorem rows0 (n : Int) (c : List Int) : ((rng 0 (Int.toNat n)).map (fun x_1 => ((repL ([(0 : Int)]) (c.length : Int)) : (List Int)))).map (Wo c) = List.replicate n.toNat 0 := by
  rw [List.map_map]
  apply List.ext_getElem
  · rw [List.length_map, rng_len, List.length_replicate]
  · intro i h1 h2
    rw [List.getElem_map, List.getElem_replicate]
    show Wo c (repL [(0 : Int)] (c.length : Int)) = 0
    rw [repL_one, wo_zero]
theorem lmax_repl {n : Nat} (hn : 1 ≤ n) : lmax (List.replicate n 0) = 0 := by
  have : lmax (List.replicate n 0) ∈ List.replicate n (0 : Int) := lmax_mem fun e => by
    have := congrArg List.length e
    rw [List.length_replicate] at this
    have : ([] : List Int).length = 0 := rfl
    omega
  exact List.eq_of_mem_replicate this
theorem need_max {c h : List Int} (hc : Chain c) (hh : Pile c h) {n : Int} (hn : 1 ≤ n) : lmax (worths c (by_need c h n)) = dueA c h n := by
  have hD := (dueA_le hc hh.1 (n := n) (m := dueA c h n)).mp (Int.le_refl _)
  have key : ∀ s : T2 (List (List Int)) (List Int), s = (down c.length).foldl (bd_by_need_1 c h) (T2.mk ((rng 0 (Int.toNat n)).map (fun x_1 => ((repL ([(0 : Int)]) (c.length : Int)) : (List Int)))) (repL ([(0 : Int)]) n)) →
      RS s n.toNat c.length ∧ s.p0.map (Wo c) = s.p1 ∧ At c h n (dueA c h n) 0 s.p1 := by
    intro s hs
    rw [hs]
    refine foldl_down (f := bd_by_need_1 c h) (fun k s => RS s n.toNat c.length ∧ s.p0.map (Wo c) = s.p1 ∧ At c h n (dueA c h n) k s.p1) c.length _ ⟨⟨rect0 n c, repL_len _ _⟩, ?_, ?_⟩ fun k s hk ⟨h1, h2, h3⟩ => ?_
    · show List.map (Wo c) _ = repL [(0 : Int)] n
      rw [rows0, repL_one]
    · refine ⟨fun e => by omega, fun _ => repL_one _ _, fun i h1 h2 => by omega, ?_⟩
      show lmax (repL [(0 : Int)] n) ≤ _
      rw [repL_one, lmax_repl (by omega)]; exact hD.1
    · have hck := hc.at_ (k := (k : Int)) ⟨by omega, by omega⟩
      have hhk := hh.at_ (k := (k : Int)) ⟨by omega, by omega⟩
      have := foldl_up (f := bd_by_need_2 c (k : Int)) (fun t s => RS s n.toNat c.length ∧ s.p0.map (Wo c) = s.p1 ∧ In c h n (dueA c h n) k t s.p1) (Int.toNat (getI h (k : Int))) (T2.mk s.p0 s.p1) ⟨h1, h2, h3.enter hc hh hk⟩ fun t s ht ⟨i1, i2, i3⟩ => ?_
      · exact ⟨this.1, this.2.1, this.2.2.leave hc hh hn hk⟩
      · have hl := least_lt (show 1 ≤ n.toNat by omega) i1.2
        have hg : getI s.p1 (neediest s.p1) = lmin s.p1 := getI_idx hl.1
        refine ⟨by_need_step2 s _ i1, ?_, ?_⟩
        · show List.map (Wo c) (setM s.p0 (neediest s.p1) (k : Int) (getI (mRow s.p0 (neediest s.p1)) (k : Int) + 1)) = setI s.p1 (neediest s.p1) (getI s.p1 (neediest s.p1) + getI c (k : Int))
          rw [ws_step i1.1 ⟨hl.2.2.1, hl.2.2.2⟩ ⟨by omega, by omega⟩, i2]
        · refine i3.step ⟨hl.2.2.1, by omega⟩ (by omega) ?_
          rw [hg]
          have := i3.1.high hc hh hn hk (by omega) (hD.2 k hk) i3.2.2
          have := i3.2.2
          omega
  obtain ⟨k1, k2, k3⟩ := key _ rfl
  have e : worths c (by_need c h n) = ((down c.length).foldl (bd_by_need_1 c h) (T2.mk ((rng 0 (Int.toNat n)).map (fun x_1 => ((repL ([(0 : Int)]) (c.length : Int)) : (List Int)))) (repL ([(0 : Int)]) n))).p1 := by
    rw [← k2]
    unfold by_need worths
    dsimp only
    rw [show ((c.length : Int) - 1 - -1) = ((c.length : Int) - 1 - -1) by rfl, rngC_down]
    apply List.map_congr_left
    intro r _
    exact worth_of_eq c r
  rw [e]
  refine Int.le_antisymm k3.2.2.2 ?_
  rw [dueA_le hc hh.1]
  refine ⟨?_, fun k hk => k3.2.2.1 k (by omega) hk⟩
  have l1 := hc.l1
  have := k3.2.2.1 0 (by omega) (by omega)
  refine Int.le_trans ?_ this
  unfold dueK
  have hck := hc.at_ (k := ((0 : Nat) : Int)) ⟨by omega, by omega⟩
  refine Int.mul_nonneg (Int.ediv_nonneg ?_ (by omega)) (by omega)
  have := Int.ediv_nonneg (G_nonneg hc hh 0) (show 0 ≤ getI c ((0 : Nat) : Int) by omega)
  omega
theorem turns_max {c h : List Int} (hc : Chain c) (hh : Pile c h) {n : Int} (hn : 1 ≤ n) : dueA c h n ≤ lmax (((rngC ((c.length : Int) - (1 : Int)) (-1) (Int.toNat (((c.length : Int) - (1 : Int)) - (-(1 : Int))))).foldl (bd_law_3 h n) (T2.mk ((rng 0 (Int.toNat n)).map (fun j_1 => ((repL ([(0 : Int)]) (c.length : Int)) : (List Int)))) 0)).p0.map (Wo c)) := by
  rw [rngC_down]
  obtain ⟨s, hs⟩ : ∃ s, s = (down c.length).foldl (bd_law_3 h n) (T2.mk ((rng 0 (Int.toNat n)).map (fun j_1 => ((repL ([(0 : Int)]) (c.length : Int)) : (List Int)))) 0) := ⟨_, rfl⟩
  have key : Rect s.p0 n.toNat c.length ∧ ∃ D, At c h n D 0 (s.p0.map (Wo c)) := by
    rw [hs]
    refine foldl_down (f := bd_law_3 h n) (fun k s => Rect s.p0 n.toNat c.length ∧ ∃ D, At c h n D k (s.p0.map (Wo c))) c.length _ ⟨rect0 n c, 0, ?_⟩ fun k s hk ⟨h1, D, h3⟩ => ?_
    · refine ⟨fun e => by omega, fun _ => rows0 n c, fun i h1 h2 => by omega, ?_⟩
      show lmax (List.map (Wo c) _) ≤ _
      rw [rows0, lmax_repl (by omega)]; exact Int.le_refl _
    · have hck := hc.at_ (k := (k : Int)) ⟨by omega, by omega⟩
      have := foldl_up (f := bd_law_4 n (k : Int)) (fun t s => Rect s.p0 n.toNat c.length ∧ ∃ D, In c h n D k t (s.p0.map (Wo c))) (Int.toNat (getI h (k : Int))) (T2.mk s.p0 s.p1) ⟨h1, D, h3.enter hc hh hk⟩ fun t s ht ⟨i1, D, i3⟩ => ?_
      · obtain ⟨a, D, b⟩ := this
        exact ⟨a, D, b.leave hc hh hn hk⟩
      · have hm1 := Int.emod_nonneg s.p1 (show n ≠ 0 by omega)
        have hm2 := Int.emod_lt_of_pos s.p1 (show 0 < n by omega)
        have h21 := i1.1
        refine ⟨i1.set _ _ _, max (max (lmax (s.p0.map (Wo c))) (getI (s.p0.map (Wo c)) (s.p1 % n) + getI c (k : Int))) D, ?_⟩
        show In c h n _ k (t + 1) (List.map (Wo c) (setM s.p0 (s.p1 % n) (k : Int) (getI (getI s.p0 (s.p1 % n)) (k : Int) + 1)))
        rw [getI_row (rows := s.p0) (a := s.p1 % n) ⟨hm1, by omega⟩, ws_step i1 ⟨hm1, by omega⟩ ⟨by omega, by omega⟩]
        refine In.step ⟨i3.1, i3.2.1, Int.le_trans i3.2.2 (Int.le_max_right ..)⟩ ⟨hm1, hm2⟩ (by omega) (Int.le_max_left ..)
  obtain ⟨k1, D, k3⟩ := key
  rw [← hs]
  rw [dueA_le hc hh.1]
  refine ⟨?_, fun k hk => k3.2.2.1 k (by omega) hk⟩
  have l1 := hc.l1
  have := k3.2.2.1 0 (by omega) (by omega)
  refine Int.le_trans ?_ this
  unfold dueK
  have hck := hc.at_ (k := ((0 : Nat) : Int)) ⟨by omega, by omega⟩
  refine Int.mul_nonneg (Int.ediv_nonneg ?_ (by omega)) (by omega)
  have := Int.ediv_nonneg (G_nonneg hc hh 0) (show 0 ≤ getI c ((0 : Nat) : Int) by omega)
  omega
end K96


namespace K96
open PySem L2 Fw Emb NumText
/-! ### k96: payments, weights, the law -/
theorem foldl_up2 {S T : Type} {f : S → Int → S} {g : T → Int → T} (Q : Nat → S → T → Prop) : ∀ (n : Nat) (s : S) (t : T), Q 0 s t → (∀ (i : Nat) (s : S) (t : T), i < n → Q i s t → Q (i + 1) (f s (i : Int)) (g t (i : Int))) → Q n ((rng 0 n).foldl f s) ((rng 0 n).foldl g t)
  | 0, s, t, h, _ => h
  | n + 1, s, t, h, hs => by
    rw [rng_succ, List.foldl_append, List.foldl_append]
    exact hs n _ _ (by omega) (foldl_up2 Q n s t h fun i s t hi => hs i s t (by omega))
theorem foldl_down_eq {S : Type} {f g : S → Int → S} (P : Nat → S → Prop) : ∀ (n : Nat) (s : S), P n s → (∀ (k : Nat) (s : S), k < n → P (k + 1) s → f s (k : Int) = g s (k : Int) ∧ P k (g s (k : Int))) → (down n).foldl f s = (down n).foldl g s
  | 0, s, h, _ => rfl
  | n + 1, s, h, hs => by
    obtain ⟨e, h'⟩ := hs n s (by omega) h
    show (down n).foldl f (f s (n : Int)) = (down n).foldl g (g s (n : Int))
    rw [e]
    exact foldl_down_eq P n _ h' fun k s hk => hs k s (by omega)
theorem setM_setM {rows : List (List Int)} {a b x y : Int} (h : 0 ≤ a ∧ a < rows.length) : setM (setM rows a b x) a b y = setM rows a b y := by
  have hm := mRow_setM (rows := rows) (a := a) (b := b) (a' := a) (x := x) h h
  rw [if_pos rfl] at hm
  have e : ∀ r : List (List Int), setM r a b y = r.set a.toNat ((mRow r a).set b.toNat y) := fun r => rfl
  rw [e, e, hm, List.set_set]
  show (rows.set a.toNat ((mRow rows a).set b.toNat x)).set a.toNat _ = _
  rw [List.set_set]
theorem setM_self {rows : List (List Int)} {a b : Int} {n m : Nat} (hr : Rect rows n m) (h : 0 ≤ a ∧ a < n) (hb : 0 ≤ b ∧ b < m) : setM rows a b (getI (mRow rows a) b) = rows := by
  have h1 := hr.1
  have hl := hr.row (a := a) ⟨h.1, by omega⟩
  have e : setM rows a b (getI (mRow rows a) b) = rows.set a.toNat ((mRow rows a).set b.toNat (getI (mRow rows a) b)) := rfl
  rw [e, getI_pos _ hb.1 (by rw [hl]; exact hb.2), List.set_getElem_self]
  have hm := mRow_get (v := rows) (a := a) ⟨h.1, by omega⟩
  rw [List.getElem?_eq_getElem (by omega)] at hm
  injection hm with hm
  rw [← hm, List.set_getElem_self]
theorem setI_setI {xs : List Int} {i x y : Int} (h : 0 ≤ i ∧ i < xs.length) : setI (setI xs i x) i y = setI xs i y := by
  rw [setI_nat xs x h, setI_nat xs y h, setI_nat _ y ⟨h.1, by rw [List.length_set]; exact h.2⟩, List.set_set]
theorem setI_self {xs : List Int} {i : Int} (h : 0 ≤ i ∧ i < xs.length) : setI xs i (getI xs i) = xs := by
  rw [setI_nat xs _ h, getI_pos xs h.1 h.2, List.set_getElem_self]
theorem pay_loop {c : List Int} {x1 x2 : Int} {s : T3 (List (List Int)) (List Int) Int} {a m : Nat} (hR : R3' s a m) (h2 : 0 ≤ x2 ∧ x2 < a) (h1 : 0 ≤ x1 ∧ x1 < m) (hck : 1 ≤ getI c x1) (hl : 0 ≤ getI s.p1 x2) (hc : 0 ≤ s.p2) :
    bd_law_payments_2 c x1 s x2 = T3.mk (setM s.p0 x2 x1 (getI (mRow s.p0 x2) x1 + min s.p2 (getI s.p1 x2 / getI c x1))) (setI s.p1 x2 (getI s.p1 x2 - min s.p2 (getI s.p1 x2 / getI c x1) * getI c x1)) (s.p2 - min s.p2 (getI s.p1 x2 / getI c x1)) := by
  obtain ⟨hr, hll⟩ := hR
  have hr1 := hr.1
  obtain ⟨t, ht⟩ : ∃ t, t = min s.p2 (getI s.p1 x2 / getI c x1) := ⟨_, rfl⟩
  rw [← ht]
  have hd := Int.ediv_nonneg hl (show 0 ≤ getI c x1 by omega)
  let F : Int → T3 (List (List Int)) (List Int) Int := fun u => T3.mk (setM s.p0 x2 x1 (getI (mRow s.p0 x2) x1 + u)) (setI s.p1 x2 (getI s.p1 x2 - u * getI c x1)) (s.p2 - u)
  have hF0 : T3.mk s.p0 s.p1 s.p2 = F 0 := by
    show _ = T3.mk _ _ _
    rw [Int.add_zero, Int.zero_mul, Int.sub_zero, Int.sub_zero, setM_self hr h2 h1, setI_self ⟨h2.1, by omega⟩]
  have hFl : ∀ u, getI (F u).p1 x2 = getI s.p1 x2 - u * getI c x1 := fun u => by
    show getI (setI s.p1 x2 _) x2 = _
    rw [getI_setI ⟨h2.1, by omega⟩ ⟨h2.1, by omega⟩, if_pos rfl]
  have hFv : ∀ u, getI (getI (F u).p0 x2) x1 = getI (mRow s.p0 x2) x1 + u := fun u => by
    show getI (getI (setM s.p0 x2 x1 _) x2) x1 = _
    rw [getI_row ⟨h2.1, by rw [setM_len]; omega⟩, get_setM hr h2 h1]
  unfold bd_law_payments_2
  obtain ⟨s', e1, ⟨u, hu0, hut, rfl⟩, e3⟩ := whF_done (R := T3 (List (List Int)) (List Int) Int) (c := ct_law_payments_3 c x1 x2) (f := bd_law_payments_3 (chain := c) x1 x2) (g := fun s3 => T3.mk (setM s3.p0 x2 x1 ((getI (getI s3.p0 x2) x1) + (1 : Int))) (setI s3.p1 x2 ((getI s3.p1 x2) - (getI c x1))) (s3.p2 - (1 : Int))) (fun s => rfl) (fun s' => ∃ u, 0 ≤ u ∧ u ≤ t ∧ s' = F u) (fun s => s.p2.toNat) (fun s' hP hcs => by
    obtain ⟨u, hu0, hut, rfl⟩ := hP
    unfold ct_law_payments_3 at hcs
    rw [Bool.and_eq_true, decide_eq_true_eq, decide_eq_true_eq, hFl] at hcs
    have hcs1 : 0 < s.p2 - u := hcs.1
    refine ⟨⟨u + 1, by omega, ?_, ?_⟩, ?_⟩
    · rw [ht]
      refine Int.le_min.mpr ⟨by omega, (Int.le_ediv_iff_mul_le (by omega)).mpr ?_⟩
      rw [Int.add_mul, Int.one_mul]; omega
    · rw [hFl, hFv]
      show T3.mk (setM (setM s.p0 x2 x1 (getI (mRow s.p0 x2) x1 + u)) x2 x1 _) (setI (setI s.p1 x2 _) x2 _) (s.p2 - u - 1) = T3.mk _ _ _
      rw [setM_setM ⟨h2.1, by omega⟩, setI_setI ⟨h2.1, by omega⟩, Int.add_mul, Int.one_mul, Int.add_assoc, Int.sub_sub, Int.sub_sub]
    · show (s.p2 - u - 1).toNat < (s.p2 - u).toNat
      omega) (((fun (s : (T3 (List (List Int)) (List Int) Int)) => (s.p2).toNat) (T3.mk s.p0 s.p1 s.p2)) + 1) (T3.mk s.p0 s.p1 s.p2) ⟨0, Int.le_refl _, by rw [ht]; exact Int.le_min.mpr ⟨hc, hd⟩, hF0⟩ (Nat.lt_succ_self _)
  rw [e1]
  show F u = F t
  have : u = t := by
    rcases Int.lt_or_le u t with z | z
    · exfalso
      unfold ct_law_payments_3 at e3
      rw [hFl, Bool.and_eq_false_iff, decide_eq_false_iff_not, decide_eq_false_iff_not] at e3
      have z1 : u + 1 ≤ t := by omega
      rw [ht] at z1
      have z2 := Int.le_min.mp z1
      have z3 := (Int.le_ediv_iff_mul_le (show 0 < getI c x1 by omega)).mp z2.2
      rw [Int.add_mul, Int.one_mul] at z3
      rcases e3 with e3 | e3
      · have : ¬ (0 < s.p2 - u) := e3
        omega
      · omega
    · omega
  rw [this]
/-- what one row's turn leaves: the house's and the law's -/
structure Tw (n m : Nat) (x : Int) (j : Nat) (s : T3 (List (List Int)) Int (List Int)) (t : T3 (List (List Int)) (List Int) Int) : Prop where
  r : t.p0 = s.p0
  l : t.p1 = s.p2
  c : t.p2 = s.p1
  rect : Rect s.p0 n m
  ln : s.p2.length = n
  pos : ∀ i : Int, 0 ≤ i ∧ i < n → 0 ≤ getI s.p2 i
  cnt : 0 ≤ s.p1
  z : ∀ i : Int, 0 ≤ i ∧ i < n → ∀ k : Int, 0 ≤ k → k < x → getI (mRow s.p0 i) k = 0
  zx : ∀ i : Int, (j : Int) ≤ i ∧ i < n → getI (mRow s.p0 i) x = 0
theorem getI_set_ne {r : List Int} {a b v : Int} (ha : 0 ≤ a) (hb : 0 ≤ b) (h : a ≠ b) : getI (r.set b.toNat v) a = getI r a := by
  obtain ⟨i, rfl⟩ : ∃ i : Nat, a = (i : Int) := ⟨a.toNat, by omega⟩
  rw [getI_eq, getI_eq, List.getElem?_set_ne (by omega)]
theorem div_le_self' {a b : Int} (ha : 0 ≤ a) (hb : 1 ≤ b) : a / b * b ≤ a := Int.ediv_mul_le _ (by omega)
theorem pay_eq {c h a : List Int} (hc : Chain c) (hh : Pile c h) (ha : ∀ v ∈ a, 0 ≤ v) : house_payments c h a = law_payments c h a := by
  unfold house_payments law_payments
  dsimp only
  rw [rngC_down]
  rw [foldl_down_eq (f := bd_house_payments_1 c h) (g := bd_law_payments_1 c h a) (fun k s => RS s a.length c.length ∧ (∀ i : Int, 0 ≤ i ∧ i < a.length → 0 ≤ getI s.p1 i) ∧ ∀ i : Int, 0 ≤ i ∧ i < a.length → ∀ q : Int, 0 ≤ q → q < k → getI (mRow s.p0 i) q = 0) c.length _ ⟨⟨new_rect a c.length, rfl⟩, fun i hi => ha _ (getI_mem ⟨by omega, by omega⟩), fun i hi q h0 hq => ?_⟩ fun k s hk ⟨⟨h1, h2⟩, h3, h4⟩ => ?_]
  · have hm := (new_rect a c.length).row (a := i) ⟨hi.1, by rw [List.length_map]; exact hi.2⟩
    have hg := mRow_get (v := a.map (fun _ => repL [(0 : Int)] (c.length : Int))) (a := i) ⟨hi.1, by rw [List.length_map]; exact hi.2⟩
    rw [List.getElem?_map, List.getElem?_eq_getElem (by omega)] at hg
    injection hg with hg
    show getI (mRow (a.map (fun _ => repL [(0 : Int)] (c.length : Int))) i) q = 0
    rw [← hg]
    exact getI_repl 0 _ ⟨h0, hq⟩
  · have hck := hc.at_ (k := (k : Int)) ⟨by omega, by omega⟩
    have hhk := hh.at_ (k := (k : Int)) ⟨by omega, by omega⟩
    have hr1 := h1.1
    have main := foldl_up2 (f := fun (s2 : T3 (List (List Int)) Int (List Int)) (x2 : Int) =>
        T3.mk (setM s2.p0 x2 (k : Int) (min s2.p1 (getI s2.p2 x2 / getI c (k : Int)))) (s2.p1 - getI (mRow (setM s2.p0 x2 (k : Int) (min s2.p1 (getI s2.p2 x2 / getI c (k : Int)))) x2) (k : Int)) (setI s2.p2 x2 (getI s2.p2 x2 - getI (mRow (setM s2.p0 x2 (k : Int) (min s2.p1 (getI s2.p2 x2 / getI c (k : Int)))) x2) (k : Int) * getI c (k : Int))))
      (g := bd_law_payments_2 c (k : Int)) (fun j s t => Tw a.length c.length (k : Int) j s t) a.length (T3.mk s.p0 (getI h (k : Int)) s.p1) (T3.mk s.p0 s.p1 (getI h (k : Int))) ⟨rfl, rfl, rfl, h1, h2, h3, hhk.1, fun i hi q h0 hq => h4 i hi q h0 (by omega), fun i hi => h4 i ⟨by omega, hi.2⟩ _ (by omega) (by omega)⟩ fun j s2 t2 hj w => ?_
    · have e : bd_house_payments_1 c h s (k : Int) = bd_law_payments_1 c h a s (k : Int) := by
        unfold bd_house_payments_1 bd_law_payments_1
        dsimp only
        have hn : forF (R := T2 (List (List Int)) (List Int)) (bd_house_payments_2 c (k : Int)) (rng 0 s.p0.length) (T3.mk s.p0 (getI h (k : Int)) s.p1) = .nx _ := forF_nx (g := fun s2 x2 => _) _ _ fun s x _ => rfl
        rw [hn, hr1, Int.toNat_natCast]
        show T2.mk _ _ = T2.mk _ _
        rw [main.r, main.l]
      refine ⟨e, ?_⟩
      rw [← e]
      have e2 : bd_house_payments_1 c h s (k : Int) = T2.mk ((rng 0 a.length).foldl (bd_law_payments_2 c (k : Int)) (T3.mk s.p0 s.p1 (getI h (k : Int)))).p0 ((rng 0 a.length).foldl (bd_law_payments_2 c (k : Int)) (T3.mk s.p0 s.p1 (getI h (k : Int)))).p1 := by
        rw [e]
        unfold bd_law_payments_1
        dsimp only
        rw [Int.toNat_natCast]
      rw [e2, main.r, main.l]
      exact ⟨⟨main.rect, main.ln⟩, main.pos, main.z⟩
    · have hjn : (0 : Int) ≤ (j : Int) ∧ (j : Int) < (a.length : Nat) := ⟨by omega, by omega⟩
      have hkm : (0 : Int) ≤ (k : Int) ∧ (k : Int) < (c.length : Nat) := ⟨by omega, by omega⟩
      have hlj := w.pos (j : Int) hjn
      have hz := w.zx (j : Int) ⟨by omega, by omega⟩
      have hrl := w.rect.1
      have hd := Int.ediv_nonneg hlj (show 0 ≤ getI c (k : Int) by omega)
      have hle := div_le_self' hlj hck.1
      have pl := pay_loop (c := c) (x1 := (k : Int)) (x2 := (j : Int)) (s := t2) (a := a.length) (m := c.length) ⟨by rw [w.r]; exact w.rect, by rw [w.l]; exact w.ln⟩ hjn hkm hck.1 (by rw [w.l]; exact hlj) (by rw [w.c]; exact w.cnt)
      rw [w.r, w.l, w.c, hz, Int.zero_add] at pl
      rw [get_setM w.rect hjn hkm, pl]
      obtain ⟨v, hv⟩ : ∃ v, v = min s2.p1 (getI s2.p2 (j : Int) / getI c (k : Int)) := ⟨_, rfl⟩
      rw [← hv]
      have hv0 : 0 ≤ v := by rw [hv]; exact Int.le_min.mpr ⟨w.cnt, hd⟩
      have hv1 : v ≤ s2.p1 := by rw [hv]; exact Int.min_le_left ..
      have hv2 : v ≤ getI s2.p2 (j : Int) / getI c (k : Int) := by rw [hv]; exact Int.min_le_right ..
      have hv3 := Int.mul_le_mul_of_nonneg_right hv2 (show 0 ≤ getI c (k : Int) by omega)
      refine ⟨rfl, rfl, rfl, w.rect.set _ _ _, by show (setI _ _ _).length = _; rw [setI_len]; exact w.ln, fun i hi => ?_, by show 0 ≤ s2.p1 - v; omega, fun i hi q h0 hq => ?_, fun i hi => ?_⟩
      · show 0 ≤ getI (setI s2.p2 (j : Int) _) i
        rw [getI_setI ⟨hjn.1, by rw [w.ln]; exact hjn.2⟩ ⟨hi.1, by rw [w.ln]; exact hi.2⟩]
        split
        · omega
        · exact w.pos i hi
      · show getI (mRow (setM s2.p0 (j : Int) (k : Int) v) i) q = 0
        rw [mRow_setM ⟨hjn.1, by omega⟩ ⟨hi.1, by omega⟩]
        split
        · rename_i e
          rw [getI_set_ne h0 hkm.1 (by omega), ← e]
          exact w.z i hi q h0 hq
        · exact w.z i hi q h0 hq
      · show getI (mRow (setM s2.p0 (j : Int) (k : Int) v) i) (k : Int) = 0
        rw [mRow_setM ⟨hjn.1, by omega⟩ ⟨by omega, by omega⟩, if_neg (by omega)]
        exact w.zx i ⟨by omega, hi.2⟩
theorem first_lack_iff {c h a : List Int} (hc : Chain c) (hh : Pile c h) : (first_lack c h a).isNone = true ↔ law_lacks c h a = [] := by
  unfold first_lack
  rw [forF_none (b := fun x : T2 Int Int => decide (x.p1 < 0)) (r := fun x => T3.mk x.p0 (left_by c a x.p0) (lesser_of c h x.p0)) (fun x hx => rfl)]
  unfold law_lacks
  rw [List.map_eq_nil_iff, List.filter_eq_nil_iff]
  have el : Int.toNat ((c.length : Int) + 1) = c.length + 1 := by omega
  rw [el]
  have sp : ∀ k : Nat, k < c.length + 1 → (spare_list c h a)[k]? = some (law_lesser c h k - law_left c a k) := fun k hk => by
    unfold spare_list
    rw [el, List.getElem?_map, rng_get hk, Int.zero_add]
    show some (lesser_of c h k - left_by c a k) = _
    rw [lesser_eq ⟨by omega, by omega⟩ hh.1]
    rfl
  constructor
  · intro hx k hk
    have := mem_rng hk
    obtain ⟨i, rfl⟩ : ∃ i : Nat, k = (i : Int) := ⟨k.toNat, by omega⟩
    have e := sp i (by omega)
    have hm : (T2.mk (i : Int) (law_lesser c h i - law_left c a i)) ∈ enumT (spare_list c h a) := by
      refine List.mem_of_getElem? (i := i) ?_
      unfold enumT
      rw [List.getElem?_zipWith, List.getElem?_range (by rw [spare_len]; omega), e]
    have := hx _ hm
    rw [decide_eq_false_iff_not] at this
    rw [decide_eq_true_eq]
    have : ¬ (law_lesser c h i - law_left c a i < 0) := this
    omega
  · intro hx x hxm
    obtain ⟨i, hi⟩ := List.getElem?_of_mem hxm
    obtain ⟨h1, h2, h3⟩ := enumT_get hi
    rw [spare_len] at h1
    rw [sp i h1] at h3
    injection h3 with h3
    have := hx (i : Int) (by
      unfold rng
      exact List.mem_map.mpr ⟨i, List.mem_range.mpr h1, by omega⟩)
    rw [decide_eq_true_eq] at this
    rw [decide_eq_false_iff_not, ← h3]
    omega
theorem parts_eq {c h w : List Int} (hl : h.length = c.length) : parts c h w = if (w.filter (fun x => (!decide (((law_worth c h) * x) % (w.sum) = (0 : Int))))) = [] then some (w.map (fun x => (((law_worth c h) * x) / (w.sum) : Int))) else none := by
  unfold parts amounts_of
  dsimp only
  rw [worth_of_eq, ← law_worth_eq (by omega)]
  generalize law_worth c h = V
  by_cases q : (w.filter (fun x => (!decide ((V * x) % (w.sum) = (0 : Int))))) = []
  · rw [if_pos q, if_neg]
    rw [Bool.not_eq_true, Bool.not_eq_false']
    refine List.all_eq_true.mpr fun b hb => ?_
    obtain ⟨x, hx, rfl⟩ := List.mem_map.mp hb
    have := List.filter_eq_nil_iff.mp q x hx
    simpa using this
  · rw [if_neg q, if_pos]
    rw [Bool.not_eq_true', Bool.eq_false_iff]
    intro z
    refine q (List.filter_eq_nil_iff.mpr fun x hx => ?_)
    have := List.all_eq_true.mp z _ (List.mem_map.mpr ⟨x, hx, rfl⟩)
    simpa using this
theorem law_true (script : List Int) : law script = true := by
  obtain ⟨hc, hc2, hc6⟩ := law_chain_ok (script := script) (at_ := 0) (most := 6) (by decide)
  have hh : Pile (law_chain script 0 6) (law_heap script 1 (law_chain script 0 6) 12) := law_heap_ok (by decide)
  unfold law
  dsimp only
  generalize law_chain script 0 6 = c at *
  generalize law_heap script 1 c 12 = h at *
  rw [forF_unit]
  · dsimp only [Fr.go]
    have hw := law_weights_ok (numbers_len script 2 9) (numbers_bd script 2 9) (getI (law_numbers script 3 1) 0)
    generalize cut ((law_numbers script 2 9).map (fun number_1 => (((1 : Int) + (number_1 % (4 : Int))) : Int))) none (some ((2 : Int) + ((getI (law_numbers script (3 : Int) (1 : Int)) (0 : Int)) % (3 : Int)))) = w at *
    have hp := parts_eq (c := c) (h := h) (w := w) hh.1
    have hV : 0 ≤ law_worth c h := by
      rw [law_worth_eq (by rw [hh.1]; exact Nat.le_refl _)]
      exact G_nonneg hc hh 0
    have hws := weights_sum hw
    have ewm : ∀ f : Int → Bool, (w.filter f).map (fun weight_2 => (weight_2 : Int)) = w.filter f := fun f => List.map_id' _
    rw [ewm]
    generalize law_worth c h = V at *
    by_cases q : (w.filter (fun x => (!decide ((V * x) % (w.sum) = (0 : Int))))) = []
    · rw [if_pos q] at hp
      rw [decide_eq_true q, if_neg (by decide), hp, decide_eq_true rfl, if_neg (by decide)]
      have ham : ∀ v ∈ w.map (fun x => ((V * x) / (w.sum) : Int)), 0 ≤ v := fun v hv => by
        obtain ⟨x, hx, rfl⟩ := List.mem_map.mp hv
        have := hw.2.2 x hx
        exact Int.ediv_nonneg (Int.mul_nonneg hV (by omega)) (by omega)
      have hwe : weighed c h w = if (law_lacks c h (w.map (fun x => ((V * x) / (w.sum) : Int)))) = [] then some (law_payments c h (w.map (fun x => ((V * x) / (w.sum) : Int)))) else none := by
        unfold weighed
        dsimp only
        rw [hp, if_neg (by exact Bool.false_ne_true)]
        show (if decide (Sum.elim (fun t => t.p0) (fun t => t.p0) (told_answer c h (w.map (fun x => ((V * x) / (w.sum) : Int)))) = ("payments" : Str)) = true then some ((ur (told_answer c h (w.map (fun x => ((V * x) / (w.sum) : Int))))).p1) else none) = _
        have fl := first_lack_iff (a := w.map (fun x => ((V * x) / (w.sum) : Int))) hc hh
        generalize w.map (fun x => ((V * x) / (w.sum) : Int)) = a at *
        unfold told_answer
        dsimp only
        by_cases z : law_lacks c h a = []
        · have := fl.mpr z
          rw [if_pos z]
          rw [if_neg (show ¬ (first_lack c h a).isSome = true by
            cases e : first_lack c h a with
            | none => exact Bool.false_ne_true
            | some v => rw [e] at this; cases this)]
          rw [if_pos (by exact decide_eq_true rfl)]
          show some (house_payments c h a) = _
          rw [pay_eq hc hh ham]
        · rw [if_neg z]
          have : ¬ (first_lack c h a).isNone = true := fun y => z (fl.mp y)
          rw [if_pos (show (first_lack c h a).isSome = true by
            cases e : first_lack c h a with
            | none => rw [e] at this; exact absurd rfl this
            | some v => rfl)]
          rw [if_neg (by
            intro y
            exact absurd (show ("value" : Str) = ("payments" : Str) from of_decide_eq_true y) (by decide))]
      rw [hwe]
      by_cases z : law_lacks c h (w.map (fun x => ((V * x) / (w.sum) : Int))) = []
      · rw [decide_eq_true z, if_neg (by decide), if_pos z, decide_eq_true rfl, if_neg (by decide)]
      · rw [decide_eq_false z, if_pos (by decide), if_neg z]; rfl
    · rw [if_neg q] at hp
      rw [decide_eq_false q, if_pos (by decide)]
      have : weighed c h w = none := by
        unfold weighed
        dsimp only
        rw [hp]; rfl
      rw [hp, this]; rfl
  · intro x hx
    have hxm := mem_rng hx
    have h1 : 1 ≤ x := by omega
    have ed : (rng 0 (Int.toNat (c.length : Int))).foldl (bd_law_2 c h x) 0 = dueA c h x := rfl
    have eh := hold_eq hc hh h1
    have eg : least_greatest c h x = dueA c h x := eh
    have el : levelled c h x = law_laid c h (repL [dueA c h x] x) := by
      unfold levelled
      rw [eh]; exact load_eq hc
    have hr : Rect (((rngC ((c.length : Int) - (1 : Int)) (-1) (Int.toNat (((c.length : Int) - (1 : Int)) - (-(1 : Int))))).foldl (bd_law_3 h x) (T2.mk ((rng 0 (Int.toNat x)).map (fun j_1 => ((repL ([(0 : Int)]) (c.length : Int)) : (List Int)))) 0)).p0) x.toNat c.length := law_turns_end rfl (rect0 x c)
    have ew := worths_eq hr
    have et := turns_eq (c := c) (h := h) h1
    have em := turns_max hc hh h1
    unfold bd_law_1
    dsimp only
    rw [ed, eg, el, need_eq h1, ← need_eq (c := c) (h := h) h1, need_max hc hh h1, et]
    generalize ((rngC ((c.length : Int) - (1 : Int)) (-1) (Int.toNat (((c.length : Int) - (1 : Int)) - (-(1 : Int))))).foldl (bd_law_3 h x) (T2.mk ((rng 0 (Int.toNat x)).map (fun j_1 => ((repL ([(0 : Int)]) (c.length : Int)) : (List Int)))) 0)) = s at *
    have eg2 : gap c s.p0 = lmax (s.p0.map (fun row_1 => ((law_worth c row_1) : Int))) - lmin (s.p0.map (fun row_1 => ((law_worth c row_1) : Int))) := by
      unfold gap
      rw [ew]
    have ew2 : s.p0.map (Wo c) = s.p0.map (fun row_1 => ((law_worth c row_1) : Int)) := by
      rw [← ew]
      unfold worths
      exact List.map_congr_left fun r _ => (worth_of_eq c r).symm
    rw [ew2] at em
    rw [if_neg (by simp [law_is_integer]), if_neg (by simp), if_neg (by simp [ew]), if_neg (by
      rw [eg2]
      simp
      exact em)]
end K96


namespace K96
open PySem L2 Fw Emb
def top (i : Nat) : Stmt := PySem.Challenge.pw_paidatonce_k96_least_greatest_shares.main.body.getD i (.Pass ⟨0, 0, 0, 0⟩)
structure Tx (G : Gc) : Prop where
  b_all : G.mg "all" = none
  b_bool : G.mg "bool" = none
  b_enumerate : G.mg "enumerate" = none
  b_int : G.mg "int" = none
  b_isinstance : G.mg "isinstance" = none
  b_len : G.mg "len" = none
  b_list : G.mg "list" = none
  b_max : G.mg "max" = none
  b_min : G.mg "min" = none
  b_range : G.mg "range" = none
  b_sum : G.mg "sum" = none
  b_zip : G.mg "zip" = none
  c_FEWEST : RelC G.mg "FEWEST" (.int 2)
  c_GREATEST_VALUE : RelC G.mg "GREATEST_VALUE" (.int 1000000)
  c_GREATEST_WEIGHT : RelC G.mg "GREATEST_WEIGHT" (.int 100)
  c_MOST : RelC G.mg "MOST" (.int 8)
  c_MOST_PIECES : RelC G.mg "MOST_PIECES" (.int 99)
  c_MOST_VALUES : RelC G.mg "MOST_VALUES" (.int 8)
/-! ### is_whole -/
def R_is_whole : List PyData → Except Exn PyData → Prop := fun ds r => ∃ (value : Int), ds = [(.int value)] ∧ r = .ok (.bool (is_whole value))
theorem sc_is_whole : FnScope ["value"] ["value"] (defScope (top 1)) := ⟨rfl, rfl, rfl, by decide +kernel, rfl, by decide +kernel, by decide +kernel⟩
theorem ok_is_whole {G : Gc} (T : Tx G) {f : Addr} {fd : FuncData} (F : Fun G.K "is_whole" "is_whole" (top 1) f fd) : FnOk G.P G.w G.K G.mg G.base (L2.CX G.P G.w) 1 f fd ["value"] (SpD G R_is_whole) := by
  have hSz := sizeLine_eq
  refine def_body F sc_is_whole (fun ds r h => ?_) (by decide) (fun ds r h => ?_)
  · obtain ⟨_, rfl, _⟩ := h; rfl
  · obtain ⟨value, rfl, rfl⟩ := h
    obtain ⟨q0, hk0⟩ : ∃ q, q = (is_whole value) := ⟨_, rfl⟩
    rw [← hk0]
    have hq0 := hk0
    unfold is_whole at hq0
    show XSs _ _ [.dat (.int value)] _
    refine xss_ret (d := (.bool (true && (!false)))) ?_ (by rw [hq0]; try rfl)
    exact (xe_and (xe_isi (d := (.int value)) (n := "int") (k := true) rfl (kit_c (t := "int") rfl (by decide +kernel)) T.b_isinstance T.b_int (by decide +kernel) (xe_var 0)) (fun hs1 => (xe_one (xe_not (xe_isi (d := (.int value)) (n := "bool") (k := false) rfl (kit_c (t := "int") rfl (by decide +kernel)) T.b_isinstance T.b_bool (by decide +kernel) (xe_var 0))))))
/-! ### is_from_to -/
def R_is_from_to : List PyData → Except Exn PyData → Prop := fun ds r => ∃ (value : Int) (least : Int) (most : Int), ds = [(.int value), (.int least), (.int most)] ∧ r = .ok (.bool (is_from_to value least most))
theorem sc_is_from_to : FnScope ["value", "least", "most"] ["value", "least", "most"] (defScope (top 2)) := ⟨rfl, rfl, rfl, by decide +kernel, rfl, by decide +kernel, by decide +kernel⟩
theorem ok_is_from_to {G : Gc} (T : Tx G) (D_is_whole : DefD G "is_whole" 1 ["value"] R_is_whole) {f : Addr} {fd : FuncData} (F : Fun G.K "is_from_to" "is_from_to" (top 2) f fd) : FnOk G.P G.w G.K G.mg G.base (L2.CX G.P G.w) 2 f fd ["value", "least", "most"] (SpD G R_is_from_to) := by
  have hSz := sizeLine_eq
  refine def_body F sc_is_from_to (fun ds r h => ?_) (by decide) (fun ds r h => ?_)
  · obtain ⟨_, _, _, rfl, _⟩ := h; rfl
  · obtain ⟨value, least, most, rfl, rfl⟩ := h
    obtain ⟨q0, hk0⟩ : ∃ q, q = (is_from_to value least most) := ⟨_, rfl⟩
    rw [← hk0]
    have hq0 := hk0
    unfold is_from_to at hq0
    show XSs _ _ [.dat (.int value), .dat (.int least), .dat (.int most)] _
    refine xss_ret (d := (.bool ((is_whole value) && (decide (least ≤ value) && decide (value ≤ most))))) ?_ (by rw [hq0]; try rfl)
    exact (xe_and (xe_call D_is_whole (Nat.le_of_ble_eq_true rfl) rfl ⟨value, rfl, rfl⟩ (xa_cons (xe_var 0) xa_nil)) (fun hs1 => (xe_one (xe_lele (xe_var 1) (xe_var 0) (xe_var 2)))))
/-! ### is_listed -/
def R_is_listed : List PyData → Except Exn PyData → Prop := fun ds r => ∃ (value : (List Int)), ds = [(emb (value : (List Int)))] ∧ r = .ok (.bool (is_listed value))
theorem sc_is_listed : FnScope ["value"] ["value"] (defScope (top 12)) := ⟨rfl, rfl, rfl, by decide +kernel, rfl, by decide +kernel, by decide +kernel⟩
theorem ok_is_listed {G : Gc} (T : Tx G) {f : Addr} {fd : FuncData} (F : Fun G.K "is_listed" "is_listed" (top 12) f fd) : FnOk G.P G.w G.K G.mg G.base (L2.CX G.P G.w) 1 f fd ["value"] (SpD G R_is_listed) := by
  have hSz := sizeLine_eq
  refine def_body F sc_is_listed (fun ds r h => ?_) (by decide) (fun ds r h => ?_)
  · obtain ⟨_, rfl, _⟩ := h; rfl
  · obtain ⟨value, rfl, rfl⟩ := h
    obtain ⟨q0, hk0⟩ : ∃ q, q = (is_listed value) := ⟨_, rfl⟩
    rw [← hk0]
    have hq0 := hk0
    unfold is_listed at hq0
    show XSs _ _ [.dat (emb (value : (List Int)))] _
    refine xss_ret (d := (.bool (true && (decide ((1 : Int) ≤ (value.length : Int)) && decide ((value.length : Int) ≤ (8 : Int)))))) ?_ (by rw [hq0]; try rfl)
    exact (xe_and (xe_isi (d := (emb (value : (List Int)))) (n := "list") (k := true) rfl (kit_c (t := "list") rfl (by decide +kernel)) T.b_isinstance T.b_list (by decide +kernel) (xe_var 0)) (fun hs1 => (xe_one (xe_lele xe_int (XE.to (xe_lenL T.b_len (xe_var 0)) (by rw [List.length_map])) (xe_globI T.c_MOST_VALUES)))))
/-! ### follows -/
def R_follows : List PyData → Except Exn PyData → Prop := fun ds r => ∃ (before : Int) (value : Int), ds = [(.int before), (.int value)] ∧ (0 < before) ∧ r = .ok (.bool (follows before value))
theorem sc_follows : FnScope ["before", "value"] ["before", "value"] (defScope (top 13)) := ⟨rfl, rfl, rfl, by decide +kernel, rfl, by decide +kernel, by decide +kernel⟩
theorem ok_follows {G : Gc} (T : Tx G) {f : Addr} {fd : FuncData} (F : Fun G.K "follows" "follows" (top 13) f fd) : FnOk G.P G.w G.K G.mg G.base (L2.CX G.P G.w) 1 f fd ["before", "value"] (SpD G R_follows) := by
  have hSz := sizeLine_eq
  refine def_body F sc_follows (fun ds r h => ?_) (by decide) (fun ds r h => ?_)
  · obtain ⟨_, _, rfl, _⟩ := h; rfl
  · obtain ⟨before, value, rfl, hb, rfl⟩ := h
    obtain ⟨q0, hk0⟩ : ∃ q, q = (follows before value) := ⟨_, rfl⟩
    rw [← hk0]
    have hq0 := hk0
    unfold follows at hq0
    show XSs _ _ [.dat (.int before), .dat (.int value)] _
    refine xss_ret (d := (.bool ((decide (before < value)) && (decide ((value % before) = (0 : Int)))))) ?_ (by rw [hq0]; try rfl)
    exact (xe_and (xe_gt (xe_var 1) (xe_var 0)) (fun hs1 => (xe_one (xe_eqI (xe_mod (by first | assumption | omega | decide | (simp; done)) (xe_var 1) (xe_var 0)) xe_int))))
/-! ### first_wrong -/
def R_first_wrong : List PyData → Except Exn PyData → Prop := fun ds r => ∃ (listed : (List Int)), ds = [(emb (listed : (List Int)))] ∧ (Pos listed) ∧ r = .ok (emb ((first_wrong listed) : (Option Int)))
theorem sc_first_wrong : FnScope ["listed", "index", "value"] ["listed"] (defScope (top 14)) := ⟨rfl, rfl, rfl, by decide +kernel, rfl, by decide +kernel, by decide +kernel⟩
theorem ok_first_wrong {G : Gc} (T : Tx G) (D_is_from_to : DefD G "is_from_to" 2 ["value", "least", "most"] R_is_from_to) (D_follows : DefD G "follows" 1 ["before", "value"] R_follows) {f : Addr} {fd : FuncData} (F : Fun G.K "first_wrong" "first_wrong" (top 14) f fd) : FnOk G.P G.w G.K G.mg G.base (L2.CX G.P G.w) 3 f fd ["listed"] (SpD G R_first_wrong) := by
  have hSz := sizeLine_eq
  refine def_body F sc_first_wrong (fun ds r h => ?_) (by decide) (fun ds r h => ?_)
  · obtain ⟨_, rfl, _⟩ := h; rfl
  · obtain ⟨listed, rfl, hc, rfl⟩ := h
    obtain ⟨q0, hk0⟩ : ∃ q, q = (first_wrong listed) := ⟨_, rfl⟩
    rw [← hk0]
    have hq0 := hk0
    unfold first_wrong at hq0
    show XSs _ _ [.dat (emb (listed : (List Int))), .junk, .junk] _
    refine' xss_for (emb : (T2 Int Int) → PyData) (xs := (enumT listed)) (fun (s1 : Unit) => ([.dat (emb (listed : (List Int))), .junk, .junk] : Evm)) (bd_first_wrong_1 listed) () ?i_1 rfl (xgc_tup2 1 2 rfl sc_first_wrong.nd) (Le.cs (Le.cj (Le.cj Le.nil))) (fun i1 x1 s1 hx1 hist1 => ?tn_1) (fun fin_1 hF1 => ?k_1)
    case i_1 => exact (xi_enumT T.b_enumerate (xe_var 0))
    case tn_1 =>
      refine ⟨by exact ⟨Nat.le_of_ble_eq_true rfl, Nat.le_of_ble_eq_true rfl, _, _, rfl⟩, ?_⟩
      obtain ⟨q1, hk1⟩ : ∃ q, q = (bd_first_wrong_1 listed) s1 x1 := ⟨_, rfl⟩
      have hq1 := hk1
      unfold bd_first_wrong_1 at hq1
      obtain ⟨e1, e2, e3⟩ := enumT_get hx1
      show XSs _ _ [.dat (emb (listed : (List Int))), .dat (.int x1.p0), .dat (.int x1.p1)] _
      refine' xss_if (k := (!(is_from_to x1.p1 (1 : Int) (1000000 : Int)))) ?t_2 (fun hb1 => ?a_2) (fun hb1 => ?b_2)
      case t_2 => exact (xt_not (xt_val (xe_call D_is_from_to (Nat.le_of_ble_eq_true rfl) rfl ⟨x1.p1, (1 : Int), (1000000 : Int), rfl, rfl⟩ (xa_cons (xe_var 2) (xa_cons xe_int (xa_cons (xe_globI T.c_GREATEST_VALUE) xa_nil))))))
      case a_2 =>
        have hp1 := hb1
        try simp only [Bool.and_eq_true, Bool.or_eq_true, Bool.not_eq_true', Bool.not_eq_false', Bool.or_eq_false_iff, Bool.and_eq_false_iff, decide_eq_true_eq, decide_eq_false_iff_not, Bool.not_eq_true, Bool.not_eq_false] at hp1
        rw [if_pos hb1] at hq1
        rw [go_rt (forF_rt hx1 hist1 (hk1.symm.trans hq1))] at hq0
        refine xss_ret (d := (emb ((some x1.p0) : (Option Int)))) ?_ (by rw [hq0]; try rfl)
        exact (xe_var 1)
      case b_2 =>
        have hp1 := hb1
        try simp only [Bool.and_eq_true, Bool.or_eq_true, Bool.not_eq_true', Bool.not_eq_false', Bool.or_eq_false_iff, Bool.and_eq_false_iff, decide_eq_true_eq, decide_eq_false_iff_not, Bool.not_eq_true, Bool.not_eq_false] at hp1
        rw [if_neg (by rw [hb1]; exact Bool.false_ne_true)] at hq1
        refine xss_nil ?_
        show XSs _ _ [.dat (emb (listed : (List Int))), .dat (.int x1.p0), .dat (.int x1.p1)] _
        refine' xss_if (k := ((decide ((0 : Int) < x1.p0)) && (!(follows (getI listed (x1.p0 - (1 : Int))) x1.p1)))) ?t_3 (fun hb3 => ?a_3) (fun hb3 => ?b_3)
        case t_3 => exact (XW.pt (xw_and (xt_gt (xe_var 1) xe_int) (fun hs2 => (xw_and1 (xt_not (xt_val (xe_call D_follows (Nat.le_of_ble_eq_true rfl) rfl ⟨(getI listed (x1.p0 - (1 : Int))), x1.p1, rfl, (by have := of_decide_eq_true hs2; exact hc _ (getI_mem ⟨by omega, by omega⟩)), rfl⟩ (xa_cons (xe_ixI (xs := listed) (by have := of_decide_eq_true hs2; exact ⟨by omega, by omega⟩) (xe_var 0) (xe_sub (xe_var 1) xe_int)) (xa_cons (xe_var 2) xa_nil)))))))))
        case a_3 =>
          have hp3 := hb3
          try simp only [Bool.and_eq_true, Bool.or_eq_true, Bool.not_eq_true', Bool.not_eq_false', Bool.or_eq_false_iff, Bool.and_eq_false_iff, decide_eq_true_eq, decide_eq_false_iff_not, Bool.not_eq_true, Bool.not_eq_false] at hp3
          rw [if_pos hb3] at hq1
          rw [go_rt (forF_rt hx1 hist1 (hk1.symm.trans hq1))] at hq0
          refine xss_ret (d := (emb ((some x1.p0) : (Option Int)))) ?_ (by rw [hq0]; try rfl)
          exact (xe_var 1)
        case b_3 =>
          have hp3 := hb3
          try simp only [Bool.and_eq_true, Bool.or_eq_true, Bool.not_eq_true', Bool.not_eq_false', Bool.or_eq_false_iff, Bool.and_eq_false_iff, decide_eq_true_eq, decide_eq_false_iff_not, Bool.not_eq_true, Bool.not_eq_false] at hp3
          rw [if_neg (by rw [hb3]; exact Bool.false_ne_true)] at hq1
          refine xss_nil ?_
          show XSs _ _ [.dat (emb (listed : (List Int))), .dat (.int x1.p0), .dat (.int x1.p1)] _
          exact xss_nil ⟨_, hk1.symm.trans hq1, (Le.cs (Le.cj (Le.cj Le.nil)))⟩
    case k_1 =>
      have hq_ := hq0.trans (go_end hF1)
      clear hq0
      have hq0 := hq_
      clear hq_
      show XSs _ _ [.dat (emb (listed : (List Int))), .junk, .junk] _
      refine xss_ret (d := (emb ((none : (Option Int)) : (Option Int)))) ?_ (by rw [hq0]; try rfl)
      exact xe_non
/-! ### check_chain -/
def R_check_chain : List PyData → Except Exn PyData → Prop := fun ds r => ∃ (value : (List Int)), ds = [(emb (value : (List Int)))] ∧ (Chain value) ∧ r = .ok (emb ((check_chain value) : Unit))
theorem sc_check_chain : FnScope ["value", "wrong"] ["value"] (defScope (top 16)) := ⟨rfl, rfl, rfl, by decide +kernel, rfl, by decide +kernel, by decide +kernel⟩
theorem ok_check_chain {G : Gc} (T : Tx G) (D_is_listed : DefD G "is_listed" 1 ["value"] R_is_listed) (D_first_wrong_chains : DefD G "first_wrong_chains" 3 ["listed"] R_first_wrong) {f : Addr} {fd : FuncData} (F : Fun G.K "check_chain" "check_chain" (top 16) f fd) : FnOk G.P G.w G.K G.mg G.base (L2.CX G.P G.w) 4 f fd ["value"] (SpD G R_check_chain) := by
  have hSz := sizeLine_eq
  refine def_body F sc_check_chain (fun ds r h => ?_) (by decide) (fun ds r h => ?_)
  · obtain ⟨_, rfl, _⟩ := h; rfl
  · obtain ⟨value, rfl, hc, rfl⟩ := h
    obtain ⟨q0, hk0⟩ : ∃ q, q = (check_chain value) := ⟨_, rfl⟩
    rw [← hk0]
    have hq0 := hk0
    unfold check_chain at hq0
    show XSs _ _ [.dat (emb (value : (List Int))), .junk] _
    refine' xss_if (k := (!(is_listed value))) ?t_1 (fun hb1 => ?a_1) (fun hb1 => ?b_1)
    case t_1 => exact (xt_not (xt_val (xe_call D_is_listed (Nat.le_of_ble_eq_true rfl) rfl ⟨value, rfl, rfl⟩ (xa_cons (xe_var 0) xa_nil))))
    case a_1 =>
      have hp1 := hb1
      try simp only [Bool.and_eq_true, Bool.or_eq_true, Bool.not_eq_true', Bool.not_eq_false', Bool.or_eq_false_iff, Bool.and_eq_false_iff, decide_eq_true_eq, decide_eq_false_iff_not, Bool.not_eq_true, Bool.not_eq_false] at hp1
      exact False.elim (by rw [chain_listed hc] at hp1; cases hp1)
    case b_1 =>
      have hp1 := hb1
      try simp only [Bool.and_eq_true, Bool.or_eq_true, Bool.not_eq_true', Bool.not_eq_false', Bool.or_eq_false_iff, Bool.and_eq_false_iff, decide_eq_true_eq, decide_eq_false_iff_not, Bool.not_eq_true, Bool.not_eq_false] at hp1
      refine xss_nil ?_
      show XSs _ _ [.dat (emb (value : (List Int))), .junk] _
      extract_lets +onlyGivenNames -merge wrong_1 at hq0
      have hx_wrong_1 : wrong_1 = ((first_wrong value) : (Option Int)) := rfl
      clear_value wrong_1
      refine' xss_setE hx_wrong_1 1 sc_check_chain.nd ?t_2 ?k_2
      case t_2 => exact (xe_call D_first_wrong_chains (Nat.le_of_ble_eq_true rfl) rfl ⟨value, rfl, (by exact hc.pos), rfl⟩ (xa_cons (xe_var 0) xa_nil))
      case k_2 =>
        show XSs _ _ [.dat (emb (value : (List Int))), .dat (emb (wrong_1 : (Option Int)))] _
        refine' xss_if (k := (wrong_1.isSome)) ?t_3 (fun hb2 => ?a_3) (fun hb2 => ?b_3)
        case t_3 => exact (xt_notNO (xe_var 1))
        case a_3 =>
          have hp2 := hb2
          try simp only [Bool.and_eq_true, Bool.or_eq_true, Bool.not_eq_true', Bool.not_eq_false', Bool.or_eq_false_iff, Bool.and_eq_false_iff, decide_eq_true_eq, decide_eq_false_iff_not, Bool.not_eq_true, Bool.not_eq_false] at hp2
          exact False.elim (by rw [hx_wrong_1, chain_right hc] at hp2; cases hp2)
        case b_3 =>
          have hp2 := hb2
          try simp only [Bool.and_eq_true, Bool.or_eq_true, Bool.not_eq_true', Bool.not_eq_false', Bool.or_eq_false_iff, Bool.and_eq_false_iff, decide_eq_true_eq, decide_eq_false_iff_not, Bool.not_eq_true, Bool.not_eq_false] at hp2
          refine xss_nil ?_
          show XSs _ _ [.dat (emb (value : (List Int))), .dat (emb (wrong_1 : (Option Int)))] _
          exact xss_nil (by rw [hq0]; rfl)
/-! ### first_wrong#2 -/
def R_first_wrong_x2 : List PyData → Except Exn PyData → Prop := fun ds r => ∃ (heap : (List Int)), ds = [(emb (heap : (List Int)))] ∧ r = .ok (emb ((first_wrong_x2 heap) : (Option Int)))
theorem sc_first_wrong_x2 : FnScope ["heap", "index", "count"] ["heap"] (defScope (top 20)) := ⟨rfl, rfl, rfl, by decide +kernel, rfl, by decide +kernel, by decide +kernel⟩
theorem ok_first_wrong_x2 {G : Gc} (T : Tx G) (D_is_from_to : DefD G "is_from_to" 2 ["value", "least", "most"] R_is_from_to) {f : Addr} {fd : FuncData} (F : Fun G.K "first_wrong" "first_wrong" (top 20) f fd) : FnOk G.P G.w G.K G.mg G.base (L2.CX G.P G.w) 3 f fd ["heap"] (SpD G R_first_wrong_x2) := by
  have hSz := sizeLine_eq
  refine def_body F sc_first_wrong_x2 (fun ds r h => ?_) (by decide) (fun ds r h => ?_)
  · obtain ⟨_, rfl, _⟩ := h; rfl
  · obtain ⟨heap, rfl, rfl⟩ := h
    obtain ⟨q0, hk0⟩ : ∃ q, q = (first_wrong_x2 heap) := ⟨_, rfl⟩
    rw [← hk0]
    have hq0 := hk0
    unfold first_wrong_x2 at hq0
    show XSs _ _ [.dat (emb (heap : (List Int))), .junk, .junk] _
    refine' xss_for (emb : (T2 Int Int) → PyData) (xs := (enumT heap)) (fun (s1 : Unit) => ([.dat (emb (heap : (List Int))), .junk, .junk] : Evm)) bd_first_wrong_x2_1 () ?i_1 rfl (xgc_tup2 1 2 rfl sc_first_wrong_x2.nd) (Le.cs (Le.cj (Le.cj Le.nil))) (fun i1 x1 s1 hx1 hist1 => ?tn_1) (fun fin_1 hF1 => ?k_1)
    case i_1 => exact (xi_enumT T.b_enumerate (xe_var 0))
    case tn_1 =>
      refine ⟨by exact ⟨Nat.le_of_ble_eq_true rfl, Nat.le_of_ble_eq_true rfl, _, _, rfl⟩, ?_⟩
      obtain ⟨q1, hk1⟩ : ∃ q, q = bd_first_wrong_x2_1 s1 x1 := ⟨_, rfl⟩
      have hq1 := hk1
      unfold bd_first_wrong_x2_1 at hq1
      show XSs _ _ [.dat (emb (heap : (List Int))), .dat (.int x1.p0), .dat (.int x1.p1)] _
      refine' xss_if (k := (!(is_from_to x1.p1 (0 : Int) (99 : Int)))) ?t_2 (fun hb1 => ?a_2) (fun hb1 => ?b_2)
      case t_2 => exact (xt_not (xt_val (xe_call D_is_from_to (Nat.le_of_ble_eq_true rfl) rfl ⟨x1.p1, (0 : Int), (99 : Int), rfl, rfl⟩ (xa_cons (xe_var 2) (xa_cons xe_int (xa_cons (xe_globI T.c_MOST_PIECES) xa_nil))))))
      case a_2 =>
        have hp1 := hb1
        try simp only [Bool.and_eq_true, Bool.or_eq_true, Bool.not_eq_true', Bool.not_eq_false', Bool.or_eq_false_iff, Bool.and_eq_false_iff, decide_eq_true_eq, decide_eq_false_iff_not, Bool.not_eq_true, Bool.not_eq_false] at hp1
        rw [if_pos hb1] at hq1
        rw [go_rt (forF_rt hx1 hist1 (hk1.symm.trans hq1))] at hq0
        refine xss_ret (d := (emb ((some x1.p0) : (Option Int)))) ?_ (by rw [hq0]; try rfl)
        exact (xe_var 1)
      case b_2 =>
        have hp1 := hb1
        try simp only [Bool.and_eq_true, Bool.or_eq_true, Bool.not_eq_true', Bool.not_eq_false', Bool.or_eq_false_iff, Bool.and_eq_false_iff, decide_eq_true_eq, decide_eq_false_iff_not, Bool.not_eq_true, Bool.not_eq_false] at hp1
        rw [if_neg (by rw [hb1]; exact Bool.false_ne_true)] at hq1
        refine xss_nil ?_
        show XSs _ _ [.dat (emb (heap : (List Int))), .dat (.int x1.p0), .dat (.int x1.p1)] _
        exact xss_nil ⟨_, hk1.symm.trans hq1, (Le.cs (Le.cj (Le.cj Le.nil)))⟩
    case k_1 =>
      have hq_ := hq0.trans (go_end hF1)
      clear hq0
      have hq0 := hq_
      clear hq_
      show XSs _ _ [.dat (emb (heap : (List Int))), .junk, .junk] _
      refine xss_ret (d := (emb ((none : (Option Int)) : (Option Int)))) ?_ (by rw [hq0]; try rfl)
      exact xe_non
/-! ### check_counts -/
def R_check_counts : List PyData → Except Exn PyData → Prop := fun ds r => ∃ (chain : (List Int)) (value : (List Int)), ds = [(emb (chain : (List Int))), (emb (value : (List Int)))] ∧ (Pile chain value) ∧ r = .ok (emb ((check_counts chain value) : Unit))
theorem sc_check_counts : FnScope ["chain", "value", "wrong"] ["chain", "value"] (defScope (top 22)) := ⟨rfl, rfl, rfl, by decide +kernel, rfl, by decide +kernel, by decide +kernel⟩
theorem ok_check_counts {G : Gc} (T : Tx G) (D_first_wrong_heaps : DefD G "first_wrong_heaps" 3 ["heap"] R_first_wrong_x2) {f : Addr} {fd : FuncData} (F : Fun G.K "check_counts" "check_counts" (top 22) f fd) : FnOk G.P G.w G.K G.mg G.base (L2.CX G.P G.w) 4 f fd ["chain", "value"] (SpD G R_check_counts) := by
  have hSz := sizeLine_eq
  refine def_body F sc_check_counts (fun ds r h => ?_) (by decide) (fun ds r h => ?_)
  · obtain ⟨_, _, rfl, _⟩ := h; rfl
  · obtain ⟨chain, value, rfl, hh, rfl⟩ := h
    obtain ⟨q0, hk0⟩ : ∃ q, q = (check_counts chain value) := ⟨_, rfl⟩
    rw [← hk0]
    have hq0 := hk0
    unfold check_counts at hq0
    show XSs _ _ [.dat (emb (chain : (List Int))), .dat (emb (value : (List Int))), .junk] _
    refine' xss_if (k := ((!true) || (!decide ((value.length : Int) = (chain.length : Int))))) ?t_1 (fun hb2 => ?a_1) (fun hb2 => ?b_1)
    case t_1 => exact (XW.pt (xw_or (xt_not (xt_val (xe_isi (d := (emb (value : (List Int)))) (n := "list") (k := true) rfl (kit_c (t := "list") rfl (by decide +kernel)) T.b_isinstance T.b_list (by decide +kernel) (xe_var 1)))) (fun hs1 => (xw_or1 (xt_neI (XE.to (xe_lenL T.b_len (xe_var 1)) (by rw [List.length_map])) (XE.to (xe_lenL T.b_len (xe_var 0)) (by rw [List.length_map])))))))
    case a_1 =>
      have hp2 := hb2
      try simp only [Bool.and_eq_true, Bool.or_eq_true, Bool.not_eq_true', Bool.not_eq_false', Bool.or_eq_false_iff, Bool.and_eq_false_iff, decide_eq_true_eq, decide_eq_false_iff_not, Bool.not_eq_true, Bool.not_eq_false] at hp2
      exact False.elim (by have h1 := hh.1; simp at hb2; omega)
    case b_1 =>
      have hp2 := hb2
      try simp only [Bool.and_eq_true, Bool.or_eq_true, Bool.not_eq_true', Bool.not_eq_false', Bool.or_eq_false_iff, Bool.and_eq_false_iff, decide_eq_true_eq, decide_eq_false_iff_not, Bool.not_eq_true, Bool.not_eq_false] at hp2
      refine xss_nil ?_
      show XSs _ _ [.dat (emb (chain : (List Int))), .dat (emb (value : (List Int))), .junk] _
      extract_lets +onlyGivenNames -merge wrong_1 at hq0
      have hx_wrong_1 : wrong_1 = ((first_wrong_x2 value) : (Option Int)) := rfl
      clear_value wrong_1
      refine' xss_setE hx_wrong_1 2 sc_check_counts.nd ?t_2 ?k_2
      case t_2 => exact (xe_call D_first_wrong_heaps (Nat.le_of_ble_eq_true rfl) rfl ⟨value, rfl, rfl⟩ (xa_cons (xe_var 1) xa_nil))
      case k_2 =>
        show XSs _ _ [.dat (emb (chain : (List Int))), .dat (emb (value : (List Int))), .dat (emb (wrong_1 : (Option Int)))] _
        refine' xss_if (k := (wrong_1.isSome)) ?t_3 (fun hb3 => ?a_3) (fun hb3 => ?b_3)
        case t_3 => exact (xt_notNO (xe_var 2))
        case a_3 =>
          have hp3 := hb3
          try simp only [Bool.and_eq_true, Bool.or_eq_true, Bool.not_eq_true', Bool.not_eq_false', Bool.or_eq_false_iff, Bool.and_eq_false_iff, decide_eq_true_eq, decide_eq_false_iff_not, Bool.not_eq_true, Bool.not_eq_false] at hp3
          exact False.elim (by rw [hx_wrong_1, heap_right hh] at hb3; cases hb3)
        case b_3 =>
          have hp3 := hb3
          try simp only [Bool.and_eq_true, Bool.or_eq_true, Bool.not_eq_true', Bool.not_eq_false', Bool.or_eq_false_iff, Bool.and_eq_false_iff, decide_eq_true_eq, decide_eq_false_iff_not, Bool.not_eq_true, Bool.not_eq_false] at hp3
          refine xss_nil ?_
          show XSs _ _ [.dat (emb (chain : (List Int))), .dat (emb (value : (List Int))), .dat (emb (wrong_1 : (Option Int)))] _
          exact xss_nil (by rw [hq0]; rfl)
/-! ### check_heap -/
def R_check_heap : List PyData → Except Exn PyData → Prop := fun ds r => ∃ (chain : (List Int)) (value : (List Int)), ds = [(emb (chain : (List Int))), (emb (value : (List Int)))] ∧ (Chain chain) ∧ (Pile chain value) ∧ r = .ok (emb ((check_heap chain value) : Unit))
theorem sc_check_heap : FnScope ["chain", "value"] ["chain", "value"] (defScope (top 23)) := ⟨rfl, rfl, rfl, by decide +kernel, rfl, by decide +kernel, by decide +kernel⟩
theorem ok_check_heap {G : Gc} (T : Tx G) (D_check_chain : DefD G "check_chain" 4 ["value"] R_check_chain) (D_check_counts : DefD G "check_counts" 4 ["chain", "value"] R_check_counts) {f : Addr} {fd : FuncData} (F : Fun G.K "check_heap" "check_heap" (top 23) f fd) : FnOk G.P G.w G.K G.mg G.base (L2.CX G.P G.w) 5 f fd ["chain", "value"] (SpD G R_check_heap) := by
  have hSz := sizeLine_eq
  refine def_body F sc_check_heap (fun ds r h => ?_) (by decide) (fun ds r h => ?_)
  · obtain ⟨_, _, rfl, _⟩ := h; rfl
  · obtain ⟨chain, value, rfl, hc, hh, rfl⟩ := h
    obtain ⟨q0, hk0⟩ : ∃ q, q = (check_heap chain value) := ⟨_, rfl⟩
    rw [← hk0]
    have hq0 := hk0
    unfold check_heap at hq0
    show XSs _ _ [.dat (emb (chain : (List Int))), .dat (emb (value : (List Int)))] _
    refine' xss_expr (d := .none) ?t_1 ?k_1
    case t_1 => exact (xe_call D_check_chain (Nat.le_of_ble_eq_true rfl) rfl ⟨chain, rfl, (by first | assumption | omega | decide | (simp; done)), rfl⟩ (xa_cons (xe_var 0) xa_nil))
    case k_1 =>
      show XSs _ _ [.dat (emb (chain : (List Int))), .dat (emb (value : (List Int)))] _
      refine' xss_expr (d := .none) ?t_2 ?k_2
      case t_2 => exact (xe_call D_check_counts (Nat.le_of_ble_eq_true rfl) rfl ⟨chain, value, rfl, (by first | assumption | omega | decide | (simp; done)), rfl⟩ (xa_cons (xe_var 0) (xa_cons (xe_var 1) xa_nil)))
      case k_2 =>
        show XSs _ _ [.dat (emb (chain : (List Int))), .dat (emb (value : (List Int)))] _
        exact xss_nil (by rw [hq0]; rfl)
/-! ### worth_of -/
def R_worth_of : List PyData → Except Exn PyData → Prop := fun ds r => ∃ (chain : (List Int)) (heap : (List Int)), ds = [(emb (chain : (List Int))), (emb (heap : (List Int)))] ∧ (Few chain) ∧ r = .ok (.int (worth_of chain heap))
theorem sc_worth_of : FnScope ["chain", "heap", "value", "count"] ["chain", "heap"] (defScope (top 24)) := ⟨rfl, rfl, rfl, by decide +kernel, rfl, by decide +kernel, by decide +kernel⟩
theorem ok_worth_of {G : Gc} (T : Tx G) {f : Addr} {fd : FuncData} (F : Fun G.K "worth_of" "worth_of" (top 24) f fd) : FnOk G.P G.w G.K G.mg G.base (L2.CX G.P G.w) 1 f fd ["chain", "heap"] (SpD G R_worth_of) := by
  have hSz := sizeLine_eq
  refine def_body F sc_worth_of (fun ds r h => ?_) (by decide) (fun ds r h => ?_)
  · obtain ⟨_, _, rfl, _⟩ := h; rfl
  · obtain ⟨chain, heap, rfl, hc, rfl⟩ := h
    obtain ⟨q0, hk0⟩ : ∃ q, q = (worth_of chain heap) := ⟨_, rfl⟩
    rw [← hk0]
    have hq0 := hk0
    unfold worth_of at hq0
    have hc1 := hc.1
    show XSs _ _ [.dat (emb (chain : (List Int))), .dat (emb (heap : (List Int))), .junk, .junk] _
    refine xss_ret (d := (.int (((zipT chain heap).map (fun it_1 => ((it_1.p0 * it_1.p1) : Int))).sum))) ?_ (by rw [hq0]; try rfl)
    exact (xe_sum rfl T.b_sum (XN.xe (xn_lc [("value", 2), ("count", 3)] (xlc_map (emb : (T2 Int Int) → PyData) (fun it_1 => ((it_1.p0 * it_1.p1) : Int)) (xi_zipT T.b_zip (xe_var 0) (xe_var 1)) rfl sc_worth_of.nd (by rw [zipT_len]; exact Nat.le_trans (Nat.min_le_left ..) (by omega)) (xg_tup2 2 3 rfl sc_worth_of.nd) (by decide) (fun _ _ => ⟨Nat.le_of_ble_eq_true rfl, Nat.le_of_ble_eq_true rfl, _, _, rfl⟩) (fun it_1 hm_it_1 => (xe_mul (by have := hc.2 _ (zipT_mem hm_it_1).1; exact .inl ⟨by omega, by omega⟩) (xe_var 2) (xe_var 3)))) rfl sc_worth_of.nd)))
/-! ### lesser_of -/
def R_lesser_of : List PyData → Except Exn PyData → Prop := fun ds r => ∃ (chain : (List Int)) (heap : (List Int)) (k : Int), ds = [(emb (chain : (List Int))), (emb (heap : (List Int))), (.int k)] ∧ (Few chain) ∧ r = .ok (.int (lesser_of chain heap k))
theorem sc_lesser_of : FnScope ["chain", "heap", "k"] ["chain", "heap", "k"] (defScope (top 25)) := ⟨rfl, rfl, rfl, by decide +kernel, rfl, by decide +kernel, by decide +kernel⟩
theorem ok_lesser_of {G : Gc} (T : Tx G) (D_worth_of : DefD G "worth_of" 1 ["chain", "heap"] R_worth_of) {f : Addr} {fd : FuncData} (F : Fun G.K "lesser_of" "lesser_of" (top 25) f fd) : FnOk G.P G.w G.K G.mg G.base (L2.CX G.P G.w) 2 f fd ["chain", "heap", "k"] (SpD G R_lesser_of) := by
  have hSz := sizeLine_eq
  refine def_body F sc_lesser_of (fun ds r h => ?_) (by decide) (fun ds r h => ?_)
  · obtain ⟨_, _, _, rfl, _⟩ := h; rfl
  · obtain ⟨chain, heap, k, rfl, hc, rfl⟩ := h
    obtain ⟨q0, hk0⟩ : ∃ q, q = (lesser_of chain heap k) := ⟨_, rfl⟩
    rw [← hk0]
    have hq0 := hk0
    unfold lesser_of at hq0
    show XSs _ _ [.dat (emb (chain : (List Int))), .dat (emb (heap : (List Int))), .dat (.int k)] _
    refine xss_ret (d := (.int (worth_of (cut chain none (some k)) (cut heap none (some k))))) ?_ (by rw [hq0]; try rfl)
    exact (xe_call D_worth_of (Nat.le_of_ble_eq_true rfl) rfl ⟨(cut chain none (some k)), (cut heap none (some k)), rfl, (by exact hc.cut _ _), rfl⟩ (xa_cons (XN.xe (xn_slI (xs := chain) (xe_var 0) xo_none (xo_some (xe_var 2)))) (xa_cons (XN.xe (xn_slI (xs := heap) (xe_var 1) xo_none (xo_some (xe_var 2)))) xa_nil)))
/-! ### greater_of -/
def R_greater_of : List PyData → Except Exn PyData → Prop := fun ds r => ∃ (chain : (List Int)) (heap : (List Int)) (k : Int), ds = [(emb (chain : (List Int))), (emb (heap : (List Int))), (.int k)] ∧ (Few chain) ∧ r = .ok (.int (greater_of chain heap k))
theorem sc_greater_of : FnScope ["chain", "heap", "k"] ["chain", "heap", "k"] (defScope (top 26)) := ⟨rfl, rfl, rfl, by decide +kernel, rfl, by decide +kernel, by decide +kernel⟩
theorem ok_greater_of {G : Gc} (T : Tx G) (D_worth_of : DefD G "worth_of" 1 ["chain", "heap"] R_worth_of) {f : Addr} {fd : FuncData} (F : Fun G.K "greater_of" "greater_of" (top 26) f fd) : FnOk G.P G.w G.K G.mg G.base (L2.CX G.P G.w) 2 f fd ["chain", "heap", "k"] (SpD G R_greater_of) := by
  have hSz := sizeLine_eq
  refine def_body F sc_greater_of (fun ds r h => ?_) (by decide) (fun ds r h => ?_)
  · obtain ⟨_, _, _, rfl, _⟩ := h; rfl
  · obtain ⟨chain, heap, k, rfl, hc, rfl⟩ := h
    obtain ⟨q0, hk0⟩ : ∃ q, q = (greater_of chain heap k) := ⟨_, rfl⟩
    rw [← hk0]
    have hq0 := hk0
    unfold greater_of at hq0
    show XSs _ _ [.dat (emb (chain : (List Int))), .dat (emb (heap : (List Int))), .dat (.int k)] _
    refine xss_ret (d := (.int (worth_of (cut chain (some k) none) (cut heap (some k) none)))) ?_ (by rw [hq0]; try rfl)
    exact (xe_call D_worth_of (Nat.le_of_ble_eq_true rfl) rfl ⟨(cut chain (some k) none), (cut heap (some k) none), rfl, (by exact hc.cut _ _), rfl⟩ (xa_cons (XN.xe (xn_slI (xs := chain) (xe_var 0) (xo_some (xe_var 2)) xo_none)) (xa_cons (XN.xe (xn_slI (xs := heap) (xe_var 1) (xo_some (xe_var 2)) xo_none)) xa_nil)))
/-! ### left_by -/
def R_left_by : List PyData → Except Exn PyData → Prop := fun ds r => ∃ (chain : (List Int)) (amounts : (List Int)) (k : Int), ds = [(emb (chain : (List Int))), (emb (amounts : (List Int))), (.int k)] ∧ (Chain chain) ∧ (0 ≤ k ∧ k ≤ chain.length) ∧ (amounts.length ≤ 1000) ∧ r = .ok (.int (left_by chain amounts k))
theorem sc_left_by : FnScope ["chain", "amounts", "k", "amount"] ["chain", "amounts", "k"] (defScope (top 28)) := ⟨rfl, rfl, rfl, by decide +kernel, rfl, by decide +kernel, by decide +kernel⟩
theorem ok_left_by {G : Gc} (T : Tx G) {f : Addr} {fd : FuncData} (F : Fun G.K "left_by" "left_by" (top 28) f fd) : FnOk G.P G.w G.K G.mg G.base (L2.CX G.P G.w) 1 f fd ["chain", "amounts", "k"] (SpD G R_left_by) := by
  have hSz := sizeLine_eq
  refine def_body F sc_left_by (fun ds r h => ?_) (by decide) (fun ds r h => ?_)
  · obtain ⟨_, _, _, rfl, _⟩ := h; rfl
  · obtain ⟨chain, amounts, k, rfl, hc, hk, ha, rfl⟩ := h
    obtain ⟨q0, hk0⟩ : ∃ q, q = (left_by chain amounts k) := ⟨_, rfl⟩
    rw [← hk0]
    have hq0 := hk0
    unfold left_by at hq0
    show XSs _ _ [.dat (emb (chain : (List Int))), .dat (emb (amounts : (List Int))), .dat (.int k), .junk] _
    refine' xss_if (k := (decide (k = (chain.length : Int)))) ?t_1 (fun hb1 => ?a_1) (fun hb1 => ?b_1)
    case t_1 => exact (xt_eqI (xe_var 2) (XE.to (xe_lenL T.b_len (xe_var 0)) (by rw [List.length_map])))
    case a_1 =>
      have hp1 := hb1
      try simp only [Bool.and_eq_true, Bool.or_eq_true, Bool.not_eq_true', Bool.not_eq_false', Bool.or_eq_false_iff, Bool.and_eq_false_iff, decide_eq_true_eq, decide_eq_false_iff_not, Bool.not_eq_true, Bool.not_eq_false] at hp1
      rw [if_pos hb1] at hq0
      refine xss_ret (d := (.int (amounts.sum))) ?_ (by rw [hq0]; try rfl)
      exact (xe_sum rfl T.b_sum (xe_var 1))
    case b_1 =>
      have hp1 := hb1
      try simp only [Bool.and_eq_true, Bool.or_eq_true, Bool.not_eq_true', Bool.not_eq_false', Bool.or_eq_false_iff, Bool.and_eq_false_iff, decide_eq_true_eq, decide_eq_false_iff_not, Bool.not_eq_true, Bool.not_eq_false] at hp1
      rw [if_neg (by rw [hb1]; exact Bool.false_ne_true)] at hq0
      refine xss_nil ?_
      show XSs _ _ [.dat (emb (chain : (List Int))), .dat (emb (amounts : (List Int))), .dat (.int k), .junk] _
      refine xss_ret (d := (.int ((amounts.map (fun amount_1 => ((amount_1 % (getI chain k)) : Int))).sum))) ?_ (by rw [hq0]; try rfl)
      exact (xe_sum rfl T.b_sum (XN.xe (xn_lc [("amount", 3)] (xlc_map (emb : Int → PyData) (fun amount_1 => ((amount_1 % (getI chain k)) : Int)) (xi_list (xe_var 1)) rfl sc_left_by.nd (by first | assumption | omega | decide | (simp; done)) (xg_name 3 sc_left_by.nd) (by decide) (fun _ _ => Nat.le_of_ble_eq_true rfl) (fun amount_1 hm_amount_1 => (xe_mod (by have := hc.at_ (k := k) ⟨by omega, by omega⟩; omega) (xe_var 3) (xe_ixI (xs := chain) (by exact ⟨by omega, by omega⟩) (xe_var 0) (xe_var 2))))) rfl sc_left_by.nd)))
/-! ### spare_list -/
def R_spare_list : List PyData → Except Exn PyData → Prop := fun ds r => ∃ (chain : (List Int)) (heap : (List Int)) (amounts : (List Int)), ds = [(emb (chain : (List Int))), (emb (heap : (List Int))), (emb (amounts : (List Int)))] ∧ (Chain chain) ∧ (amounts.length ≤ 1000) ∧ r = .ok (emb ((spare_list chain heap amounts) : (List Int)))
theorem sc_spare_list : FnScope ["chain", "heap", "amounts", "k"] ["chain", "heap", "amounts"] (defScope (top 29)) := ⟨rfl, rfl, rfl, by decide +kernel, rfl, by decide +kernel, by decide +kernel⟩
theorem ok_spare_list {G : Gc} (T : Tx G) (D_lesser_of : DefD G "lesser_of" 2 ["chain", "heap", "k"] R_lesser_of) (D_left_by : DefD G "left_by" 1 ["chain", "amounts", "k"] R_left_by) {f : Addr} {fd : FuncData} (F : Fun G.K "spare_list" "spare_list" (top 29) f fd) : FnOk G.P G.w G.K G.mg G.base (L2.CX G.P G.w) 3 f fd ["chain", "heap", "amounts"] (SpD G R_spare_list) := by
  have hSz := sizeLine_eq
  refine def_body F sc_spare_list (fun ds r h => ?_) (by decide) (fun ds r h => ?_)
  · obtain ⟨_, _, _, rfl, _⟩ := h; rfl
  · obtain ⟨chain, heap, amounts, rfl, hc, ha, rfl⟩ := h
    obtain ⟨q0, hk0⟩ : ∃ q, q = (spare_list chain heap amounts) := ⟨_, rfl⟩
    rw [← hk0]
    have hq0 := hk0
    unfold spare_list at hq0
    have h8 := hc.l2
    show XSs _ _ [.dat (emb (chain : (List Int))), .dat (emb (heap : (List Int))), .dat (emb (amounts : (List Int))), .junk] _
    refine xss_ret (d := (emb (((rng 0 (Int.toNat ((chain.length : Int) + (1 : Int)))).map (fun k_1 => (((lesser_of chain heap k_1) - (left_by chain amounts k_1)) : Int))) : (List Int)))) ?_ (by rw [hq0]; try rfl)
    exact (XN.xe (xn_lc [("k", 3)] (xlc_map (emb : Int → PyData) (fun k_1 => (((lesser_of chain heap k_1) - (left_by chain amounts k_1)) : Int)) (xi_range1 (by exact ⟨by omega, by omega⟩) T.b_range (xe_add (XE.to (xe_lenL T.b_len (xe_var 0)) (by rw [List.length_map])) xe_int)) rfl sc_spare_list.nd (by rw [rng_len]; omega) (xg_name 3 sc_spare_list.nd) (by decide) (fun _ _ => Nat.le_of_ble_eq_true rfl) (fun k_1 hm_k_1 => (xe_sub (xe_call D_lesser_of (Nat.le_of_ble_eq_true rfl) rfl ⟨chain, heap, k_1, rfl, (by exact hc.few), rfl⟩ (xa_cons (xe_var 0) (xa_cons (xe_var 1) (xa_cons (xe_var 3) xa_nil)))) (xe_call D_left_by (Nat.le_of_ble_eq_true rfl) rfl ⟨chain, amounts, k_1, rfl, (by first | assumption | omega | decide | (simp; done)), (by have := mem_rng hm_k_1; omega), (by first | assumption | omega | decide | (simp; done)), rfl⟩ (xa_cons (xe_var 0) (xa_cons (xe_var 2) (xa_cons (xe_var 3) xa_nil))))))) rfl sc_spare_list.nd))
/-! ### house_payments -/
def R_house_payments : List PyData → Except Exn PyData → Prop := fun ds r => ∃ (chain : (List Int)) (heap : (List Int)) (amounts : (List Int)), ds = [(emb (chain : (List Int))), (emb (heap : (List Int))), (emb (amounts : (List Int)))] ∧ (Chain chain) ∧ (Pile chain heap) ∧ (amounts.length ≤ 1000) ∧ r = .ok (emb ((house_payments chain heap amounts) : (List (List Int))))
theorem sc_house_payments : FnScope ["chain", "heap", "amounts", "rows", "left", "k", "count", "_", "at", "row"] ["chain", "heap", "amounts"] (defScope (top 30)) := ⟨rfl, rfl, rfl, by decide +kernel, rfl, by decide +kernel, by decide +kernel⟩
theorem ok_house_payments {G : Gc} (T : Tx G) {f : Addr} {fd : FuncData} (F : Fun G.K "house_payments" "house_payments" (top 30) f fd) : FnOk G.P G.w G.K G.mg G.base (L2.CX G.P G.w) 1 f fd ["chain", "heap", "amounts"] (SpD G R_house_payments) := by
  have hSz := sizeLine_eq
  refine def_body F sc_house_payments (fun ds r h => ?_) (by decide) (fun ds r h => ?_)
  · obtain ⟨_, _, _, rfl, _⟩ := h; rfl
  · obtain ⟨chain, heap, amounts, rfl, hc, hh, ha, rfl⟩ := h
    obtain ⟨q0, hk0⟩ : ∃ q, q = (house_payments chain heap amounts) := ⟨_, rfl⟩
    rw [← hk0]
    have hq0 := hk0
    unfold house_payments at hq0
    have h8 := hc.l2
    have hhl := hh.1
    show XSs _ _ [.dat (emb (chain : (List Int))), .dat (emb (heap : (List Int))), .dat (emb (amounts : (List Int))), .junk, .junk, .junk, .junk, .junk, .junk, .junk] _
    extract_lets +onlyGivenNames -merge rows_1 at hq0
    have hx_rows_1 : rows_1 = ((amounts.map (fun x_1 => ((repL ([(0 : Int)]) (chain.length : Int)) : (List Int)))) : (List (List Int))) := rfl
    clear_value rows_1
    have hr1 : Rect rows_1 amounts.length chain.length := by rw [hx_rows_1]; exact rect_new _ _ _
    refine' xss_setLmE hx_rows_1 3 [("_", 7)] ?t_1 rfl sc_house_payments.nd ?k_1
    case t_1 => exact (xlmE (emb : Int → PyData) (fun x_1 => ((repL ([(0 : Int)]) (chain.length : Int)) : (List Int))) (xi_list (xe_var 2)) rfl sc_house_payments.nd (by first | assumption | omega | decide | (simp; done)) (xg_name 7 sc_house_payments.nd) (by decide) (fun _ _ => Nat.le_of_ble_eq_true rfl) (fun x_1 hm_x_1 => (xn_repI (xs := [(0 : Int)]) (by exact ⟨by omega, by omega, by simp; omega⟩) (XN.xe (xn_lst (xa_cons xe_int xa_nil))) (XE.to (xe_lenL T.b_len (xe_var 0)) (by rw [List.length_map])))))
    case k_1 =>
      show XSs _ _ [.dat (emb (chain : (List Int))), .dat (emb (heap : (List Int))), .dat (emb (amounts : (List Int))), .own (.mat (embM rows_1)), .junk, .junk, .junk, .junk, .junk, .junk] _
      extract_lets +onlyGivenNames -merge left_1 at hq0
      have hx_left_1 : left_1 = (amounts : (List Int)) := rfl
      clear_value left_1
      refine' xss_setNE hx_left_1 4 sc_house_payments.nd ?t_2 ?k_2
      case t_2 => exact (xn_list T.b_list (xe_var 2))
      case k_2 =>
        show XSs _ _ [.dat (emb (chain : (List Int))), .dat (emb (heap : (List Int))), .dat (emb (amounts : (List Int))), .own (.mat (embM rows_1)), .own (.lst (left_1.map (emb : Int → PyData))), .junk, .junk, .junk, .junk, .junk] _
        extract_lets +onlyGivenNames -merge fin_2 at hq0
        have hF1 : fin_2 = (rngC ((chain.length : Int) - (1 : Int)) (-1) (Int.toNat (((chain.length : Int) - (1 : Int)) - (-(1 : Int))))).foldl (bd_house_payments_1 chain heap) (T2.mk rows_1 left_1) := rfl
        clear_value fin_2
        refine' xss_forS (emb : Int → PyData) (fun (s1 : (T2 (List (List Int)) (List Int))) => ([.dat (emb (chain : (List Int))), .dat (emb (heap : (List Int))), .dat (emb (amounts : (List Int))), .own (.mat (embM s1.p0)), .own (.lst (s1.p1.map (emb : Int → PyData))), .junk, .junk, .junk, .junk, .junk] : Evm)) (bd_house_payments_1 chain heap) (T2.mk rows_1 left_1) hF1 ?i_3 rfl (xgc_name 5 sc_house_payments.nd) (Le.cs (Le.cs (Le.cs (Le.cs (Le.cs (Le.cj (Le.cj (Le.cj (Le.cj (Le.cj Le.nil)))))))))) (fun i1 x1 s1 hx1 hist1 => ?tn_3) ?k_3
        case i_3 => exact (xi_range3 (RgC.neg (by first | assumption | omega | decide | (simp; done)) (by first | assumption | omega | decide | (simp; done)) (by first | assumption | omega | decide | (simp; done)) (by first | assumption | omega | decide | (simp; done))) T.b_range (xe_sub (XE.to (xe_lenL T.b_len (xe_var 0)) (by rw [List.length_map])) xe_int) (xe_neg xe_int) (xe_neg xe_int))
        case tn_3 =>
          refine ⟨by exact Nat.le_of_ble_eq_true rfl, ?_⟩
          obtain ⟨q1, hk1⟩ : ∃ q, q = (bd_house_payments_1 chain heap) s1 x1 := ⟨_, rfl⟩
          have hq1 := hk1
          unfold bd_house_payments_1 at hq1
          have hx1m := mem_down (List.mem_of_getElem? hx1)
          have hI := house_payments_inv hist1 hr1 (by rw [hx_left_1])
          have hck := hc.at_ hx1m
          show XSs _ _ [.dat (emb (chain : (List Int))), .dat (emb (heap : (List Int))), .dat (emb (amounts : (List Int))), .own (.mat (embM s1.p0)), .own (.lst (s1.p1.map (emb : Int → PyData))), .dat (.int x1), .junk, .junk, .junk, .junk] _
          extract_lets +onlyGivenNames -merge count_1 at hq1
          have hx_count_1 : count_1 = ((getI heap x1) : Int) := rfl
          clear_value count_1
          refine' xss_setE hx_count_1 6 sc_house_payments.nd ?t_4 ?k_4
          case t_4 => exact (xe_ixI (xs := heap) (by exact ⟨by omega, by omega⟩) (xe_var 1) (xe_var 5))
          case k_4 =>
            show XSs _ _ [.dat (emb (chain : (List Int))), .dat (emb (heap : (List Int))), .dat (emb (amounts : (List Int))), .own (.mat (embM s1.p0)), .own (.lst (s1.p1.map (emb : Int → PyData))), .dat (.int x1), .dat (.int count_1), .junk, .junk, .junk] _
            refine xss_openM 3 (fun r2 ps2 hps2 => ?_)
            have hpl2 : s1.p0.length = ps2.length := by rw [hps2]; exact (List.length_map ..).symm
            show XSs _ _ [.dat (emb (chain : (List Int))), .dat (emb (heap : (List Int))), .dat (emb (amounts : (List Int))), .own (.matA r2 ps2 (embM s1.p0)), .own (.lst (s1.p1.map (emb : Int → PyData))), .dat (.int x1), .dat (.int count_1), .junk, .junk, .junk] _
            refine' xss_forE 3 8 9 hpl2 (fun (s2 : (T3 (List (List Int)) Int (List Int))) => ([.dat (emb (chain : (List Int))), .dat (emb (heap : (List Int))), .dat (emb (amounts : (List Int))), .own (.matA r2 ps2 (embM s2.p0)), .own (.lst (s2.p2.map (emb : Int → PyData))), .dat (.int x1), .dat (.int s2.p1), .junk, .junk, .junk] : Evm)) (fun (s2 : (T3 (List (List Int)) Int (List Int))) => embM s2.p0) (bd_house_payments_2 chain x1) (T3.mk s1.p0 count_1 s1.p1) rfl sc_house_payments.nd (Le.cs (Le.cs (Le.cs (Le.cs (Le.cs (Le.cs (Le.cs (Le.cj (Le.cj (Le.cj Le.nil)))))))))) (fun _ => rfl) ⟨by decide, by decide, by decide⟩ (fun _ => ⟨Nat.le_of_ble_eq_true rfl, Nat.le_of_ble_eq_true rfl⟩) (fun i2 p2 s2 hlt2 hpt2 hist2 => ?tn_5) (fun fin_1 hF2 => ?k_5) T.b_enumerate
            case tn_5 =>
              obtain ⟨q2, hk2⟩ : ∃ q, q = (bd_house_payments_2 chain x1) s2 (i2 : Int) := ⟨_, rfl⟩
              have hq2 := hk2
              unfold bd_house_payments_2 at hq2
              have hI2 := house_payments_inv2 hist2 hI
              have h21 := hI2.1.1
              have h22 := hI2.2
              have hil := hI.1.1
              have hi2 : (i2 : Int) < s2.p0.length := by omega
              have hrw := hI2.1.row (a := (i2 : Int)) ⟨by omega, hi2⟩
              show XSs _ _ [.dat (emb (chain : (List Int))), .dat (emb (heap : (List Int))), .dat (emb (amounts : (List Int))), .own (.matA r2 ps2 (embM s2.p0)), .own (.lst (s2.p2.map (emb : Int → PyData))), .dat (.int x1), .dat (.int s2.p1), .junk, .dat (.int (i2 : Int)), .ptr p2] _
              extract_lets +onlyGivenNames -merge rows_2 at hq2
              have hx_rows_2 : rows_2 = ((setM s2.p0 (i2 : Int) x1 (min s2.p1 ((getI s2.p2 (i2 : Int)) / (getI chain x1)))) : (List (List Int))) := rfl
              clear_value rows_2
              have hI3 := hI2.1.set (i2 : Int) x1 (min s2.p1 ((getI s2.p2 (i2 : Int)) / (getI chain x1)))
              rw [← hx_rows_2] at hI3
              have h31 := hI3.1
              have hrw3 := hI3.row (a := (i2 : Int)) ⟨by omega, by omega⟩
              refine' xss_setPE 3 9 hx_rows_2 hpt2 (by omega) (by exact ⟨by omega, by omega⟩) ?t_6 ?a_6 ?k_6
              case t_6 => exact (xe_tmp 4 (xe_min2 rfl T.b_min (xe_var 6) (xe_div (by exact ⟨by omega, by omega⟩) (xe_ixI (xs := s2.p2) (by exact ⟨by omega, by omega⟩) (xe_var 4) (xe_var 8)) (xe_ixI (xs := chain) (by exact ⟨by omega, by omega⟩) (xe_var 0) (xe_var 5)))))
              case a_6 => exact (xe_var 5)
              case k_6 =>
                show XSs _ _ [.dat (emb (chain : (List Int))), .dat (emb (heap : (List Int))), .dat (emb (amounts : (List Int))), .own (.matA r2 ps2 (embM rows_2)), .own (.lst (s2.p2.map (emb : Int → PyData))), .dat (.int x1), .dat (.int s2.p1), .junk, .dat (.int (i2 : Int)), .ptr p2] _
                extract_lets +onlyGivenNames -merge count_2 at hq2
                have hx_count_2 : count_2 = ((s2.p1 - (getI (mRow rows_2 (i2 : Int)) x1)) : Int) := rfl
                clear_value count_2
                refine' xss_subE hx_count_2 6 sc_house_payments.nd ?t_7 ?k_7
                case t_7 => exact (xe_tmpPE (rows := rows_2) 3 9 hpt2 (by omega) (xe_ixI (xs := (mRow rows_2 (i2 : Int))) (by exact ⟨by omega, by omega⟩) (xe_var 9) (xe_var 5)))
                case k_7 =>
                  show XSs _ _ [.dat (emb (chain : (List Int))), .dat (emb (heap : (List Int))), .dat (emb (amounts : (List Int))), .own (.matA r2 ps2 (embM rows_2)), .own (.lst (s2.p2.map (emb : Int → PyData))), .dat (.int x1), .dat (.int count_2), .junk, .dat (.int (i2 : Int)), .ptr p2] _
                  extract_lets +onlyGivenNames -merge left_2 at hq2
                  have hx_left_2 : left_2 = ((setI s2.p2 (i2 : Int) (getI s2.p2 (i2 : Int) - ((getI (mRow rows_2 (i2 : Int)) x1) * (getI chain x1)))) : (List Int)) := rfl
                  clear_value left_2
                  refine' xss_subiE hx_left_2 4 (by exact ⟨by omega, by omega⟩) ?t_8 ?a_8 ?k_8
                  case t_8 => exact (xe_var 8)
                  case a_8 => exact (xe_tmpPE (rows := rows_2) 3 9 hpt2 (by omega) (xe_mul (by exact .inr ⟨by omega, by omega⟩) (xe_ixI (xs := (mRow rows_2 (i2 : Int))) (by exact ⟨by omega, by omega⟩) (xe_var 9) (xe_var 5)) (xe_ixI (xs := chain) (by exact ⟨by omega, by omega⟩) (xe_var 0) (xe_var 5))))
                  case k_8 =>
                    show XSs _ _ [.dat (emb (chain : (List Int))), .dat (emb (heap : (List Int))), .dat (emb (amounts : (List Int))), .own (.matA r2 ps2 (embM rows_2)), .own (.lst (left_2.map (emb : Int → PyData))), .dat (.int x1), .dat (.int count_2), .junk, .dat (.int (i2 : Int)), .ptr p2] _
                    exact xss_nil ⟨_, hk2.symm.trans hq2, (Le.cs (Le.cs (Le.cs (Le.cs (Le.cs (Le.cs (Le.cs (Le.cj (Le.cj (Le.cj Le.nil))))))))))⟩
            case k_5 =>
              have hq_ := hq1.trans (go_end hF2)
              clear hq1
              have hq1 := hq_
              clear hq_
              refine xss_closeM 3 ?_
              show XSs _ _ [.dat (emb (chain : (List Int))), .dat (emb (heap : (List Int))), .dat (emb (amounts : (List Int))), .own (.mat (embM fin_1.p0)), .own (.lst (fin_1.p2.map (emb : Int → PyData))), .dat (.int x1), .dat (.int fin_1.p1), .junk, .junk, .junk] _
              exact xss_nil (by rw [← hk1, hq1]; exact (Le.cs (Le.cs (Le.cs (Le.cs (Le.cs (Le.cj (Le.cj (Le.cj (Le.cj (Le.cj Le.nil)))))))))))
        case k_3 =>
          show XSs _ _ [.dat (emb (chain : (List Int))), .dat (emb (heap : (List Int))), .dat (emb (amounts : (List Int))), .own (.mat (embM fin_2.p0)), .own (.lst (fin_2.p1.map (emb : Int → PyData))), .junk, .junk, .junk, .junk, .junk] _
          refine xss_frzME 3 ?_
          refine xss_ret (d := (emb (fin_2.p0 : (List (List Int))))) ?_ (by rw [hq0]; try rfl)
          exact (xe_var 3)
/-! ### first_lack -/
def R_first_lack : List PyData → Except Exn PyData → Prop := fun ds r => ∃ (chain : (List Int)) (heap : (List Int)) (amounts : (List Int)), ds = [(emb (chain : (List Int))), (emb (heap : (List Int))), (emb (amounts : (List Int)))] ∧ (Chain chain) ∧ (amounts.length ≤ 1000) ∧ r = .ok (emb ((first_lack chain heap amounts) : (Option (T3 Int Int Int))))
theorem sc_first_lack : FnScope ["chain", "heap", "amounts", "k", "spare"] ["chain", "heap", "amounts"] (defScope (top 31)) := ⟨rfl, rfl, rfl, by decide +kernel, rfl, by decide +kernel, by decide +kernel⟩
theorem ok_first_lack {G : Gc} (T : Tx G) (D_spare_list : DefD G "spare_list" 3 ["chain", "heap", "amounts"] R_spare_list) (D_left_by : DefD G "left_by" 1 ["chain", "amounts", "k"] R_left_by) (D_lesser_of : DefD G "lesser_of" 2 ["chain", "heap", "k"] R_lesser_of) {f : Addr} {fd : FuncData} (F : Fun G.K "first_lack" "first_lack" (top 31) f fd) : FnOk G.P G.w G.K G.mg G.base (L2.CX G.P G.w) 4 f fd ["chain", "heap", "amounts"] (SpD G R_first_lack) := by
  have hSz := sizeLine_eq
  refine def_body F sc_first_lack (fun ds r h => ?_) (by decide) (fun ds r h => ?_)
  · obtain ⟨_, _, _, rfl, _⟩ := h; rfl
  · obtain ⟨chain, heap, amounts, rfl, hc, ha, rfl⟩ := h
    obtain ⟨q0, hk0⟩ : ∃ q, q = (first_lack chain heap amounts) := ⟨_, rfl⟩
    rw [← hk0]
    have hq0 := hk0
    unfold first_lack at hq0
    show XSs _ _ [.dat (emb (chain : (List Int))), .dat (emb (heap : (List Int))), .dat (emb (amounts : (List Int))), .junk, .junk] _
    refine' xss_for (emb : (T2 Int Int) → PyData) (xs := (enumT (spare_list chain heap amounts))) (fun (s1 : Unit) => ([.dat (emb (chain : (List Int))), .dat (emb (heap : (List Int))), .dat (emb (amounts : (List Int))), .junk, .junk] : Evm)) (bd_first_lack_1 chain heap amounts) () ?i_1 rfl (xgc_tup2 3 4 rfl sc_first_lack.nd) (Le.cs (Le.cs (Le.cs (Le.cj (Le.cj Le.nil))))) (fun i1 x1 s1 hx1 hist1 => ?tn_1) (fun fin_1 hF1 => ?k_1)
    case i_1 => exact (xi_enumT T.b_enumerate (xe_call D_spare_list (Nat.le_of_ble_eq_true rfl) rfl ⟨chain, heap, amounts, rfl, (by first | assumption | omega | decide | (simp; done)), (by first | assumption | omega | decide | (simp; done)), rfl⟩ (xa_cons (xe_var 0) (xa_cons (xe_var 1) (xa_cons (xe_var 2) xa_nil)))))
    case tn_1 =>
      refine ⟨by exact ⟨Nat.le_of_ble_eq_true rfl, Nat.le_of_ble_eq_true rfl, _, _, rfl⟩, ?_⟩
      obtain ⟨q1, hk1⟩ : ∃ q, q = (bd_first_lack_1 chain heap amounts) s1 x1 := ⟨_, rfl⟩
      have hq1 := hk1
      unfold bd_first_lack_1 at hq1
      obtain ⟨e1, e2, e3⟩ := enumT_get hx1
      rw [spare_len] at e1
      show XSs _ _ [.dat (emb (chain : (List Int))), .dat (emb (heap : (List Int))), .dat (emb (amounts : (List Int))), .dat (.int x1.p0), .dat (.int x1.p1)] _
      refine' xss_if (k := (decide (x1.p1 < (0 : Int)))) ?t_2 (fun hb1 => ?a_2) (fun hb1 => ?b_2)
      case t_2 => exact (xt_lt (xe_var 4) xe_int)
      case a_2 =>
        have hp1 := hb1
        try simp only [Bool.and_eq_true, Bool.or_eq_true, Bool.not_eq_true', Bool.not_eq_false', Bool.or_eq_false_iff, Bool.and_eq_false_iff, decide_eq_true_eq, decide_eq_false_iff_not, Bool.not_eq_true, Bool.not_eq_false] at hp1
        rw [if_pos hb1] at hq1
        rw [go_rt (forF_rt hx1 hist1 (hk1.symm.trans hq1))] at hq0
        refine xss_ret (d := (emb ((some (T3.mk x1.p0 (left_by chain amounts x1.p0) (lesser_of chain heap x1.p0))) : (Option (T3 Int Int Int))))) ?_ (by rw [hq0]; try rfl)
        exact (xe_tup (xa_cons (xe_var 3) (xa_cons (xe_call D_left_by (Nat.le_of_ble_eq_true rfl) rfl ⟨chain, amounts, x1.p0, rfl, (by first | assumption | omega | decide | (simp; done)), (by omega), (by first | assumption | omega | decide | (simp; done)), rfl⟩ (xa_cons (xe_var 0) (xa_cons (xe_var 2) (xa_cons (xe_var 3) xa_nil)))) (xa_cons (xe_call D_lesser_of (Nat.le_of_ble_eq_true rfl) rfl ⟨chain, heap, x1.p0, rfl, (by exact hc.few), rfl⟩ (xa_cons (xe_var 0) (xa_cons (xe_var 1) (xa_cons (xe_var 3) xa_nil)))) xa_nil))))
      case b_2 =>
        have hp1 := hb1
        try simp only [Bool.and_eq_true, Bool.or_eq_true, Bool.not_eq_true', Bool.not_eq_false', Bool.or_eq_false_iff, Bool.and_eq_false_iff, decide_eq_true_eq, decide_eq_false_iff_not, Bool.not_eq_true, Bool.not_eq_false] at hp1
        rw [if_neg (by rw [hb1]; exact Bool.false_ne_true)] at hq1
        refine xss_nil ?_
        show XSs _ _ [.dat (emb (chain : (List Int))), .dat (emb (heap : (List Int))), .dat (emb (amounts : (List Int))), .dat (.int x1.p0), .dat (.int x1.p1)] _
        exact xss_nil ⟨_, hk1.symm.trans hq1, (Le.cs (Le.cs (Le.cs (Le.cj (Le.cj Le.nil)))))⟩
    case k_1 =>
      have hq_ := hq0.trans (go_end hF1)
      clear hq0
      have hq0 := hq_
      clear hq_
      show XSs _ _ [.dat (emb (chain : (List Int))), .dat (emb (heap : (List Int))), .dat (emb (amounts : (List Int))), .junk, .junk] _
      refine xss_ret (d := (emb ((none : (Option (T3 Int Int Int))) : (Option (T3 Int Int Int))))) ?_ (by rw [hq0]; try rfl)
      exact xe_non
/-! ### told_answer -/
def R_told_answer : List PyData → Except Exn PyData → Prop := fun ds r => ∃ (chain : (List Int)) (heap : (List Int)) (amounts : (List Int)), ds = [(emb (chain : (List Int))), (emb (heap : (List Int))), (emb (amounts : (List Int)))] ∧ (Chain chain) ∧ (Pile chain heap) ∧ (amounts.length ≤ 1000) ∧ r = .ok (emb ((told_answer chain heap amounts) : (Sum (T4 Str Int Int Int) (T2 Str (List (List Int))))))
theorem sc_told_answer : FnScope ["chain", "heap", "amounts", "lack"] ["chain", "heap", "amounts"] (defScope (top 32)) := ⟨rfl, rfl, rfl, by decide +kernel, rfl, by decide +kernel, by decide +kernel⟩
theorem ok_told_answer {G : Gc} (T : Tx G) (D_first_lack : DefD G "first_lack" 4 ["chain", "heap", "amounts"] R_first_lack) (D_house_payments : DefD G "house_payments" 1 ["chain", "heap", "amounts"] R_house_payments) {f : Addr} {fd : FuncData} (F : Fun G.K "told_answer" "told_answer" (top 32) f fd) : FnOk G.P G.w G.K G.mg G.base (L2.CX G.P G.w) 5 f fd ["chain", "heap", "amounts"] (SpD G R_told_answer) := by
  have hSz := sizeLine_eq
  refine def_body F sc_told_answer (fun ds r h => ?_) (by decide) (fun ds r h => ?_)
  · obtain ⟨_, _, _, rfl, _⟩ := h; rfl
  · obtain ⟨chain, heap, amounts, rfl, hc, hh, ha, rfl⟩ := h
    obtain ⟨q0, hk0⟩ : ∃ q, q = (told_answer chain heap amounts) := ⟨_, rfl⟩
    rw [← hk0]
    have hq0 := hk0
    unfold told_answer at hq0
    show XSs _ _ [.dat (emb (chain : (List Int))), .dat (emb (heap : (List Int))), .dat (emb (amounts : (List Int))), .junk] _
    extract_lets +onlyGivenNames -merge lack_1 at hq0
    have hx_lack_1 : lack_1 = ((first_lack chain heap amounts) : (Option (T3 Int Int Int))) := rfl
    clear_value lack_1
    refine' xss_setE hx_lack_1 3 sc_told_answer.nd ?t_1 ?k_1
    case t_1 => exact (xe_call D_first_lack (Nat.le_of_ble_eq_true rfl) rfl ⟨chain, heap, amounts, rfl, (by first | assumption | omega | decide | (simp; done)), (by first | assumption | omega | decide | (simp; done)), rfl⟩ (xa_cons (xe_var 0) (xa_cons (xe_var 1) (xa_cons (xe_var 2) xa_nil))))
    case k_1 =>
      show XSs _ _ [.dat (emb (chain : (List Int))), .dat (emb (heap : (List Int))), .dat (emb (amounts : (List Int))), .dat (emb (lack_1 : (Option (T3 Int Int Int))))] _
      refine' xss_if (k := (lack_1.isSome)) ?t_2 (fun hb1 => ?a_2) (fun hb1 => ?b_2)
      case t_2 => exact (xt_notNO (xe_var 3))
      case a_2 =>
        have hp1 := hb1
        try simp only [Bool.and_eq_true, Bool.or_eq_true, Bool.not_eq_true', Bool.not_eq_false', Bool.or_eq_false_iff, Bool.and_eq_false_iff, decide_eq_true_eq, decide_eq_false_iff_not, Bool.not_eq_true, Bool.not_eq_false] at hp1
        rw [if_pos hb1] at hq0
        refine xss_ret (d := (emb ((.inl (T4.mk (T1.mk ("value" : Str)).p0 (og lack_1).p0 (og lack_1).p1 (og lack_1).p2) : (Sum (T4 Str Int Int Int) (T2 Str (List (List Int))))) : (Sum (T4 Str Int Int Int) (T2 Str (List (List Int))))))) ?_ (by rw [hq0]; try rfl)
        exact (xe_catT (by intro h; cases h) (by intro h; cases h) (Nat.le_of_ble_eq_true rfl) (xe_tup (xa_cons xe_str xa_nil)) (XE.to (xe_var 3) (og_emb (o := lack_1) (by revert hb1; generalize lack_1 = o_; cases o_ <;> simp))))
      case b_2 =>
        have hp1 := hb1
        try simp only [Bool.and_eq_true, Bool.or_eq_true, Bool.not_eq_true', Bool.not_eq_false', Bool.or_eq_false_iff, Bool.and_eq_false_iff, decide_eq_true_eq, decide_eq_false_iff_not, Bool.not_eq_true, Bool.not_eq_false] at hp1
        rw [if_neg (by rw [hb1]; exact Bool.false_ne_true)] at hq0
        refine xss_nil ?_
        show XSs _ _ [.dat (emb (chain : (List Int))), .dat (emb (heap : (List Int))), .dat (emb (amounts : (List Int))), .dat (emb (lack_1 : (Option (T3 Int Int Int))))] _
        refine xss_ret (d := (emb ((.inr (T2.mk ("payments" : Str) (house_payments chain heap amounts)) : (Sum (T4 Str Int Int Int) (T2 Str (List (List Int))))) : (Sum (T4 Str Int Int Int) (T2 Str (List (List Int))))))) ?_ (by rw [hq0]; try rfl)
        exact (xe_tup (xa_cons xe_str (xa_cons (xe_call D_house_payments (Nat.le_of_ble_eq_true rfl) rfl ⟨chain, heap, amounts, rfl, (by first | assumption | omega | decide | (simp; done)), (by first | assumption | omega | decide | (simp; done)), (by first | assumption | omega | decide | (simp; done)), rfl⟩ (xa_cons (xe_var 0) (xa_cons (xe_var 1) (xa_cons (xe_var 2) xa_nil)))) xa_nil)))
/-! ### room_of -/
def R_room_of : List PyData → Except Exn PyData → Prop := fun ds r => ∃ (chain : (List Int)) (boxes : (List Int)) (k : Int), ds = [(emb (chain : (List Int))), (emb (boxes : (List Int))), (.int k)] ∧ (Chain chain) ∧ (0 ≤ k ∧ k < chain.length) ∧ (boxes.length ≤ 1000) ∧ r = .ok (.int (room_of chain boxes k))
theorem sc_room_of : FnScope ["chain", "boxes", "k", "hold"] ["chain", "boxes", "k"] (defScope (top 34)) := ⟨rfl, rfl, rfl, by decide +kernel, rfl, by decide +kernel, by decide +kernel⟩
theorem ok_room_of {G : Gc} (T : Tx G) {f : Addr} {fd : FuncData} (F : Fun G.K "room_of" "room_of" (top 34) f fd) : FnOk G.P G.w G.K G.mg G.base (L2.CX G.P G.w) 1 f fd ["chain", "boxes", "k"] (SpD G R_room_of) := by
  have hSz := sizeLine_eq
  refine def_body F sc_room_of (fun ds r h => ?_) (by decide) (fun ds r h => ?_)
  · obtain ⟨_, _, _, rfl, _⟩ := h; rfl
  · obtain ⟨chain, boxes, k, rfl, hc, hk, ha, rfl⟩ := h
    obtain ⟨q0, hk0⟩ : ∃ q, q = (room_of chain boxes k) := ⟨_, rfl⟩
    rw [← hk0]
    have hq0 := hk0
    unfold room_of at hq0
    have hck := hc.at_ hk
    show XSs _ _ [.dat (emb (chain : (List Int))), .dat (emb (boxes : (List Int))), .dat (.int k), .junk] _
    refine xss_ret (d := (.int ((boxes.map (fun hold_1 => (((hold_1 / (getI chain k)) * (getI chain k)) : Int))).sum))) ?_ (by rw [hq0]; try rfl)
    exact (xe_sum rfl T.b_sum (XN.xe (xn_lc [("hold", 3)] (xlc_map (emb : Int → PyData) (fun hold_1 => (((hold_1 / (getI chain k)) * (getI chain k)) : Int)) (xi_list (xe_var 1)) rfl sc_room_of.nd (by first | assumption | omega | decide | (simp; done)) (xg_name 3 sc_room_of.nd) (by decide) (fun _ _ => Nat.le_of_ble_eq_true rfl) (fun hold_1 hm_hold_1 => (xe_mul (by exact .inr ⟨by omega, by omega⟩) (xe_div (by exact ⟨by omega, by omega⟩) (xe_var 3) (xe_ixI (xs := chain) (by exact ⟨by omega, by omega⟩) (xe_var 0) (xe_var 2))) (xe_ixI (xs := chain) (by exact ⟨by omega, by omega⟩) (xe_var 0) (xe_var 2))))) rfl sc_room_of.nd)))
/-! ### last_full -/
def R_last_full : List PyData → Except Exn PyData → Prop := fun ds r => ∃ (chain : (List Int)) (heap : (List Int)) (boxes : (List Int)), ds = [(emb (chain : (List Int))), (emb (heap : (List Int))), (emb (boxes : (List Int)))] ∧ (Chain chain) ∧ (boxes.length ≤ 1000) ∧ r = .ok (emb ((last_full chain heap boxes) : (Option (T3 Int Int Int))))
theorem sc_last_full : FnScope ["chain", "heap", "boxes", "k", "greater", "room"] ["chain", "heap", "boxes"] (defScope (top 35)) := ⟨rfl, rfl, rfl, by decide +kernel, rfl, by decide +kernel, by decide +kernel⟩
theorem ok_last_full {G : Gc} (T : Tx G) (D_greater_of : DefD G "greater_of" 2 ["chain", "heap", "k"] R_greater_of) (D_room_of : DefD G "room_of" 1 ["chain", "boxes", "k"] R_room_of) {f : Addr} {fd : FuncData} (F : Fun G.K "last_full" "last_full" (top 35) f fd) : FnOk G.P G.w G.K G.mg G.base (L2.CX G.P G.w) 3 f fd ["chain", "heap", "boxes"] (SpD G R_last_full) := by
  have hSz := sizeLine_eq
  refine def_body F sc_last_full (fun ds r h => ?_) (by decide) (fun ds r h => ?_)
  · obtain ⟨_, _, _, rfl, _⟩ := h; rfl
  · obtain ⟨chain, heap, boxes, rfl, hc, ha, rfl⟩ := h
    obtain ⟨q0, hk0⟩ : ∃ q, q = (last_full chain heap boxes) := ⟨_, rfl⟩
    rw [← hk0]
    have hq0 := hk0
    unfold last_full at hq0
    have h8 := hc.l2
    show XSs _ _ [.dat (emb (chain : (List Int))), .dat (emb (heap : (List Int))), .dat (emb (boxes : (List Int))), .junk, .junk, .junk] _
    refine' xss_for (emb : Int → PyData) (xs := (rngC ((chain.length : Int) - (1 : Int)) (-1) (Int.toNat (((chain.length : Int) - (1 : Int)) - (-(1 : Int)))))) (fun (s1 : Unit) => ([.dat (emb (chain : (List Int))), .dat (emb (heap : (List Int))), .dat (emb (boxes : (List Int))), .junk, .junk, .junk] : Evm)) (bd_last_full_1 chain heap boxes) () ?i_1 rfl (xgc_name 3 sc_last_full.nd) (Le.cs (Le.cs (Le.cs (Le.cj (Le.cj (Le.cj Le.nil)))))) (fun i1 x1 s1 hx1 hist1 => ?tn_1) (fun fin_1 hF1 => ?k_1)
    case i_1 => exact (xi_range3 (RgC.neg (by first | assumption | omega | decide | (simp; done)) (by first | assumption | omega | decide | (simp; done)) (by first | assumption | omega | decide | (simp; done)) (by first | assumption | omega | decide | (simp; done))) T.b_range (xe_sub (XE.to (xe_lenL T.b_len (xe_var 0)) (by rw [List.length_map])) xe_int) (xe_neg xe_int) (xe_neg xe_int))
    case tn_1 =>
      refine ⟨by exact Nat.le_of_ble_eq_true rfl, ?_⟩
      obtain ⟨q1, hk1⟩ : ∃ q, q = (bd_last_full_1 chain heap boxes) s1 x1 := ⟨_, rfl⟩
      have hq1 := hk1
      unfold bd_last_full_1 at hq1
      have hx1m := mem_down (List.mem_of_getElem? hx1)
      show XSs _ _ [.dat (emb (chain : (List Int))), .dat (emb (heap : (List Int))), .dat (emb (boxes : (List Int))), .dat (.int x1), .junk, .junk] _
      extract_lets +onlyGivenNames -merge greater_1 at hq1
      have hx_greater_1 : greater_1 = ((greater_of chain heap x1) : Int) := rfl
      clear_value greater_1
      refine' xss_setE hx_greater_1 4 sc_last_full.nd ?t_2 ?k_2
      case t_2 => exact (xe_call D_greater_of (Nat.le_of_ble_eq_true rfl) rfl ⟨chain, heap, x1, rfl, (by exact hc.few), rfl⟩ (xa_cons (xe_var 0) (xa_cons (xe_var 1) (xa_cons (xe_var 3) xa_nil))))
      case k_2 =>
        show XSs _ _ [.dat (emb (chain : (List Int))), .dat (emb (heap : (List Int))), .dat (emb (boxes : (List Int))), .dat (.int x1), .dat (.int greater_1), .junk] _
        extract_lets +onlyGivenNames -merge room_1 at hq1
        have hx_room_1 : room_1 = ((room_of chain boxes x1) : Int) := rfl
        clear_value room_1
        refine' xss_setE hx_room_1 5 sc_last_full.nd ?t_3 ?k_3
        case t_3 => exact (xe_call D_room_of (Nat.le_of_ble_eq_true rfl) rfl ⟨chain, boxes, x1, rfl, (by first | assumption | omega | decide | (simp; done)), (by first | assumption | omega | decide | (simp; done)), (by first | assumption | omega | decide | (simp; done)), rfl⟩ (xa_cons (xe_var 0) (xa_cons (xe_var 2) (xa_cons (xe_var 3) xa_nil))))
        case k_3 =>
          show XSs _ _ [.dat (emb (chain : (List Int))), .dat (emb (heap : (List Int))), .dat (emb (boxes : (List Int))), .dat (.int x1), .dat (.int greater_1), .dat (.int room_1)] _
          refine' xss_if (k := (decide (room_1 < greater_1))) ?t_4 (fun hb1 => ?a_4) (fun hb1 => ?b_4)
          case t_4 => exact (xt_gt (xe_var 4) (xe_var 5))
          case a_4 =>
            have hp1 := hb1
            try simp only [Bool.and_eq_true, Bool.or_eq_true, Bool.not_eq_true', Bool.not_eq_false', Bool.or_eq_false_iff, Bool.and_eq_false_iff, decide_eq_true_eq, decide_eq_false_iff_not, Bool.not_eq_true, Bool.not_eq_false] at hp1
            rw [if_pos hb1] at hq1
            rw [go_rt (forF_rt hx1 hist1 (hk1.symm.trans hq1))] at hq0
            refine xss_ret (d := (emb ((some (T3.mk x1 greater_1 room_1)) : (Option (T3 Int Int Int))))) ?_ (by rw [hq0]; try rfl)
            exact (xe_tup (xa_cons (xe_var 3) (xa_cons (xe_var 4) (xa_cons (xe_var 5) xa_nil))))
          case b_4 =>
            have hp1 := hb1
            try simp only [Bool.and_eq_true, Bool.or_eq_true, Bool.not_eq_true', Bool.not_eq_false', Bool.or_eq_false_iff, Bool.and_eq_false_iff, decide_eq_true_eq, decide_eq_false_iff_not, Bool.not_eq_true, Bool.not_eq_false] at hp1
            rw [if_neg (by rw [hb1]; exact Bool.false_ne_true)] at hq1
            refine xss_nil ?_
            show XSs _ _ [.dat (emb (chain : (List Int))), .dat (emb (heap : (List Int))), .dat (emb (boxes : (List Int))), .dat (.int x1), .dat (.int greater_1), .dat (.int room_1)] _
            exact xss_nil ⟨_, hk1.symm.trans hq1, (Le.cs (Le.cs (Le.cs (Le.cj (Le.cj (Le.cj Le.nil))))))⟩
    case k_1 =>
      have hq_ := hq0.trans (go_end hF1)
      clear hq0
      have hq0 := hq_
      clear hq_
      show XSs _ _ [.dat (emb (chain : (List Int))), .dat (emb (heap : (List Int))), .dat (emb (boxes : (List Int))), .junk, .junk, .junk] _
      refine xss_ret (d := (emb ((none : (Option (T3 Int Int Int))) : (Option (T3 Int Int Int))))) ?_ (by rw [hq0]; try rfl)
      exact xe_non
/-! ### house_load -/
def R_house_load : List PyData → Except Exn PyData → Prop := fun ds r => ∃ (chain : (List Int)) (heap : (List Int)) (boxes : (List Int)), ds = [(emb (chain : (List Int))), (emb (heap : (List Int))), (emb (boxes : (List Int)))] ∧ (Chain chain) ∧ (Pile chain heap) ∧ (boxes.length ≤ 1000) ∧ r = .ok (emb ((house_load chain heap boxes) : (List (List Int))))
theorem sc_house_load : FnScope ["chain", "heap", "boxes", "rows", "left", "k", "count", "_", "at", "row"] ["chain", "heap", "boxes"] (defScope (top 36)) := ⟨rfl, rfl, rfl, by decide +kernel, rfl, by decide +kernel, by decide +kernel⟩
theorem ok_house_load {G : Gc} (T : Tx G) {f : Addr} {fd : FuncData} (F : Fun G.K "house_load" "house_load" (top 36) f fd) : FnOk G.P G.w G.K G.mg G.base (L2.CX G.P G.w) 1 f fd ["chain", "heap", "boxes"] (SpD G R_house_load) := by
  have hSz := sizeLine_eq
  refine def_body F sc_house_load (fun ds r h => ?_) (by decide) (fun ds r h => ?_)
  · obtain ⟨_, _, _, rfl, _⟩ := h; rfl
  · obtain ⟨chain, heap, boxes, rfl, hc, hh, ha, rfl⟩ := h
    obtain ⟨q0, hk0⟩ : ∃ q, q = (house_load chain heap boxes) := ⟨_, rfl⟩
    rw [← hk0]
    have hq0 := hk0
    unfold house_load at hq0
    have h8 := hc.l2
    have hhl := hh.1
    show XSs _ _ [.dat (emb (chain : (List Int))), .dat (emb (heap : (List Int))), .dat (emb (boxes : (List Int))), .junk, .junk, .junk, .junk, .junk, .junk, .junk] _
    extract_lets +onlyGivenNames -merge rows_1 at hq0
    have hx_rows_1 : rows_1 = ((boxes.map (fun x_1 => ((repL ([(0 : Int)]) (chain.length : Int)) : (List Int)))) : (List (List Int))) := rfl
    clear_value rows_1
    have hr1 : Rect rows_1 boxes.length chain.length := by rw [hx_rows_1]; exact rect_new _ _ _
    refine' xss_setLmE hx_rows_1 3 [("_", 7)] ?t_1 rfl sc_house_load.nd ?k_1
    case t_1 => exact (xlmE (emb : Int → PyData) (fun x_1 => ((repL ([(0 : Int)]) (chain.length : Int)) : (List Int))) (xi_list (xe_var 2)) rfl sc_house_load.nd (by first | assumption | omega | decide | (simp; done)) (xg_name 7 sc_house_load.nd) (by decide) (fun _ _ => Nat.le_of_ble_eq_true rfl) (fun x_1 hm_x_1 => (xn_repI (xs := [(0 : Int)]) (by exact ⟨by omega, by omega, by simp; omega⟩) (XN.xe (xn_lst (xa_cons xe_int xa_nil))) (XE.to (xe_lenL T.b_len (xe_var 0)) (by rw [List.length_map])))))
    case k_1 =>
      show XSs _ _ [.dat (emb (chain : (List Int))), .dat (emb (heap : (List Int))), .dat (emb (boxes : (List Int))), .own (.mat (embM rows_1)), .junk, .junk, .junk, .junk, .junk, .junk] _
      extract_lets +onlyGivenNames -merge left_1 at hq0
      have hx_left_1 : left_1 = (boxes : (List Int)) := rfl
      clear_value left_1
      refine' xss_setNE hx_left_1 4 sc_house_load.nd ?t_2 ?k_2
      case t_2 => exact (xn_list T.b_list (xe_var 2))
      case k_2 =>
        show XSs _ _ [.dat (emb (chain : (List Int))), .dat (emb (heap : (List Int))), .dat (emb (boxes : (List Int))), .own (.mat (embM rows_1)), .own (.lst (left_1.map (emb : Int → PyData))), .junk, .junk, .junk, .junk, .junk] _
        extract_lets +onlyGivenNames -merge fin_2 at hq0
        have hF1 : fin_2 = (rngC ((chain.length : Int) - (1 : Int)) (-1) (Int.toNat (((chain.length : Int) - (1 : Int)) - (-(1 : Int))))).foldl (bd_house_load_1 chain heap) (T2.mk rows_1 left_1) := rfl
        clear_value fin_2
        refine' xss_forS (emb : Int → PyData) (fun (s1 : (T2 (List (List Int)) (List Int))) => ([.dat (emb (chain : (List Int))), .dat (emb (heap : (List Int))), .dat (emb (boxes : (List Int))), .own (.mat (embM s1.p0)), .own (.lst (s1.p1.map (emb : Int → PyData))), .junk, .junk, .junk, .junk, .junk] : Evm)) (bd_house_load_1 chain heap) (T2.mk rows_1 left_1) hF1 ?i_3 rfl (xgc_name 5 sc_house_load.nd) (Le.cs (Le.cs (Le.cs (Le.cs (Le.cs (Le.cj (Le.cj (Le.cj (Le.cj (Le.cj Le.nil)))))))))) (fun i1 x1 s1 hx1 hist1 => ?tn_3) ?k_3
        case i_3 => exact (xi_range3 (RgC.neg (by first | assumption | omega | decide | (simp; done)) (by first | assumption | omega | decide | (simp; done)) (by first | assumption | omega | decide | (simp; done)) (by first | assumption | omega | decide | (simp; done))) T.b_range (xe_sub (XE.to (xe_lenL T.b_len (xe_var 0)) (by rw [List.length_map])) xe_int) (xe_neg xe_int) (xe_neg xe_int))
        case tn_3 =>
          refine ⟨by exact Nat.le_of_ble_eq_true rfl, ?_⟩
          obtain ⟨q1, hk1⟩ : ∃ q, q = (bd_house_load_1 chain heap) s1 x1 := ⟨_, rfl⟩
          have hq1 := hk1
          unfold bd_house_load_1 at hq1
          have hx1m := mem_down (List.mem_of_getElem? hx1)
          have hI := house_load_inv hist1 hr1 (by rw [hx_left_1])
          have hck := hc.at_ hx1m
          show XSs _ _ [.dat (emb (chain : (List Int))), .dat (emb (heap : (List Int))), .dat (emb (boxes : (List Int))), .own (.mat (embM s1.p0)), .own (.lst (s1.p1.map (emb : Int → PyData))), .dat (.int x1), .junk, .junk, .junk, .junk] _
          extract_lets +onlyGivenNames -merge count_1 at hq1
          have hx_count_1 : count_1 = ((getI heap x1) : Int) := rfl
          clear_value count_1
          refine' xss_setE hx_count_1 6 sc_house_load.nd ?t_4 ?k_4
          case t_4 => exact (xe_ixI (xs := heap) (by exact ⟨by omega, by omega⟩) (xe_var 1) (xe_var 5))
          case k_4 =>
            show XSs _ _ [.dat (emb (chain : (List Int))), .dat (emb (heap : (List Int))), .dat (emb (boxes : (List Int))), .own (.mat (embM s1.p0)), .own (.lst (s1.p1.map (emb : Int → PyData))), .dat (.int x1), .dat (.int count_1), .junk, .junk, .junk] _
            refine xss_openM 3 (fun r2 ps2 hps2 => ?_)
            have hpl2 : s1.p0.length = ps2.length := by rw [hps2]; exact (List.length_map ..).symm
            show XSs _ _ [.dat (emb (chain : (List Int))), .dat (emb (heap : (List Int))), .dat (emb (boxes : (List Int))), .own (.matA r2 ps2 (embM s1.p0)), .own (.lst (s1.p1.map (emb : Int → PyData))), .dat (.int x1), .dat (.int count_1), .junk, .junk, .junk] _
            refine' xss_forE 3 8 9 hpl2 (fun (s2 : (T3 (List (List Int)) Int (List Int))) => ([.dat (emb (chain : (List Int))), .dat (emb (heap : (List Int))), .dat (emb (boxes : (List Int))), .own (.matA r2 ps2 (embM s2.p0)), .own (.lst (s2.p2.map (emb : Int → PyData))), .dat (.int x1), .dat (.int s2.p1), .junk, .junk, .junk] : Evm)) (fun (s2 : (T3 (List (List Int)) Int (List Int))) => embM s2.p0) (bd_house_load_2 chain x1) (T3.mk s1.p0 count_1 s1.p1) rfl sc_house_load.nd (Le.cs (Le.cs (Le.cs (Le.cs (Le.cs (Le.cs (Le.cs (Le.cj (Le.cj (Le.cj Le.nil)))))))))) (fun _ => rfl) ⟨by decide, by decide, by decide⟩ (fun _ => ⟨Nat.le_of_ble_eq_true rfl, Nat.le_of_ble_eq_true rfl⟩) (fun i2 p2 s2 hlt2 hpt2 hist2 => ?tn_5) (fun fin_1 hF2 => ?k_5) T.b_enumerate
            case tn_5 =>
              obtain ⟨q2, hk2⟩ : ∃ q, q = (bd_house_load_2 chain x1) s2 (i2 : Int) := ⟨_, rfl⟩
              have hq2 := hk2
              unfold bd_house_load_2 at hq2
              have hI2 := house_load_inv2 hist2 hI
              have h21 := hI2.1.1
              have h22 := hI2.2
              have hil := hI.1.1
              have hi2 : (i2 : Int) < s2.p0.length := by omega
              have hrw := hI2.1.row (a := (i2 : Int)) ⟨by omega, hi2⟩
              show XSs _ _ [.dat (emb (chain : (List Int))), .dat (emb (heap : (List Int))), .dat (emb (boxes : (List Int))), .own (.matA r2 ps2 (embM s2.p0)), .own (.lst (s2.p2.map (emb : Int → PyData))), .dat (.int x1), .dat (.int s2.p1), .junk, .dat (.int (i2 : Int)), .ptr p2] _
              extract_lets +onlyGivenNames -merge rows_2 at hq2
              have hx_rows_2 : rows_2 = ((setM s2.p0 (i2 : Int) x1 (min s2.p1 ((getI s2.p2 (i2 : Int)) / (getI chain x1)))) : (List (List Int))) := rfl
              clear_value rows_2
              have hI3 := hI2.1.set (i2 : Int) x1 (min s2.p1 ((getI s2.p2 (i2 : Int)) / (getI chain x1)))
              rw [← hx_rows_2] at hI3
              have h31 := hI3.1
              have hrw3 := hI3.row (a := (i2 : Int)) ⟨by omega, by omega⟩
              refine' xss_setPE 3 9 hx_rows_2 hpt2 (by omega) (by exact ⟨by omega, by omega⟩) ?t_6 ?a_6 ?k_6
              case t_6 => exact (xe_tmp 4 (xe_min2 rfl T.b_min (xe_var 6) (xe_div (by exact ⟨by omega, by omega⟩) (xe_ixI (xs := s2.p2) (by exact ⟨by omega, by omega⟩) (xe_var 4) (xe_var 8)) (xe_ixI (xs := chain) (by exact ⟨by omega, by omega⟩) (xe_var 0) (xe_var 5)))))
              case a_6 => exact (xe_var 5)
              case k_6 =>
                show XSs _ _ [.dat (emb (chain : (List Int))), .dat (emb (heap : (List Int))), .dat (emb (boxes : (List Int))), .own (.matA r2 ps2 (embM rows_2)), .own (.lst (s2.p2.map (emb : Int → PyData))), .dat (.int x1), .dat (.int s2.p1), .junk, .dat (.int (i2 : Int)), .ptr p2] _
                extract_lets +onlyGivenNames -merge count_2 at hq2
                have hx_count_2 : count_2 = ((s2.p1 - (getI (mRow rows_2 (i2 : Int)) x1)) : Int) := rfl
                clear_value count_2
                refine' xss_subE hx_count_2 6 sc_house_load.nd ?t_7 ?k_7
                case t_7 => exact (xe_tmpPE (rows := rows_2) 3 9 hpt2 (by omega) (xe_ixI (xs := (mRow rows_2 (i2 : Int))) (by exact ⟨by omega, by omega⟩) (xe_var 9) (xe_var 5)))
                case k_7 =>
                  show XSs _ _ [.dat (emb (chain : (List Int))), .dat (emb (heap : (List Int))), .dat (emb (boxes : (List Int))), .own (.matA r2 ps2 (embM rows_2)), .own (.lst (s2.p2.map (emb : Int → PyData))), .dat (.int x1), .dat (.int count_2), .junk, .dat (.int (i2 : Int)), .ptr p2] _
                  extract_lets +onlyGivenNames -merge left_2 at hq2
                  have hx_left_2 : left_2 = ((setI s2.p2 (i2 : Int) (getI s2.p2 (i2 : Int) - ((getI (mRow rows_2 (i2 : Int)) x1) * (getI chain x1)))) : (List Int)) := rfl
                  clear_value left_2
                  refine' xss_subiE hx_left_2 4 (by exact ⟨by omega, by omega⟩) ?t_8 ?a_8 ?k_8
                  case t_8 => exact (xe_var 8)
                  case a_8 => exact (xe_tmpPE (rows := rows_2) 3 9 hpt2 (by omega) (xe_mul (by exact .inr ⟨by omega, by omega⟩) (xe_ixI (xs := (mRow rows_2 (i2 : Int))) (by exact ⟨by omega, by omega⟩) (xe_var 9) (xe_var 5)) (xe_ixI (xs := chain) (by exact ⟨by omega, by omega⟩) (xe_var 0) (xe_var 5))))
                  case k_8 =>
                    show XSs _ _ [.dat (emb (chain : (List Int))), .dat (emb (heap : (List Int))), .dat (emb (boxes : (List Int))), .own (.matA r2 ps2 (embM rows_2)), .own (.lst (left_2.map (emb : Int → PyData))), .dat (.int x1), .dat (.int count_2), .junk, .dat (.int (i2 : Int)), .ptr p2] _
                    exact xss_nil ⟨_, hk2.symm.trans hq2, (Le.cs (Le.cs (Le.cs (Le.cs (Le.cs (Le.cs (Le.cs (Le.cj (Le.cj (Le.cj Le.nil))))))))))⟩
            case k_5 =>
              have hq_ := hq1.trans (go_end hF2)
              clear hq1
              have hq1 := hq_
              clear hq_
              refine xss_closeM 3 ?_
              show XSs _ _ [.dat (emb (chain : (List Int))), .dat (emb (heap : (List Int))), .dat (emb (boxes : (List Int))), .own (.mat (embM fin_1.p0)), .own (.lst (fin_1.p2.map (emb : Int → PyData))), .dat (.int x1), .dat (.int fin_1.p1), .junk, .junk, .junk] _
              exact xss_nil (by rw [← hk1, hq1]; exact (Le.cs (Le.cs (Le.cs (Le.cs (Le.cs (Le.cj (Le.cj (Le.cj (Le.cj (Le.cj Le.nil)))))))))))
        case k_3 =>
          show XSs _ _ [.dat (emb (chain : (List Int))), .dat (emb (heap : (List Int))), .dat (emb (boxes : (List Int))), .own (.mat (embM fin_2.p0)), .own (.lst (fin_2.p1.map (emb : Int → PyData))), .junk, .junk, .junk, .junk, .junk] _
          refine xss_frzME 3 ?_
          refine xss_ret (d := (emb (fin_2.p0 : (List (List Int))))) ?_ (by rw [hq0]; try rfl)
          exact (xe_var 3)
/-! ### hold_for -/
def R_hold_for : List PyData → Except Exn PyData → Prop := fun ds r => ∃ (chain : (List Int)) (heap : (List Int)) (n : Int), ds = [(emb (chain : (List Int))), (emb (heap : (List Int))), (.int n)] ∧ (Chain chain) ∧ (0 ≤ n ∧ n ≤ 8) ∧ r = .ok (.int (hold_for chain heap n))
theorem sc_hold_for : FnScope ["chain", "heap", "n", "least", "most", "middle"] ["chain", "heap", "n"] (defScope (top 38)) := ⟨rfl, rfl, rfl, by decide +kernel, rfl, by decide +kernel, by decide +kernel⟩
theorem ok_hold_for {G : Gc} (T : Tx G) (D_worth_of : DefD G "worth_of" 1 ["chain", "heap"] R_worth_of) (D_last_full : DefD G "last_full" 3 ["chain", "heap", "boxes"] R_last_full) {f : Addr} {fd : FuncData} (F : Fun G.K "hold_for" "hold_for" (top 38) f fd) : FnOk G.P G.w G.K G.mg G.base (L2.CX G.P G.w) 4 f fd ["chain", "heap", "n"] (SpD G R_hold_for) := by
  have hSz := sizeLine_eq
  refine def_body F sc_hold_for (fun ds r h => ?_) (by decide) (fun ds r h => ?_)
  · obtain ⟨_, _, _, rfl, _⟩ := h; rfl
  · obtain ⟨chain, heap, n, rfl, hc, hn, rfl⟩ := h
    obtain ⟨q0, hk0⟩ : ∃ q, q = (hold_for chain heap n) := ⟨_, rfl⟩
    rw [← hk0]
    have hq0 := hk0
    unfold hold_for at hq0
    show XSs _ _ [.dat (emb (chain : (List Int))), .dat (emb (heap : (List Int))), .dat (.int n), .junk, .junk, .junk] _
    extract_lets +onlyGivenNames -merge least_1 at hq0
    have hx_least_1 : least_1 = ((0 : Int) : Int) := rfl
    clear_value least_1
    refine' xss_setE hx_least_1 3 sc_hold_for.nd ?t_1 ?k_1
    case t_1 => exact xe_int
    case k_1 =>
      show XSs _ _ [.dat (emb (chain : (List Int))), .dat (emb (heap : (List Int))), .dat (.int n), .dat (.int least_1), .junk, .junk] _
      extract_lets +onlyGivenNames -merge most_1 at hq0
      have hx_most_1 : most_1 = ((worth_of chain heap) : Int) := rfl
      clear_value most_1
      refine' xss_setE hx_most_1 4 sc_hold_for.nd ?t_2 ?k_2
      case t_2 => exact (xe_call D_worth_of (Nat.le_of_ble_eq_true rfl) rfl ⟨chain, heap, rfl, (by exact hc.few), rfl⟩ (xa_cons (xe_var 0) (xa_cons (xe_var 1) xa_nil)))
      case k_2 =>
        show XSs _ _ [.dat (emb (chain : (List Int))), .dat (emb (heap : (List Int))), .dat (.int n), .dat (.int least_1), .dat (.int most_1), .junk] _
        refine' xss_while (fun (s1 : (T2 Int Int)) => ([.dat (emb (chain : (List Int))), .dat (emb (heap : (List Int))), .dat (.int n), .dat (.int s1.p1), .dat (.int s1.p0), .junk] : Evm)) ct_hold_for_1 (bd_hold_for_1 chain heap n) (fun (s : (T2 Int Int)) => (s.p0 - s.p1).toNat) (fun (s : (T2 Int Int)) => True) (T2.mk most_1 least_1) (((fun (s : (T2 Int Int)) => (s.p0 - s.p1).toNat) (T2.mk most_1 least_1)) + 1) (Nat.lt_succ_self _) (Le.cs (Le.cs (Le.cs (Le.cs (Le.cs (Le.cj Le.nil)))))) (by trivial) (by exact hold_step) (fun s1 hJ1 => ?t_3) (fun s1 n1 hJ1 hcw1 hist1 => ?tn_3) (fun fin_1 hF1 => ?k_3)
        case t_3 =>
          show XT _ _ [.dat (emb (chain : (List Int))), .dat (emb (heap : (List Int))), .dat (.int n), .dat (.int s1.p1), .dat (.int s1.p0), .junk] _
          exact (xt_lt (xe_var 3) (xe_var 4))
        case tn_3 =>
          obtain ⟨q1, hk1⟩ : ∃ q, q = (bd_hold_for_1 chain heap n) s1 := ⟨_, rfl⟩
          have hq1 := hk1
          unfold bd_hold_for_1 at hq1
          have hcw1_ := hcw1
          unfold ct_hold_for_1 at hcw1_
          try simp only [Bool.and_eq_true, Bool.or_eq_true, Bool.not_eq_true', Bool.not_eq_false', Bool.or_eq_false_iff, Bool.and_eq_false_iff, decide_eq_true_eq, decide_eq_false_iff_not, Bool.not_eq_true, Bool.not_eq_false] at hcw1_
          show XSs _ _ [.dat (emb (chain : (List Int))), .dat (emb (heap : (List Int))), .dat (.int n), .dat (.int s1.p1), .dat (.int s1.p0), .junk] _
          extract_lets +onlyGivenNames -merge middle_1 at hq1
          have hx_middle_1 : middle_1 = (((s1.p1 + s1.p0) / (2 : Int)) : Int) := rfl
          clear_value middle_1
          refine' xss_setE hx_middle_1 5 sc_hold_for.nd ?t_4 ?k_4
          case t_4 => exact (xe_div (by exact ⟨by decide, by decide⟩) (xe_add (xe_var 3) (xe_var 4)) xe_int)
          case k_4 =>
            show XSs _ _ [.dat (emb (chain : (List Int))), .dat (emb (heap : (List Int))), .dat (.int n), .dat (.int s1.p1), .dat (.int s1.p0), .dat (.int middle_1)] _
            extract_lets +onlyGivenNames -merge most_2 at hq1
            have hx_most_2 : most_2 = (if ((last_full chain heap (repL ([middle_1]) n)).isNone) = true then middle_1 else s1.p0 : Int) := rfl
            clear_value most_2
            extract_lets +onlyGivenNames -merge least_2 at hq1
            have hx_least_2 : least_2 = (if ((last_full chain heap (repL ([middle_1]) n)).isNone) = true then s1.p1 else (middle_1 + (1 : Int)) : Int) := rfl
            clear_value least_2
            refine' xss_ifJ (k := ((last_full chain heap (repL ([middle_1]) n)).isNone)) [.dat (emb (chain : (List Int))), .dat (emb (heap : (List Int))), .dat (.int n), .dat (.int least_2), .dat (.int most_2), .dat (.int middle_1)] ?t_5 (fun hb1 => ?a_5) (fun hb1 => ?b_5) ?k_5
            case t_5 => exact (xt_isNO (xe_call D_last_full (Nat.le_of_ble_eq_true rfl) rfl ⟨chain, heap, (repL ([middle_1]) n), rfl, (by first | assumption | omega | decide | (simp; done)), (by rw [repL_len]; omega), rfl⟩ (xa_cons (xe_var 0) (xa_cons (xe_var 1) (xa_cons (XN.xe (xn_repI (xs := [middle_1]) (by exact ⟨by omega, by omega, by simp; omega⟩) (XN.xe (xn_lst (xa_cons (xe_var 5) xa_nil))) (xe_var 2))) xa_nil)))))
            case a_5 =>
              have hp1 := hb1
              try simp only [Bool.and_eq_true, Bool.or_eq_true, Bool.not_eq_true', Bool.not_eq_false', Bool.or_eq_false_iff, Bool.and_eq_false_iff, decide_eq_true_eq, decide_eq_false_iff_not, Bool.not_eq_true, Bool.not_eq_false] at hp1
              rw [if_pos hb1] at hx_most_2
              rw [if_pos hb1] at hx_least_2
              rw [hx_most_2]
              rw [hx_least_2]
              refine xss_setE (v := middle_1) rfl 4 sc_hold_for.nd ?_ ?_
              · exact (xe_var 5)
              exact xss_nil (Le.cs (Le.cs (Le.cs (Le.cs (Le.cs (Le.cs Le.nil))))))
            case b_5 =>
              have hp1 := hb1
              try simp only [Bool.and_eq_true, Bool.or_eq_true, Bool.not_eq_true', Bool.not_eq_false', Bool.or_eq_false_iff, Bool.and_eq_false_iff, decide_eq_true_eq, decide_eq_false_iff_not, Bool.not_eq_true, Bool.not_eq_false] at hp1
              rw [if_neg (by rw [hb1]; exact Bool.false_ne_true)] at hx_most_2
              rw [if_neg (by rw [hb1]; exact Bool.false_ne_true)] at hx_least_2
              rw [hx_most_2]
              rw [hx_least_2]
              refine xss_setE (v := (middle_1 + (1 : Int))) rfl 3 sc_hold_for.nd ?_ ?_
              · exact (xe_add (xe_var 5) xe_int)
              exact xss_nil (Le.cs (Le.cs (Le.cs (Le.cs (Le.cs (Le.cs Le.nil))))))
            case k_5 =>
              exact xss_nil ⟨_, hk1.symm.trans hq1, (Le.cs (Le.cs (Le.cs (Le.cs (Le.cs (Le.cj Le.nil))))))⟩
        case k_3 =>
          have hq_ := hq0.trans (go_end hF1)
          clear hq0
          have hq0 := hq_
          clear hq_
          show XSs _ _ [.dat (emb (chain : (List Int))), .dat (emb (heap : (List Int))), .dat (.int n), .dat (.int fin_1.p1), .dat (.int fin_1.p0), .junk] _
          refine xss_ret (d := (.int fin_1.p1)) ?_ (by rw [hq0]; try rfl)
          exact (xe_var 3)
/-! ### check_persons -/
def R_check_persons : List PyData → Except Exn PyData → Prop := fun ds r => ∃ (value : Int), ds = [(.int value)] ∧ (2 ≤ value ∧ value ≤ 8) ∧ r = .ok (emb ((check_persons value) : Unit))
theorem sc_check_persons : FnScope ["value"] ["value"] (defScope (top 42)) := ⟨rfl, rfl, rfl, by decide +kernel, rfl, by decide +kernel, by decide +kernel⟩
theorem ok_check_persons {G : Gc} (T : Tx G) (D_is_from_to : DefD G "is_from_to" 2 ["value", "least", "most"] R_is_from_to) {f : Addr} {fd : FuncData} (F : Fun G.K "check_persons" "check_persons" (top 42) f fd) : FnOk G.P G.w G.K G.mg G.base (L2.CX G.P G.w) 3 f fd ["value"] (SpD G R_check_persons) := by
  have hSz := sizeLine_eq
  refine def_body F sc_check_persons (fun ds r h => ?_) (by decide) (fun ds r h => ?_)
  · obtain ⟨_, rfl, _⟩ := h; rfl
  · obtain ⟨value, rfl, hn, rfl⟩ := h
    obtain ⟨q0, hk0⟩ : ∃ q, q = (check_persons value) := ⟨_, rfl⟩
    rw [← hk0]
    have hq0 := hk0
    unfold check_persons at hq0
    show XSs _ _ [.dat (.int value)] _
    refine' xss_if (k := (!(is_from_to value (2 : Int) (8 : Int)))) ?t_1 (fun hb1 => ?a_1) (fun hb1 => ?b_1)
    case t_1 => exact (xt_not (xt_val (xe_call D_is_from_to (Nat.le_of_ble_eq_true rfl) rfl ⟨value, (2 : Int), (8 : Int), rfl, rfl⟩ (xa_cons (xe_var 0) (xa_cons (xe_globI T.c_FEWEST) (xa_cons (xe_globI T.c_MOST) xa_nil))))))
    case a_1 =>
      have hp1 := hb1
      try simp only [Bool.and_eq_true, Bool.or_eq_true, Bool.not_eq_true', Bool.not_eq_false', Bool.or_eq_false_iff, Bool.and_eq_false_iff, decide_eq_true_eq, decide_eq_false_iff_not, Bool.not_eq_true, Bool.not_eq_false] at hp1
      exact False.elim (by rw [from_to, decide_eq_true hn.1, decide_eq_true hn.2] at hb1; cases hb1)
    case b_1 =>
      have hp1 := hb1
      try simp only [Bool.and_eq_true, Bool.or_eq_true, Bool.not_eq_true', Bool.not_eq_false', Bool.or_eq_false_iff, Bool.and_eq_false_iff, decide_eq_true_eq, decide_eq_false_iff_not, Bool.not_eq_true, Bool.not_eq_false] at hp1
      refine xss_nil ?_
      show XSs _ _ [.dat (.int value)] _
      exact xss_nil (by rw [hq0]; rfl)
/-! ### check_sharing -/
def R_check_sharing : List PyData → Except Exn PyData → Prop := fun ds r => ∃ (chain : (List Int)) (heap : (List Int)) (n : Int), ds = [(emb (chain : (List Int))), (emb (heap : (List Int))), (.int n)] ∧ (Chain chain) ∧ (Pile chain heap) ∧ (2 ≤ n ∧ n ≤ 8) ∧ r = .ok (emb ((check_sharing chain heap n) : Unit))
theorem sc_check_sharing : FnScope ["chain", "heap", "n"] ["chain", "heap", "n"] (defScope (top 43)) := ⟨rfl, rfl, rfl, by decide +kernel, rfl, by decide +kernel, by decide +kernel⟩
theorem ok_check_sharing {G : Gc} (T : Tx G) (D_check_heap : DefD G "check_heap" 5 ["chain", "value"] R_check_heap) (D_check_persons : DefD G "check_persons" 3 ["value"] R_check_persons) {f : Addr} {fd : FuncData} (F : Fun G.K "check_sharing" "check_sharing" (top 43) f fd) : FnOk G.P G.w G.K G.mg G.base (L2.CX G.P G.w) 6 f fd ["chain", "heap", "n"] (SpD G R_check_sharing) := by
  have hSz := sizeLine_eq
  refine def_body F sc_check_sharing (fun ds r h => ?_) (by decide) (fun ds r h => ?_)
  · obtain ⟨_, _, _, rfl, _⟩ := h; rfl
  · obtain ⟨chain, heap, n, rfl, hc, hh, hn, rfl⟩ := h
    obtain ⟨q0, hk0⟩ : ∃ q, q = (check_sharing chain heap n) := ⟨_, rfl⟩
    rw [← hk0]
    have hq0 := hk0
    unfold check_sharing at hq0
    show XSs _ _ [.dat (emb (chain : (List Int))), .dat (emb (heap : (List Int))), .dat (.int n)] _
    refine' xss_expr (d := .none) ?t_1 ?k_1
    case t_1 => exact (xe_call D_check_heap (Nat.le_of_ble_eq_true rfl) rfl ⟨chain, heap, rfl, (by first | assumption | omega | decide | (simp; done)), (by first | assumption | omega | decide | (simp; done)), rfl⟩ (xa_cons (xe_var 0) (xa_cons (xe_var 1) xa_nil)))
    case k_1 =>
      show XSs _ _ [.dat (emb (chain : (List Int))), .dat (emb (heap : (List Int))), .dat (.int n)] _
      refine' xss_expr (d := .none) ?t_2 ?k_2
      case t_2 => exact (xe_call D_check_persons (Nat.le_of_ble_eq_true rfl) rfl ⟨n, rfl, (by first | assumption | omega | decide | (simp; done)), rfl⟩ (xa_cons (xe_var 2) xa_nil))
      case k_2 =>
        show XSs _ _ [.dat (emb (chain : (List Int))), .dat (emb (heap : (List Int))), .dat (.int n)] _
        exact xss_nil (by rw [hq0]; rfl)
/-! ### least_greatest -/
def R_least_greatest : List PyData → Except Exn PyData → Prop := fun ds r => ∃ (chain : (List Int)) (heap : (List Int)) (n : Int), ds = [(emb (chain : (List Int))), (emb (heap : (List Int))), (.int n)] ∧ (Chain chain) ∧ (Pile chain heap) ∧ (2 ≤ n ∧ n ≤ 8) ∧ r = .ok (.int (least_greatest chain heap n))
theorem sc_least_greatest : FnScope ["chain", "heap", "n"] ["chain", "heap", "n"] (defScope (top 44)) := ⟨rfl, rfl, rfl, by decide +kernel, rfl, by decide +kernel, by decide +kernel⟩
theorem ok_least_greatest {G : Gc} (T : Tx G) (D_check_sharing : DefD G "check_sharing" 6 ["chain", "heap", "n"] R_check_sharing) (D_hold_for : DefD G "hold_for" 4 ["chain", "heap", "n"] R_hold_for) {f : Addr} {fd : FuncData} (F : Fun G.K "least_greatest" "least_greatest" (top 44) f fd) : FnOk G.P G.w G.K G.mg G.base (L2.CX G.P G.w) 7 f fd ["chain", "heap", "n"] (SpD G R_least_greatest) := by
  have hSz := sizeLine_eq
  refine def_body F sc_least_greatest (fun ds r h => ?_) (by decide) (fun ds r h => ?_)
  · obtain ⟨_, _, _, rfl, _⟩ := h; rfl
  · obtain ⟨chain, heap, n, rfl, hc, hh, hn, rfl⟩ := h
    obtain ⟨q0, hk0⟩ : ∃ q, q = (least_greatest chain heap n) := ⟨_, rfl⟩
    rw [← hk0]
    have hq0 := hk0
    unfold least_greatest at hq0
    show XSs _ _ [.dat (emb (chain : (List Int))), .dat (emb (heap : (List Int))), .dat (.int n)] _
    refine' xss_expr (d := .none) ?t_1 ?k_1
    case t_1 => exact (xe_call D_check_sharing (Nat.le_of_ble_eq_true rfl) rfl ⟨chain, heap, n, rfl, (by first | assumption | omega | decide | (simp; done)), (by first | assumption | omega | decide | (simp; done)), (by first | assumption | omega | decide | (simp; done)), rfl⟩ (xa_cons (xe_var 0) (xa_cons (xe_var 1) (xa_cons (xe_var 2) xa_nil))))
    case k_1 =>
      show XSs _ _ [.dat (emb (chain : (List Int))), .dat (emb (heap : (List Int))), .dat (.int n)] _
      refine xss_ret (d := (.int (hold_for chain heap n))) ?_ (by rw [hq0]; try rfl)
      exact (xe_call D_hold_for (Nat.le_of_ble_eq_true rfl) rfl ⟨chain, heap, n, rfl, (by first | assumption | omega | decide | (simp; done)), (by first | assumption | omega | decide | (simp; done)), rfl⟩ (xa_cons (xe_var 0) (xa_cons (xe_var 1) (xa_cons (xe_var 2) xa_nil))))
/-! ### levelled -/
def R_levelled : List PyData → Except Exn PyData → Prop := fun ds r => ∃ (chain : (List Int)) (heap : (List Int)) (n : Int), ds = [(emb (chain : (List Int))), (emb (heap : (List Int))), (.int n)] ∧ (Chain chain) ∧ (Pile chain heap) ∧ (2 ≤ n ∧ n ≤ 8) ∧ r = .ok (emb ((levelled chain heap n) : (List (List Int))))
theorem sc_levelled : FnScope ["chain", "heap", "n"] ["chain", "heap", "n"] (defScope (top 45)) := ⟨rfl, rfl, rfl, by decide +kernel, rfl, by decide +kernel, by decide +kernel⟩
theorem ok_levelled {G : Gc} (T : Tx G) (D_check_sharing : DefD G "check_sharing" 6 ["chain", "heap", "n"] R_check_sharing) (D_hold_for : DefD G "hold_for" 4 ["chain", "heap", "n"] R_hold_for) (D_house_load : DefD G "house_load" 1 ["chain", "heap", "boxes"] R_house_load) {f : Addr} {fd : FuncData} (F : Fun G.K "levelled" "levelled" (top 45) f fd) : FnOk G.P G.w G.K G.mg G.base (L2.CX G.P G.w) 7 f fd ["chain", "heap", "n"] (SpD G R_levelled) := by
  have hSz := sizeLine_eq
  refine def_body F sc_levelled (fun ds r h => ?_) (by decide) (fun ds r h => ?_)
  · obtain ⟨_, _, _, rfl, _⟩ := h; rfl
  · obtain ⟨chain, heap, n, rfl, hc, hh, hn, rfl⟩ := h
    obtain ⟨q0, hk0⟩ : ∃ q, q = (levelled chain heap n) := ⟨_, rfl⟩
    rw [← hk0]
    have hq0 := hk0
    unfold levelled at hq0
    show XSs _ _ [.dat (emb (chain : (List Int))), .dat (emb (heap : (List Int))), .dat (.int n)] _
    refine' xss_expr (d := .none) ?t_1 ?k_1
    case t_1 => exact (xe_call D_check_sharing (Nat.le_of_ble_eq_true rfl) rfl ⟨chain, heap, n, rfl, (by first | assumption | omega | decide | (simp; done)), (by first | assumption | omega | decide | (simp; done)), (by first | assumption | omega | decide | (simp; done)), rfl⟩ (xa_cons (xe_var 0) (xa_cons (xe_var 1) (xa_cons (xe_var 2) xa_nil))))
    case k_1 =>
      show XSs _ _ [.dat (emb (chain : (List Int))), .dat (emb (heap : (List Int))), .dat (.int n)] _
      refine xss_ret (d := (emb ((house_load chain heap (repL ([(hold_for chain heap n)]) n)) : (List (List Int))))) ?_ (by rw [hq0]; try rfl)
      exact (xe_call D_house_load (Nat.le_of_ble_eq_true rfl) rfl ⟨chain, heap, (repL ([(hold_for chain heap n)]) n), rfl, (by first | assumption | omega | decide | (simp; done)), (by first | assumption | omega | decide | (simp; done)), (by rw [repL_len]; omega), rfl⟩ (xa_cons (xe_var 0) (xa_cons (xe_var 1) (xa_cons (XN.xe (xn_repI (xs := [(hold_for chain heap n)]) (by exact ⟨by omega, by omega, by simp; omega⟩) (XN.xe (xn_lst (xa_cons (xe_call D_hold_for (Nat.le_of_ble_eq_true rfl) rfl ⟨chain, heap, n, rfl, (by first | assumption | omega | decide | (simp; done)), (by first | assumption | omega | decide | (simp; done)), rfl⟩ (xa_cons (xe_var 0) (xa_cons (xe_var 1) (xa_cons (xe_var 2) xa_nil)))) xa_nil))) (xe_var 2))) xa_nil))))
/-! ### by_turns -/
def R_by_turns : List PyData → Except Exn PyData → Prop := fun ds r => ∃ (chain : (List Int)) (heap : (List Int)) (n : Int), ds = [(emb (chain : (List Int))), (emb (heap : (List Int))), (.int n)] ∧ (Chain chain) ∧ (Pile chain heap) ∧ (2 ≤ n ∧ n ≤ 8) ∧ r = .ok (emb ((by_turns chain heap n) : (List (List Int))))
theorem sc_by_turns : FnScope ["chain", "heap", "n", "rows", "turn", "k", "_"] ["chain", "heap", "n"] (defScope (top 46)) := ⟨rfl, rfl, rfl, by decide +kernel, rfl, by decide +kernel, by decide +kernel⟩
theorem ok_by_turns {G : Gc} (T : Tx G) (D_check_sharing : DefD G "check_sharing" 6 ["chain", "heap", "n"] R_check_sharing) {f : Addr} {fd : FuncData} (F : Fun G.K "by_turns" "by_turns" (top 46) f fd) : FnOk G.P G.w G.K G.mg G.base (L2.CX G.P G.w) 7 f fd ["chain", "heap", "n"] (SpD G R_by_turns) := by
  have hSz := sizeLine_eq
  refine def_body F sc_by_turns (fun ds r h => ?_) (by decide) (fun ds r h => ?_)
  · obtain ⟨_, _, _, rfl, _⟩ := h; rfl
  · obtain ⟨chain, heap, n, rfl, hc, hh, hn, rfl⟩ := h
    obtain ⟨q0, hk0⟩ : ∃ q, q = (by_turns chain heap n) := ⟨_, rfl⟩
    rw [← hk0]
    have hq0 := hk0
    unfold by_turns at hq0
    have h8 := hc.l2
    have hhl := hh.1
    show XSs _ _ [.dat (emb (chain : (List Int))), .dat (emb (heap : (List Int))), .dat (.int n), .junk, .junk, .junk, .junk] _
    refine' xss_expr (d := .none) ?t_1 ?k_1
    case t_1 => exact (xe_call D_check_sharing (Nat.le_of_ble_eq_true rfl) rfl ⟨chain, heap, n, rfl, (by first | assumption | omega | decide | (simp; done)), (by first | assumption | omega | decide | (simp; done)), (by first | assumption | omega | decide | (simp; done)), rfl⟩ (xa_cons (xe_var 0) (xa_cons (xe_var 1) (xa_cons (xe_var 2) xa_nil))))
    case k_1 =>
      show XSs _ _ [.dat (emb (chain : (List Int))), .dat (emb (heap : (List Int))), .dat (.int n), .junk, .junk, .junk, .junk] _
      extract_lets +onlyGivenNames -merge rows_1 at hq0
      have hx_rows_1 : rows_1 = (((rng 0 (Int.toNat n)).map (fun x_1 => ((repL ([(0 : Int)]) (chain.length : Int)) : (List Int)))) : (List (List Int))) := rfl
      clear_value rows_1
      have hr1 : Rect rows_1 n.toNat chain.length := by rw [hx_rows_1]; have q := rect_new (rng 0 (Int.toNat n)) (0 : Int) (chain.length : Int); rw [rng_len] at q; exact q
      refine' xss_setLmE hx_rows_1 3 [("_", 6)] ?t_2 rfl sc_by_turns.nd ?k_2
      case t_2 => exact (xlmE (emb : Int → PyData) (fun x_1 => ((repL ([(0 : Int)]) (chain.length : Int)) : (List Int))) (xi_range1 (by exact ⟨by omega, by omega⟩) T.b_range (xe_var 2)) rfl sc_by_turns.nd (by rw [rng_len]; omega) (xg_name 6 sc_by_turns.nd) (by decide) (fun _ _ => Nat.le_of_ble_eq_true rfl) (fun x_1 hm_x_1 => (xn_repI (xs := [(0 : Int)]) (by exact ⟨by omega, by omega, by simp; omega⟩) (XN.xe (xn_lst (xa_cons xe_int xa_nil))) (XE.to (xe_lenL T.b_len (xe_var 0)) (by rw [List.length_map])))))
      case k_2 =>
        show XSs _ _ [.dat (emb (chain : (List Int))), .dat (emb (heap : (List Int))), .dat (.int n), .own (.mat (embM rows_1)), .junk, .junk, .junk] _
        extract_lets +onlyGivenNames -merge turn_1 at hq0
        have hx_turn_1 : turn_1 = ((0 : Int) : Int) := rfl
        clear_value turn_1
        refine' xss_setE hx_turn_1 4 sc_by_turns.nd ?t_3 ?k_3
        case t_3 => exact xe_int
        case k_3 =>
          show XSs _ _ [.dat (emb (chain : (List Int))), .dat (emb (heap : (List Int))), .dat (.int n), .own (.mat (embM rows_1)), .dat (.int turn_1), .junk, .junk] _
          extract_lets +onlyGivenNames -merge fin_2 at hq0
          have hF1 : fin_2 = (rngC ((chain.length : Int) - (1 : Int)) (-1) (Int.toNat (((chain.length : Int) - (1 : Int)) - (-(1 : Int))))).foldl (bd_by_turns_1 heap n) (T2.mk rows_1 turn_1) := rfl
          clear_value fin_2
          refine' xss_forS (emb : Int → PyData) (fun (s1 : (T2 (List (List Int)) Int)) => ([.dat (emb (chain : (List Int))), .dat (emb (heap : (List Int))), .dat (.int n), .own (.mat (embM s1.p0)), .dat (.int s1.p1), .junk, .junk] : Evm)) (bd_by_turns_1 heap n) (T2.mk rows_1 turn_1) hF1 ?i_4 rfl (xgc_name 5 sc_by_turns.nd) (Le.cs (Le.cs (Le.cs (Le.cs (Le.cs (Le.cj (Le.cj Le.nil))))))) (fun i1 x1 s1 hx1 hist1 => ?tn_4) ?k_4
          case i_4 => exact (xi_range3 (RgC.neg (by first | assumption | omega | decide | (simp; done)) (by first | assumption | omega | decide | (simp; done)) (by first | assumption | omega | decide | (simp; done)) (by first | assumption | omega | decide | (simp; done))) T.b_range (xe_sub (XE.to (xe_lenL T.b_len (xe_var 0)) (by rw [List.length_map])) xe_int) (xe_neg xe_int) (xe_neg xe_int))
          case tn_4 =>
            refine ⟨by exact Nat.le_of_ble_eq_true rfl, ?_⟩
            obtain ⟨q1, hk1⟩ : ∃ q, q = (bd_by_turns_1 heap n) s1 x1 := ⟨_, rfl⟩
            have hq1 := hk1
            unfold bd_by_turns_1 at hq1
            have hx1m := mem_down (List.mem_of_getElem? hx1)
            have hI := by_turns_inv hist1 hr1
            have hhk := hh.at_ hx1m
            show XSs _ _ [.dat (emb (chain : (List Int))), .dat (emb (heap : (List Int))), .dat (.int n), .own (.mat (embM s1.p0)), .dat (.int s1.p1), .dat (.int x1), .junk] _
            extract_lets +onlyGivenNames -merge fin_1 at hq1
            have hF2 : fin_1 = (rng 0 (Int.toNat (getI heap x1))).foldl (bd_by_turns_2 n x1) (T2.mk s1.p0 s1.p1) := rfl
            clear_value fin_1
            refine' xss_forS (emb : Int → PyData) (fun (s2 : (T2 (List (List Int)) Int)) => ([.dat (emb (chain : (List Int))), .dat (emb (heap : (List Int))), .dat (.int n), .own (.mat (embM s2.p0)), .dat (.int s2.p1), .dat (.int x1), .junk] : Evm)) (bd_by_turns_2 n x1) (T2.mk s1.p0 s1.p1) hF2 ?i_5 rfl (xgc_name 6 sc_by_turns.nd) (Le.cs (Le.cs (Le.cs (Le.cs (Le.cs (Le.cs (Le.cj Le.nil))))))) (fun i2 x2 s2 hx2 hist2 => ?tn_5) ?k_5
            case i_5 => exact (xi_range1 (by exact ⟨by omega, by omega⟩) T.b_range (xe_ixI (xs := heap) (by exact ⟨by omega, by omega⟩) (xe_var 1) (xe_var 5)))
            case tn_5 =>
              refine ⟨by exact Nat.le_of_ble_eq_true rfl, ?_⟩
              obtain ⟨q2, hk2⟩ : ∃ q, q = (bd_by_turns_2 n x1) s2 x2 := ⟨_, rfl⟩
              have hq2 := hk2
              unfold bd_by_turns_2 at hq2
              have hI2 := by_turns_inv2 hist2 hI
              have h21 := hI2.1
              have hm1 := Int.emod_nonneg s2.p1 (show n ≠ 0 by omega)
              have hm2 := Int.emod_lt_of_pos s2.p1 (show 0 < n by omega)
              have hrw := hI2.row (a := s2.p1 % n) ⟨hm1, by omega⟩
              show XSs _ _ [.dat (emb (chain : (List Int))), .dat (emb (heap : (List Int))), .dat (.int n), .own (.mat (embM s2.p0)), .dat (.int s2.p1), .dat (.int x1), .dat (.int x2)] _
              extract_lets +onlyGivenNames -merge rows_2 at hq2
              have hx_rows_2 : rows_2 = ((setM s2.p0 (s2.p1 % n) x1 (getI (mRow s2.p0 (s2.p1 % n)) x1 + (1 : Int))) : (List (List Int))) := rfl
              clear_value rows_2
              refine' xss_addME hx_rows_2 3 (by exact ⟨hm1, by omega⟩) (by exact ⟨by omega, by omega⟩) ?t_6 ?a_6 ?b_6 ?k_6
              case t_6 => exact (xe_mod (by first | assumption | omega | decide | (simp; done)) (xe_var 4) (xe_var 2))
              case a_6 => exact (xe_var 5)
              case b_6 => exact xe_int
              case k_6 =>
                show XSs _ _ [.dat (emb (chain : (List Int))), .dat (emb (heap : (List Int))), .dat (.int n), .own (.mat (embM rows_2)), .dat (.int s2.p1), .dat (.int x1), .dat (.int x2)] _
                extract_lets +onlyGivenNames -merge turn_2 at hq2
                have hx_turn_2 : turn_2 = ((s2.p1 + (1 : Int)) : Int) := rfl
                clear_value turn_2
                refine' xss_addE hx_turn_2 4 sc_by_turns.nd ?t_7 ?k_7
                case t_7 => exact xe_int
                case k_7 =>
                  show XSs _ _ [.dat (emb (chain : (List Int))), .dat (emb (heap : (List Int))), .dat (.int n), .own (.mat (embM rows_2)), .dat (.int turn_2), .dat (.int x1), .dat (.int x2)] _
                  exact xss_nil (by rw [← hk2, hq2]; exact (Le.cs (Le.cs (Le.cs (Le.cs (Le.cs (Le.cs (Le.cj Le.nil))))))))
            case k_5 =>
              show XSs _ _ [.dat (emb (chain : (List Int))), .dat (emb (heap : (List Int))), .dat (.int n), .own (.mat (embM fin_1.p0)), .dat (.int fin_1.p1), .dat (.int x1), .junk] _
              exact xss_nil (by rw [← hk1, hq1]; exact (Le.cs (Le.cs (Le.cs (Le.cs (Le.cs (Le.cj (Le.cj Le.nil))))))))
          case k_4 =>
            show XSs _ _ [.dat (emb (chain : (List Int))), .dat (emb (heap : (List Int))), .dat (.int n), .own (.mat (embM fin_2.p0)), .dat (.int fin_2.p1), .junk, .junk] _
            refine xss_frzME 3 ?_
            refine xss_ret (d := (emb (fin_2.p0 : (List (List Int))))) ?_ (by rw [hq0]; try rfl)
            exact (xe_var 3)
/-! ### neediest -/
def R_neediest : List PyData → Except Exn PyData → Prop := fun ds r => ∃ (worths : (List Int)), ds = [(emb (worths : (List Int)))] ∧ (1 ≤ worths.length) ∧ r = .ok (.int (neediest worths))
theorem sc_neediest : FnScope ["worths"] ["worths"] (defScope (top 47)) := ⟨rfl, rfl, rfl, by decide +kernel, rfl, by decide +kernel, by decide +kernel⟩
theorem ok_neediest {G : Gc} (T : Tx G) {f : Addr} {fd : FuncData} (F : Fun G.K "neediest" "neediest" (top 47) f fd) : FnOk G.P G.w G.K G.mg G.base (L2.CX G.P G.w) 1 f fd ["worths"] (SpD G R_neediest) := by
  have hSz := sizeLine_eq
  refine def_body F sc_neediest (fun ds r h => ?_) (by decide) (fun ds r h => ?_)
  · obtain ⟨_, rfl, _⟩ := h; rfl
  · obtain ⟨worths, rfl, hw, rfl⟩ := h
    obtain ⟨q0, hk0⟩ : ∃ q, q = (neediest worths) := ⟨_, rfl⟩
    rw [← hk0]
    have hq0 := hk0
    unfold neediest at hq0
    obtain ⟨hw1, hw2, _⟩ := least_lt hw rfl
    show XSs _ _ [.dat (emb (worths : (List Int)))] _
    refine xss_ret (d := (.int (idxI worths (lmin worths)))) ?_ (by rw [hq0]; try rfl)
    exact (xe_index (by first | assumption | omega | decide | (simp; done)) (xe_var 0) (xe_min (by first | assumption | omega | decide | (simp; done)) rfl T.b_min (xe_var 0)))
/-! ### by_need -/
def R_by_need : List PyData → Except Exn PyData → Prop := fun ds r => ∃ (chain : (List Int)) (heap : (List Int)) (n : Int), ds = [(emb (chain : (List Int))), (emb (heap : (List Int))), (.int n)] ∧ (Chain chain) ∧ (Pile chain heap) ∧ (2 ≤ n ∧ n ≤ 8) ∧ r = .ok (emb ((by_need chain heap n) : (List (List Int))))
theorem sc_by_need : FnScope ["chain", "heap", "n", "rows", "sums", "k", "_", "person"] ["chain", "heap", "n"] (defScope (top 48)) := ⟨rfl, rfl, rfl, by decide +kernel, rfl, by decide +kernel, by decide +kernel⟩
theorem ok_by_need {G : Gc} (T : Tx G) (D_check_sharing : DefD G "check_sharing" 6 ["chain", "heap", "n"] R_check_sharing) (D_neediest : DefD G "neediest" 1 ["worths"] R_neediest) {f : Addr} {fd : FuncData} (F : Fun G.K "by_need" "by_need" (top 48) f fd) : FnOk G.P G.w G.K G.mg G.base (L2.CX G.P G.w) 7 f fd ["chain", "heap", "n"] (SpD G R_by_need) := by
  have hSz := sizeLine_eq
  refine def_body F sc_by_need (fun ds r h => ?_) (by decide) (fun ds r h => ?_)
  · obtain ⟨_, _, _, rfl, _⟩ := h; rfl
  · obtain ⟨chain, heap, n, rfl, hc, hh, hn, rfl⟩ := h
    obtain ⟨q0, hk0⟩ : ∃ q, q = (by_need chain heap n) := ⟨_, rfl⟩
    rw [← hk0]
    have hq0 := hk0
    unfold by_need at hq0
    have h8 := hc.l2
    have hhl := hh.1
    show XSs _ _ [.dat (emb (chain : (List Int))), .dat (emb (heap : (List Int))), .dat (.int n), .junk, .junk, .junk, .junk, .junk] _
    refine' xss_expr (d := .none) ?t_1 ?k_1
    case t_1 => exact (xe_call D_check_sharing (Nat.le_of_ble_eq_true rfl) rfl ⟨chain, heap, n, rfl, (by first | assumption | omega | decide | (simp; done)), (by first | assumption | omega | decide | (simp; done)), (by first | assumption | omega | decide | (simp; done)), rfl⟩ (xa_cons (xe_var 0) (xa_cons (xe_var 1) (xa_cons (xe_var 2) xa_nil))))
    case k_1 =>
      show XSs _ _ [.dat (emb (chain : (List Int))), .dat (emb (heap : (List Int))), .dat (.int n), .junk, .junk, .junk, .junk, .junk] _
      extract_lets +onlyGivenNames -merge rows_1 at hq0
      have hx_rows_1 : rows_1 = (((rng 0 (Int.toNat n)).map (fun x_1 => ((repL ([(0 : Int)]) (chain.length : Int)) : (List Int)))) : (List (List Int))) := rfl
      clear_value rows_1
      have hr1 : Rect rows_1 n.toNat chain.length := by rw [hx_rows_1]; have q := rect_new (rng 0 (Int.toNat n)) (0 : Int) (chain.length : Int); rw [rng_len] at q; exact q
      refine' xss_setLmE hx_rows_1 3 [("_", 6)] ?t_2 rfl sc_by_need.nd ?k_2
      case t_2 => exact (xlmE (emb : Int → PyData) (fun x_1 => ((repL ([(0 : Int)]) (chain.length : Int)) : (List Int))) (xi_range1 (by exact ⟨by omega, by omega⟩) T.b_range (xe_var 2)) rfl sc_by_need.nd (by rw [rng_len]; omega) (xg_name 6 sc_by_need.nd) (by decide) (fun _ _ => Nat.le_of_ble_eq_true rfl) (fun x_1 hm_x_1 => (xn_repI (xs := [(0 : Int)]) (by exact ⟨by omega, by omega, by simp; omega⟩) (XN.xe (xn_lst (xa_cons xe_int xa_nil))) (XE.to (xe_lenL T.b_len (xe_var 0)) (by rw [List.length_map])))))
      case k_2 =>
        show XSs _ _ [.dat (emb (chain : (List Int))), .dat (emb (heap : (List Int))), .dat (.int n), .own (.mat (embM rows_1)), .junk, .junk, .junk, .junk] _
        extract_lets +onlyGivenNames -merge sums_1 at hq0
        have hx_sums_1 : sums_1 = ((repL ([(0 : Int)]) n) : (List Int)) := rfl
        clear_value sums_1
        have hs1 : sums_1.length = n.toNat := by rw [hx_sums_1]; exact repL_len _ _
        refine' xss_setNE hx_sums_1 4 sc_by_need.nd ?t_3 ?k_3
        case t_3 => exact (xn_repI (xs := [(0 : Int)]) (by exact ⟨by omega, by omega, by simp; omega⟩) (XN.xe (xn_lst (xa_cons xe_int xa_nil))) (xe_var 2))
        case k_3 =>
          show XSs _ _ [.dat (emb (chain : (List Int))), .dat (emb (heap : (List Int))), .dat (.int n), .own (.mat (embM rows_1)), .own (.lst (sums_1.map (emb : Int → PyData))), .junk, .junk, .junk] _
          extract_lets +onlyGivenNames -merge fin_2 at hq0
          have hF1 : fin_2 = (rngC ((chain.length : Int) - (1 : Int)) (-1) (Int.toNat (((chain.length : Int) - (1 : Int)) - (-(1 : Int))))).foldl (bd_by_need_1 chain heap) (T2.mk rows_1 sums_1) := rfl
          clear_value fin_2
          refine' xss_forS (emb : Int → PyData) (fun (s1 : (T2 (List (List Int)) (List Int))) => ([.dat (emb (chain : (List Int))), .dat (emb (heap : (List Int))), .dat (.int n), .own (.mat (embM s1.p0)), .own (.lst (s1.p1.map (emb : Int → PyData))), .junk, .junk, .junk] : Evm)) (bd_by_need_1 chain heap) (T2.mk rows_1 sums_1) hF1 ?i_4 rfl (xgc_name 5 sc_by_need.nd) (Le.cs (Le.cs (Le.cs (Le.cs (Le.cs (Le.cj (Le.cj (Le.cj Le.nil)))))))) (fun i1 x1 s1 hx1 hist1 => ?tn_4) ?k_4
          case i_4 => exact (xi_range3 (RgC.neg (by first | assumption | omega | decide | (simp; done)) (by first | assumption | omega | decide | (simp; done)) (by first | assumption | omega | decide | (simp; done)) (by first | assumption | omega | decide | (simp; done))) T.b_range (xe_sub (XE.to (xe_lenL T.b_len (xe_var 0)) (by rw [List.length_map])) xe_int) (xe_neg xe_int) (xe_neg xe_int))
          case tn_4 =>
            refine ⟨by exact Nat.le_of_ble_eq_true rfl, ?_⟩
            obtain ⟨q1, hk1⟩ : ∃ q, q = (bd_by_need_1 chain heap) s1 x1 := ⟨_, rfl⟩
            have hq1 := hk1
            unfold bd_by_need_1 at hq1
            have hx1m := mem_down (List.mem_of_getElem? hx1)
            have hI := by_need_inv hist1 ⟨hr1, hs1⟩
            have hhk := hh.at_ hx1m
            show XSs _ _ [.dat (emb (chain : (List Int))), .dat (emb (heap : (List Int))), .dat (.int n), .own (.mat (embM s1.p0)), .own (.lst (s1.p1.map (emb : Int → PyData))), .dat (.int x1), .junk, .junk] _
            extract_lets +onlyGivenNames -merge fin_1 at hq1
            have hF2 : fin_1 = (rng 0 (Int.toNat (getI heap x1))).foldl (bd_by_need_2 chain x1) (T2.mk s1.p0 s1.p1) := rfl
            clear_value fin_1
            refine' xss_forS (emb : Int → PyData) (fun (s2 : (T2 (List (List Int)) (List Int))) => ([.dat (emb (chain : (List Int))), .dat (emb (heap : (List Int))), .dat (.int n), .own (.mat (embM s2.p0)), .own (.lst (s2.p1.map (emb : Int → PyData))), .dat (.int x1), .junk, .junk] : Evm)) (bd_by_need_2 chain x1) (T2.mk s1.p0 s1.p1) hF2 ?i_5 rfl (xgc_name 6 sc_by_need.nd) (Le.cs (Le.cs (Le.cs (Le.cs (Le.cs (Le.cs (Le.cj (Le.cj Le.nil)))))))) (fun i2 x2 s2 hx2 hist2 => ?tn_5) ?k_5
            case i_5 => exact (xi_range1 (by exact ⟨by omega, by omega⟩) T.b_range (xe_ixI (xs := heap) (by exact ⟨by omega, by omega⟩) (xe_var 1) (xe_var 5)))
            case tn_5 =>
              refine ⟨by exact Nat.le_of_ble_eq_true rfl, ?_⟩
              obtain ⟨q2, hk2⟩ : ∃ q, q = (bd_by_need_2 chain x1) s2 x2 := ⟨_, rfl⟩
              have hq2 := hk2
              unfold bd_by_need_2 at hq2
              have hI2 := by_need_inv2 hist2 hI
              have h21 := hI2.1.1
              have h22 := hI2.2
              obtain ⟨hl1, hl2, hl3, hl4⟩ := least_lt (show 1 ≤ n.toNat by omega) h22
              have hrw := hI2.1.row (a := neediest s2.p1) ⟨hl3, by omega⟩
              show XSs _ _ [.dat (emb (chain : (List Int))), .dat (emb (heap : (List Int))), .dat (.int n), .own (.mat (embM s2.p0)), .own (.lst (s2.p1.map (emb : Int → PyData))), .dat (.int x1), .dat (.int x2), .junk] _
              extract_lets +onlyGivenNames -merge person_1 at hq2
              have hx_person_1 : person_1 = ((neediest s2.p1) : Int) := rfl
              clear_value person_1
              rw [← hx_person_1] at hl3 hl4 hrw
              refine' xss_setE hx_person_1 7 sc_by_need.nd ?t_6 ?k_6
              case t_6 => exact (xe_tmp 4 (xe_call D_neediest (Nat.le_of_ble_eq_true rfl) rfl ⟨s2.p1, rfl, (by omega), rfl⟩ (xa_cons (xe_var 4) xa_nil)))
              case k_6 =>
                show XSs _ _ [.dat (emb (chain : (List Int))), .dat (emb (heap : (List Int))), .dat (.int n), .own (.mat (embM s2.p0)), .own (.lst (s2.p1.map (emb : Int → PyData))), .dat (.int x1), .dat (.int x2), .dat (.int person_1)] _
                extract_lets +onlyGivenNames -merge rows_2 at hq2
                have hx_rows_2 : rows_2 = ((setM s2.p0 person_1 x1 (getI (mRow s2.p0 person_1) x1 + (1 : Int))) : (List (List Int))) := rfl
                clear_value rows_2
                refine' xss_addME hx_rows_2 3 (by exact ⟨hl3, by omega⟩) (by exact ⟨by omega, by omega⟩) ?t_7 ?a_7 ?b_7 ?k_7
                case t_7 => exact (xe_var 7)
                case a_7 => exact (xe_var 5)
                case b_7 => exact xe_int
                case k_7 =>
                  show XSs _ _ [.dat (emb (chain : (List Int))), .dat (emb (heap : (List Int))), .dat (.int n), .own (.mat (embM rows_2)), .own (.lst (s2.p1.map (emb : Int → PyData))), .dat (.int x1), .dat (.int x2), .dat (.int person_1)] _
                  extract_lets +onlyGivenNames -merge sums_2 at hq2
                  have hx_sums_2 : sums_2 = ((setI s2.p1 person_1 (getI s2.p1 person_1 + (getI chain x1))) : (List Int)) := rfl
                  clear_value sums_2
                  refine' xss_addiE hx_sums_2 4 (by exact ⟨by omega, by omega⟩) ?t_8 ?a_8 ?k_8
                  case t_8 => exact (xe_var 7)
                  case a_8 => exact (xe_ixI (xs := chain) (by exact ⟨by omega, by omega⟩) (xe_var 0) (xe_var 5))
                  case k_8 =>
                    show XSs _ _ [.dat (emb (chain : (List Int))), .dat (emb (heap : (List Int))), .dat (.int n), .own (.mat (embM rows_2)), .own (.lst (sums_2.map (emb : Int → PyData))), .dat (.int x1), .dat (.int x2), .dat (.int person_1)] _
                    exact xss_nil (by rw [← hk2, hq2]; exact (Le.cs (Le.cs (Le.cs (Le.cs (Le.cs (Le.cs (Le.cj (Le.cj Le.nil)))))))))
            case k_5 =>
              show XSs _ _ [.dat (emb (chain : (List Int))), .dat (emb (heap : (List Int))), .dat (.int n), .own (.mat (embM fin_1.p0)), .own (.lst (fin_1.p1.map (emb : Int → PyData))), .dat (.int x1), .junk, .junk] _
              exact xss_nil (by rw [← hk1, hq1]; exact (Le.cs (Le.cs (Le.cs (Le.cs (Le.cs (Le.cj (Le.cj (Le.cj Le.nil)))))))))
          case k_4 =>
            show XSs _ _ [.dat (emb (chain : (List Int))), .dat (emb (heap : (List Int))), .dat (.int n), .own (.mat (embM fin_2.p0)), .own (.lst (fin_2.p1.map (emb : Int → PyData))), .junk, .junk, .junk] _
            refine xss_frzME 3 ?_
            refine xss_ret (d := (emb (fin_2.p0 : (List (List Int))))) ?_ (by rw [hq0]; try rfl)
            exact (xe_var 3)
/-! ### worths -/
def R_worths : List PyData → Except Exn PyData → Prop := fun ds r => ∃ (chain : (List Int)) (rows : (List (List Int))), ds = [(emb (chain : (List Int))), (emb (rows : (List (List Int))))] ∧ (Few chain) ∧ (rows.length ≤ 1000) ∧ r = .ok (emb ((worths chain rows) : (List Int)))
theorem sc_worths : FnScope ["chain", "rows", "row"] ["chain", "rows"] (defScope (top 49)) := ⟨rfl, rfl, rfl, by decide +kernel, rfl, by decide +kernel, by decide +kernel⟩
theorem ok_worths {G : Gc} (T : Tx G) (D_worth_of : DefD G "worth_of" 1 ["chain", "heap"] R_worth_of) {f : Addr} {fd : FuncData} (F : Fun G.K "worths" "worths" (top 49) f fd) : FnOk G.P G.w G.K G.mg G.base (L2.CX G.P G.w) 2 f fd ["chain", "rows"] (SpD G R_worths) := by
  have hSz := sizeLine_eq
  refine def_body F sc_worths (fun ds r h => ?_) (by decide) (fun ds r h => ?_)
  · obtain ⟨_, _, rfl, _⟩ := h; rfl
  · obtain ⟨chain, rows, rfl, hc, hr, rfl⟩ := h
    obtain ⟨q0, hk0⟩ : ∃ q, q = (worths chain rows) := ⟨_, rfl⟩
    rw [← hk0]
    have hq0 := hk0
    unfold worths at hq0
    show XSs _ _ [.dat (emb (chain : (List Int))), .dat (emb (rows : (List (List Int)))), .junk] _
    refine xss_ret (d := (emb ((rows.map (fun row_1 => ((worth_of chain row_1) : Int))) : (List Int)))) ?_ (by rw [hq0]; try rfl)
    exact (XN.xe (xn_lc [("row", 2)] (xlc_map (emb : (List Int) → PyData) (fun row_1 => ((worth_of chain row_1) : Int)) (xi_list (xe_var 1)) rfl sc_worths.nd (by first | assumption | omega | decide | (simp; done)) (xg_name 2 sc_worths.nd) (by decide) (fun _ _ => Nat.le_of_ble_eq_true rfl) (fun row_1 hm_row_1 => (xe_call D_worth_of (Nat.le_of_ble_eq_true rfl) rfl ⟨chain, row_1, rfl, (by first | assumption | omega | decide | (simp; done)), rfl⟩ (xa_cons (xe_var 0) (xa_cons (xe_var 2) xa_nil))))) rfl sc_worths.nd))
/-! ### gap -/
def R_gap : List PyData → Except Exn PyData → Prop := fun ds r => ∃ (chain : (List Int)) (rows : (List (List Int))), ds = [(emb (chain : (List Int))), (emb (rows : (List (List Int))))] ∧ (Few chain) ∧ (1 ≤ rows.length ∧ rows.length ≤ 1000) ∧ r = .ok (.int (gap chain rows))
theorem sc_gap : FnScope ["chain", "rows", "found"] ["chain", "rows"] (defScope (top 50)) := ⟨rfl, rfl, rfl, by decide +kernel, rfl, by decide +kernel, by decide +kernel⟩
theorem ok_gap {G : Gc} (T : Tx G) (D_worths : DefD G "worths" 2 ["chain", "rows"] R_worths) {f : Addr} {fd : FuncData} (F : Fun G.K "gap" "gap" (top 50) f fd) : FnOk G.P G.w G.K G.mg G.base (L2.CX G.P G.w) 3 f fd ["chain", "rows"] (SpD G R_gap) := by
  have hSz := sizeLine_eq
  refine def_body F sc_gap (fun ds r h => ?_) (by decide) (fun ds r h => ?_)
  · obtain ⟨_, _, rfl, _⟩ := h; rfl
  · obtain ⟨chain, rows, rfl, hc, hr, rfl⟩ := h
    obtain ⟨q0, hk0⟩ : ∃ q, q = (gap chain rows) := ⟨_, rfl⟩
    rw [← hk0]
    have hq0 := hk0
    unfold gap at hq0
    show XSs _ _ [.dat (emb (chain : (List Int))), .dat (emb (rows : (List (List Int)))), .junk] _
    extract_lets +onlyGivenNames -merge found_1 at hq0
    have hx_found_1 : found_1 = ((worths chain rows) : (List Int)) := rfl
    clear_value found_1
    have hf0 : found_1 ≠ [] := by rw [hx_found_1]; unfold worths; intro e; have := congrArg List.length e; rw [List.length_map] at this; have : ([] : List Int).length = 0 := rfl; omega
    refine' xss_setE hx_found_1 2 sc_gap.nd ?t_1 ?k_1
    case t_1 => exact (xe_call D_worths (Nat.le_of_ble_eq_true rfl) rfl ⟨chain, rows, rfl, (by first | assumption | omega | decide | (simp; done)), (by first | assumption | omega | decide | (simp; done)), rfl⟩ (xa_cons (xe_var 0) (xa_cons (xe_var 1) xa_nil)))
    case k_1 =>
      show XSs _ _ [.dat (emb (chain : (List Int))), .dat (emb (rows : (List (List Int)))), .dat (emb (found_1 : (List Int)))] _
      refine xss_ret (d := (.int ((lmax found_1) - (lmin found_1)))) ?_ (by rw [hq0]; try rfl)
      exact (xe_sub (xe_max (by first | assumption | omega | decide | (simp; done)) rfl T.b_max (xe_var 2)) (xe_min (by first | assumption | omega | decide | (simp; done)) rfl T.b_min (xe_var 2)))
/-! ### check_weights -/
def R_check_weights : List PyData → Except Exn PyData → Prop := fun ds r => ∃ (value : (List Int)), ds = [(emb (value : (List Int)))] ∧ (Weights value) ∧ r = .ok (emb ((check_weights value) : Unit))
theorem sc_check_weights : FnScope ["value", "weight"] ["value"] (defScope (top 53)) := ⟨rfl, rfl, rfl, by decide +kernel, rfl, by decide +kernel, by decide +kernel⟩
theorem ok_check_weights {G : Gc} (T : Tx G) (D_is_from_to : DefD G "is_from_to" 2 ["value", "least", "most"] R_is_from_to) {f : Addr} {fd : FuncData} (F : Fun G.K "check_weights" "check_weights" (top 53) f fd) : FnOk G.P G.w G.K G.mg G.base (L2.CX G.P G.w) 3 f fd ["value"] (SpD G R_check_weights) := by
  have hSz := sizeLine_eq
  refine def_body F sc_check_weights (fun ds r h => ?_) (by decide) (fun ds r h => ?_)
  · obtain ⟨_, rfl, _⟩ := h; rfl
  · obtain ⟨value, rfl, hw, rfl⟩ := h
    obtain ⟨q0, hk0⟩ : ∃ q, q = (check_weights value) := ⟨_, rfl⟩
    rw [← hk0]
    have hq0 := hk0
    unfold check_weights at hq0
    have hw1 := hw.1
    have hw2 := hw.2.1
    show XSs _ _ [.dat (emb (value : (List Int))), .junk] _
    refine' xss_if (k := ((!true) || (!(decide ((2 : Int) ≤ (value.length : Int)) && decide ((value.length : Int) ≤ (8 : Int)))))) ?t_1 (fun hb2 => ?a_1) (fun hb2 => ?b_1)
    case t_1 => exact (XW.pt (xw_or (xt_not (xt_val (xe_isi (d := (emb (value : (List Int)))) (n := "list") (k := true) rfl (kit_c (t := "list") rfl (by decide +kernel)) T.b_isinstance T.b_list (by decide +kernel) (xe_var 0)))) (fun hs1 => (xw_or1 (xt_not (xt_lele (xe_globI T.c_FEWEST) (XE.to (xe_lenL T.b_len (xe_var 0)) (by rw [List.length_map])) (xe_globI T.c_MOST)))))))
    case a_1 =>
      have hp2 := hb2
      try simp only [Bool.and_eq_true, Bool.or_eq_true, Bool.not_eq_true', Bool.not_eq_false', Bool.or_eq_false_iff, Bool.and_eq_false_iff, decide_eq_true_eq, decide_eq_false_iff_not, Bool.not_eq_true, Bool.not_eq_false] at hp2
      exact False.elim (by exact weights_dead1 hw hb2)
    case b_1 =>
      have hp2 := hb2
      try simp only [Bool.and_eq_true, Bool.or_eq_true, Bool.not_eq_true', Bool.not_eq_false', Bool.or_eq_false_iff, Bool.and_eq_false_iff, decide_eq_true_eq, decide_eq_false_iff_not, Bool.not_eq_true, Bool.not_eq_false] at hp2
      refine xss_nil ?_
      show XSs _ _ [.dat (emb (value : (List Int))), .junk] _
      refine' xss_if (k := (!((value.map (fun weight_1 => ((is_from_to weight_1 (1 : Int) (100 : Int)) : Bool))).all id))) ?t_2 (fun hb3 => ?a_2) (fun hb3 => ?b_2)
      case t_2 => exact (xt_not (xt_val (xe_all rfl T.b_all (XN.xe (xn_lc [("weight", 1)] (xlc_map (emb : Int → PyData) (fun weight_1 => ((is_from_to weight_1 (1 : Int) (100 : Int)) : Bool)) (xi_list (xe_var 0)) rfl sc_check_weights.nd (by first | assumption | omega | decide | (simp; done)) (xg_name 1 sc_check_weights.nd) (by decide) (fun _ _ => Nat.le_of_ble_eq_true rfl) (fun weight_1 hm_weight_1 => (xe_call D_is_from_to (Nat.le_of_ble_eq_true rfl) rfl ⟨weight_1, (1 : Int), (100 : Int), rfl, rfl⟩ (xa_cons (xe_var 1) (xa_cons xe_int (xa_cons (xe_globI T.c_GREATEST_WEIGHT) xa_nil)))))) rfl sc_check_weights.nd)))))
      case a_2 =>
        have hp3 := hb3
        try simp only [Bool.and_eq_true, Bool.or_eq_true, Bool.not_eq_true', Bool.not_eq_false', Bool.or_eq_false_iff, Bool.and_eq_false_iff, decide_eq_true_eq, decide_eq_false_iff_not, Bool.not_eq_true, Bool.not_eq_false] at hp3
        exact False.elim (by exact weights_dead2 hw hb3)
      case b_2 =>
        have hp3 := hb3
        try simp only [Bool.and_eq_true, Bool.or_eq_true, Bool.not_eq_true', Bool.not_eq_false', Bool.or_eq_false_iff, Bool.and_eq_false_iff, decide_eq_true_eq, decide_eq_false_iff_not, Bool.not_eq_true, Bool.not_eq_false] at hp3
        refine xss_nil ?_
        show XSs _ _ [.dat (emb (value : (List Int))), .junk] _
        exact xss_nil (by rw [hq0]; rfl)
/-! ### amounts_of -/
def R_amounts_of : List PyData → Except Exn PyData → Prop := fun ds r => ∃ (worth : Int) (weights : (List Int)), ds = [(.int worth), (emb (weights : (List Int)))] ∧ (Weights weights) ∧ r = .ok (emb ((amounts_of worth weights) : (Option (List Int))))
theorem sc_amounts_of : FnScope ["worth", "weights", "total", "weight"] ["worth", "weights"] (defScope (top 54)) := ⟨rfl, rfl, rfl, by decide +kernel, rfl, by decide +kernel, by decide +kernel⟩
theorem ok_amounts_of {G : Gc} (T : Tx G) {f : Addr} {fd : FuncData} (F : Fun G.K "amounts_of" "amounts_of" (top 54) f fd) : FnOk G.P G.w G.K G.mg G.base (L2.CX G.P G.w) 1 f fd ["worth", "weights"] (SpD G R_amounts_of) := by
  have hSz := sizeLine_eq
  refine def_body F sc_amounts_of (fun ds r h => ?_) (by decide) (fun ds r h => ?_)
  · obtain ⟨_, _, rfl, _⟩ := h; rfl
  · obtain ⟨worth, weights, rfl, hw, rfl⟩ := h
    obtain ⟨q0, hk0⟩ : ∃ q, q = (amounts_of worth weights) := ⟨_, rfl⟩
    rw [← hk0]
    have hq0 := hk0
    unfold amounts_of at hq0
    have hw1 := hw.2.1
    show XSs _ _ [.dat (.int worth), .dat (emb (weights : (List Int))), .junk, .junk] _
    extract_lets +onlyGivenNames -merge total_1 at hq0
    have hx_total_1 : total_1 = ((weights.sum) : Int) := rfl
    clear_value total_1
    have ht := weights_sum hw
    rw [← hx_total_1] at ht
    refine' xss_setE hx_total_1 2 sc_amounts_of.nd ?t_1 ?k_1
    case t_1 => exact (xe_sum rfl T.b_sum (xe_var 1))
    case k_1 =>
      show XSs _ _ [.dat (.int worth), .dat (emb (weights : (List Int))), .dat (.int total_1), .junk] _
      refine' xss_if (k := (!((weights.map (fun weight_1 => ((decide (((worth * weight_1) % total_1) = (0 : Int))) : Bool))).all id))) ?t_2 (fun hb1 => ?a_2) (fun hb1 => ?b_2)
      case t_2 => exact (xt_not (xt_val (xe_all rfl T.b_all (XN.xe (xn_lc [("weight", 3)] (xlc_map (emb : Int → PyData) (fun weight_1 => ((decide (((worth * weight_1) % total_1) = (0 : Int))) : Bool)) (xi_list (xe_var 1)) rfl sc_amounts_of.nd (by first | assumption | omega | decide | (simp; done)) (xg_name 3 sc_amounts_of.nd) (by decide) (fun _ _ => Nat.le_of_ble_eq_true rfl) (fun weight_1 hm_weight_1 => (xe_eqI (xe_mod (by first | assumption | omega | decide | (simp; done)) (xe_mul (by have := hw.2.2 _ hm_weight_1; exact .inr ⟨by omega, by omega⟩) (xe_var 0) (xe_var 3)) (xe_var 2)) xe_int))) rfl sc_amounts_of.nd)))))
      case a_2 =>
        have hp1 := hb1
        try simp only [Bool.and_eq_true, Bool.or_eq_true, Bool.not_eq_true', Bool.not_eq_false', Bool.or_eq_false_iff, Bool.and_eq_false_iff, decide_eq_true_eq, decide_eq_false_iff_not, Bool.not_eq_true, Bool.not_eq_false] at hp1
        rw [if_pos hb1] at hq0
        refine xss_ret (d := (emb ((none : (Option (List Int))) : (Option (List Int))))) ?_ (by rw [hq0]; try rfl)
        exact xe_non
      case b_2 =>
        have hp1 := hb1
        try simp only [Bool.and_eq_true, Bool.or_eq_true, Bool.not_eq_true', Bool.not_eq_false', Bool.or_eq_false_iff, Bool.and_eq_false_iff, decide_eq_true_eq, decide_eq_false_iff_not, Bool.not_eq_true, Bool.not_eq_false] at hp1
        rw [if_neg (by rw [hb1]; exact Bool.false_ne_true)] at hq0
        refine xss_nil ?_
        show XSs _ _ [.dat (.int worth), .dat (emb (weights : (List Int))), .dat (.int total_1), .junk] _
        refine xss_ret (d := (emb ((some (weights.map (fun weight_2 => (((worth * weight_2) / total_1) : Int)))) : (Option (List Int))))) ?_ (by rw [hq0]; try rfl)
        exact (XN.xe (xn_lc [("weight", 3)] (xlc_map (emb : Int → PyData) (fun weight_2 => (((worth * weight_2) / total_1) : Int)) (xi_list (xe_var 1)) rfl sc_amounts_of.nd (by first | assumption | omega | decide | (simp; done)) (xg_name 3 sc_amounts_of.nd) (by decide) (fun _ _ => Nat.le_of_ble_eq_true rfl) (fun weight_2 hm_weight_2 => (xe_div (by exact ⟨by omega, by omega⟩) (xe_mul (by have := hw.2.2 _ hm_weight_2; exact .inr ⟨by omega, by omega⟩) (xe_var 0) (xe_var 3)) (xe_var 2)))) rfl sc_amounts_of.nd))
/-! ### parts -/
def R_parts : List PyData → Except Exn PyData → Prop := fun ds r => ∃ (chain : (List Int)) (heap : (List Int)) (weights : (List Int)), ds = [(emb (chain : (List Int))), (emb (heap : (List Int))), (emb (weights : (List Int)))] ∧ (Chain chain) ∧ (Pile chain heap) ∧ (Weights weights) ∧ r = .ok (emb ((parts chain heap weights) : (Option (List Int))))
theorem sc_parts : FnScope ["chain", "heap", "weights"] ["chain", "heap", "weights"] (defScope (top 55)) := ⟨rfl, rfl, rfl, by decide +kernel, rfl, by decide +kernel, by decide +kernel⟩
theorem ok_parts {G : Gc} (T : Tx G) (D_check_heap : DefD G "check_heap" 5 ["chain", "value"] R_check_heap) (D_check_weights : DefD G "check_weights" 3 ["value"] R_check_weights) (D_worth_of : DefD G "worth_of" 1 ["chain", "heap"] R_worth_of) (D_amounts_of : DefD G "amounts_of" 1 ["worth", "weights"] R_amounts_of) {f : Addr} {fd : FuncData} (F : Fun G.K "parts" "parts" (top 55) f fd) : FnOk G.P G.w G.K G.mg G.base (L2.CX G.P G.w) 6 f fd ["chain", "heap", "weights"] (SpD G R_parts) := by
  have hSz := sizeLine_eq
  refine def_body F sc_parts (fun ds r h => ?_) (by decide) (fun ds r h => ?_)
  · obtain ⟨_, _, _, rfl, _⟩ := h; rfl
  · obtain ⟨chain, heap, weights, rfl, hc, hh, hw, rfl⟩ := h
    obtain ⟨q0, hk0⟩ : ∃ q, q = (parts chain heap weights) := ⟨_, rfl⟩
    rw [← hk0]
    have hq0 := hk0
    unfold parts at hq0
    show XSs _ _ [.dat (emb (chain : (List Int))), .dat (emb (heap : (List Int))), .dat (emb (weights : (List Int)))] _
    refine' xss_expr (d := .none) ?t_1 ?k_1
    case t_1 => exact (xe_call D_check_heap (Nat.le_of_ble_eq_true rfl) rfl ⟨chain, heap, rfl, (by first | assumption | omega | decide | (simp; done)), (by first | assumption | omega | decide | (simp; done)), rfl⟩ (xa_cons (xe_var 0) (xa_cons (xe_var 1) xa_nil)))
    case k_1 =>
      show XSs _ _ [.dat (emb (chain : (List Int))), .dat (emb (heap : (List Int))), .dat (emb (weights : (List Int)))] _
      refine' xss_expr (d := .none) ?t_2 ?k_2
      case t_2 => exact (xe_call D_check_weights (Nat.le_of_ble_eq_true rfl) rfl ⟨weights, rfl, (by first | assumption | omega | decide | (simp; done)), rfl⟩ (xa_cons (xe_var 2) xa_nil))
      case k_2 =>
        show XSs _ _ [.dat (emb (chain : (List Int))), .dat (emb (heap : (List Int))), .dat (emb (weights : (List Int)))] _
        refine xss_ret (d := (emb ((amounts_of (worth_of chain heap) weights) : (Option (List Int))))) ?_ (by rw [hq0]; try rfl)
        exact (xe_call D_amounts_of (Nat.le_of_ble_eq_true rfl) rfl ⟨(worth_of chain heap), weights, rfl, (by first | assumption | omega | decide | (simp; done)), rfl⟩ (xa_cons (xe_call D_worth_of (Nat.le_of_ble_eq_true rfl) rfl ⟨chain, heap, rfl, (by exact hc.few), rfl⟩ (xa_cons (xe_var 0) (xa_cons (xe_var 1) xa_nil))) (xa_cons (xe_var 2) xa_nil)))
/-! ### weighed -/
def R_weighed : List PyData → Except Exn PyData → Prop := fun ds r => ∃ (chain : (List Int)) (heap : (List Int)) (weights : (List Int)), ds = [(emb (chain : (List Int))), (emb (heap : (List Int))), (emb (weights : (List Int)))] ∧ (Chain chain) ∧ (Pile chain heap) ∧ (Weights weights) ∧ r = .ok (emb ((weighed chain heap weights) : (Option (List (List Int)))))
theorem sc_weighed : FnScope ["chain", "heap", "weights", "amounts", "found"] ["chain", "heap", "weights"] (defScope (top 56)) := ⟨rfl, rfl, rfl, by decide +kernel, rfl, by decide +kernel, by decide +kernel⟩
theorem ok_weighed {G : Gc} (T : Tx G) (D_parts : DefD G "parts" 6 ["chain", "heap", "weights"] R_parts) (D_told_answer : DefD G "told_answer" 5 ["chain", "heap", "amounts"] R_told_answer) {f : Addr} {fd : FuncData} (F : Fun G.K "weighed" "weighed" (top 56) f fd) : FnOk G.P G.w G.K G.mg G.base (L2.CX G.P G.w) 7 f fd ["chain", "heap", "weights"] (SpD G R_weighed) := by
  have hSz := sizeLine_eq
  refine def_body F sc_weighed (fun ds r h => ?_) (by decide) (fun ds r h => ?_)
  · obtain ⟨_, _, _, rfl, _⟩ := h; rfl
  · obtain ⟨chain, heap, weights, rfl, hc, hh, hw, rfl⟩ := h
    obtain ⟨q0, hk0⟩ : ∃ q, q = (weighed chain heap weights) := ⟨_, rfl⟩
    rw [← hk0]
    have hq0 := hk0
    unfold weighed at hq0
    show XSs _ _ [.dat (emb (chain : (List Int))), .dat (emb (heap : (List Int))), .dat (emb (weights : (List Int))), .junk, .junk] _
    extract_lets +onlyGivenNames -merge amounts_1 at hq0
    have hx_amounts_1 : amounts_1 = ((parts chain heap weights) : (Option (List Int))) := rfl
    clear_value amounts_1
    refine' xss_setE hx_amounts_1 3 sc_weighed.nd ?t_1 ?k_1
    case t_1 => exact (xe_call D_parts (Nat.le_of_ble_eq_true rfl) rfl ⟨chain, heap, weights, rfl, (by first | assumption | omega | decide | (simp; done)), (by first | assumption | omega | decide | (simp; done)), (by first | assumption | omega | decide | (simp; done)), rfl⟩ (xa_cons (xe_var 0) (xa_cons (xe_var 1) (xa_cons (xe_var 2) xa_nil))))
    case k_1 =>
      show XSs _ _ [.dat (emb (chain : (List Int))), .dat (emb (heap : (List Int))), .dat (emb (weights : (List Int))), .dat (emb (amounts_1 : (Option (List Int)))), .junk] _
      refine' xss_if (k := (amounts_1.isNone)) ?t_2 (fun hb1 => ?a_2) (fun hb1 => ?b_2)
      case t_2 => exact (xt_isNO (xe_var 3))
      case a_2 =>
        have hp1 := hb1
        try simp only [Bool.and_eq_true, Bool.or_eq_true, Bool.not_eq_true', Bool.not_eq_false', Bool.or_eq_false_iff, Bool.and_eq_false_iff, decide_eq_true_eq, decide_eq_false_iff_not, Bool.not_eq_true, Bool.not_eq_false] at hp1
        rw [if_pos hb1] at hq0
        refine xss_ret (d := (emb ((none : (Option (List (List Int)))) : (Option (List (List Int)))))) ?_ (by rw [hq0]; try rfl)
        exact xe_non
      case b_2 =>
        have hp1 := hb1
        try simp only [Bool.and_eq_true, Bool.or_eq_true, Bool.not_eq_true', Bool.not_eq_false', Bool.or_eq_false_iff, Bool.and_eq_false_iff, decide_eq_true_eq, decide_eq_false_iff_not, Bool.not_eq_true, Bool.not_eq_false] at hp1
        rw [if_neg (by rw [hb1]; exact Bool.false_ne_true)] at hq0
        refine xss_nil ?_
        show XSs _ _ [.dat (emb (chain : (List Int))), .dat (emb (heap : (List Int))), .dat (emb (weights : (List Int))), .dat (emb (amounts_1 : (Option (List Int)))), .junk] _
        extract_lets +onlyGivenNames -merge found_1 at hq0
        have hx_found_1 : found_1 = ((told_answer chain heap (og amounts_1)) : (Sum (T4 Str Int Int Int) (T2 Str (List (List Int))))) := rfl
        clear_value found_1
        refine' xss_setE hx_found_1 4 sc_weighed.nd ?t_3 ?k_3
        case t_3 => exact (xe_call D_told_answer (Nat.le_of_ble_eq_true rfl) rfl ⟨chain, heap, (og amounts_1), rfl, (by first | assumption | omega | decide | (simp; done)), (by first | assumption | omega | decide | (simp; done)), (by exact amounts_len hx_amounts_1 hw hb1), rfl⟩ (xa_cons (xe_var 0) (xa_cons (xe_var 1) (xa_cons (XE.to (xe_var 3) (og_emb (o := amounts_1) (by revert hb1; generalize amounts_1 = o_; cases o_ <;> simp))) xa_nil))))
        case k_3 =>
          show XSs _ _ [.dat (emb (chain : (List Int))), .dat (emb (heap : (List Int))), .dat (emb (weights : (List Int))), .dat (emb (amounts_1 : (Option (List Int)))), .dat (emb (found_1 : (Sum (T4 Str Int Int Int) (T2 Str (List (List Int))))))] _
          refine xss_ret (d := (emb ((if (decide ((Sum.elim (fun t => t.p0) (fun t => t.p0) found_1) = ("payments" : Str))) = true then (some ((ur found_1).p1)) else (none : (Option (List (List Int))))) : (Option (List (List Int)))))) ?_ (by rw [hq0]; try rfl)
          exact (xe_if (k := (decide ((Sum.elim (fun t => t.p0) (fun t => t.p0) found_1) = ("payments" : Str)))) (xt_eqS (xe_ixU (d := (emb (found_1 : (Sum (T4 Str Int Int Int) (T2 Str (List (List Int))))))) (z := (.str (Sum.elim (fun t => t.p0) (fun t => t.p0) found_1))) (by generalize found_1 = u_; cases u_ <;> rfl) (by generalize found_1 = u_; cases u_ <;> rfl) (xe_var 4) xe_int) xe_str) (fun hc1 => XE.to (xe_ixT rfl (XE.to (xe_var 4) (ur_emb (by exact told_right hx_found_1 hc1))) xe_int) (by rw [if_pos hc1]; try rfl)) (fun hc1 => XE.to xe_non (by rw [if_neg (by rw [hc1]; exact Bool.false_ne_true)]; try rfl)))
/-! ### _law_numbers -/
def R_law_numbers : List PyData → Except Exn PyData → Prop := fun ds r => ∃ (script : List Int) (at_ : Int) (many : Int), ds = [(scrD script), (.int at_), (.int many)] ∧ (0 ≤ at_) ∧ (0 ≤ many ∧ many ≤ 1000) ∧ r = .ok (emb ((law_numbers script at_ many) : (List Int)))
theorem sc_law_numbers : FnScope ["script", "at", "many", "cell", "numbers", "k", "mixed"] ["script", "at", "many"] (defScope (top 58)) := ⟨rfl, rfl, rfl, by decide +kernel, rfl, by decide +kernel, by decide +kernel⟩
theorem ok_law_numbers {G : Gc} (T : Tx G) {f : Addr} {fd : FuncData} (F : Fun G.K "_law_numbers" "_law_numbers" (top 58) f fd) : FnOk G.P G.w G.K G.mg G.base (L2.CX G.P G.w) 1 f fd ["script", "at", "many"] (SpD G R_law_numbers) := by
  have hSz := sizeLine_eq
  refine def_body F sc_law_numbers (fun ds r h => ?_) (by decide) (fun ds r h => ?_)
  · obtain ⟨_, _, _, rfl, _⟩ := h; rfl
  · obtain ⟨script, at_, many, rfl, ha, hm, rfl⟩ := h
    obtain ⟨q0, hk0⟩ : ∃ q, q = (law_numbers script at_ many) := ⟨_, rfl⟩
    rw [← hk0]
    have hq0 := hk0
    unfold law_numbers at hq0
    show XSs _ _ [.dat (scrD script), .dat (.int at_), .dat (.int many), .junk, .junk, .junk, .junk] _
    extract_lets +onlyGivenNames -merge cell_1 at hq0
    have hx_cell_1 : cell_1 = (((1000003 : Int) * (at_ + (1 : Int))) : Int) := rfl
    clear_value cell_1
    refine' xss_setE hx_cell_1 3 sc_law_numbers.nd ?t_1 ?k_1
    case t_1 => exact (xe_mul (by exact .inl ⟨by decide, by decide⟩) xe_int (xe_add (xe_var 1) xe_int))
    case k_1 =>
      show XSs _ _ [.dat (scrD script), .dat (.int at_), .dat (.int many), .dat (.int cell_1), .junk, .junk, .junk] _
      extract_lets +onlyGivenNames -merge cell_2 at hq0
      have hx_cell_2 : cell_2 = (if (decide (at_ < (script.length : Int))) = true then (getI script at_) else cell_1 : Int) := rfl
      clear_value cell_2
      refine' xss_ifJ (k := (decide (at_ < (script.length : Int)))) [.dat (scrD script), .dat (.int at_), .dat (.int many), .dat (.int cell_2), .junk, .junk, .junk] ?t_2 (fun hb1 => ?a_2) (fun hb1 => ?b_2) ?k_2
      case t_2 => exact (xt_lt (xe_var 1) (xe_lenScr T.b_len (xe_var 0)))
      case a_2 =>
        have hp1 := hb1
        try simp only [Bool.and_eq_true, Bool.or_eq_true, Bool.not_eq_true', Bool.not_eq_false', Bool.or_eq_false_iff, Bool.and_eq_false_iff, decide_eq_true_eq, decide_eq_false_iff_not, Bool.not_eq_true, Bool.not_eq_false] at hp1
        rw [if_pos hb1] at hx_cell_2
        rw [hx_cell_2]
        refine xss_setE (v := (getI script at_)) rfl 3 sc_law_numbers.nd ?_ ?_
        · exact (xe_intI T.b_int (xe_ixR (by exact ⟨by omega, by omega⟩) (xe_var 0) (xe_var 1)))
        exact xss_nil (Le.cs (Le.cs (Le.cs (Le.cs (Le.cj (Le.cj (Le.cj Le.nil)))))))
      case b_2 =>
        have hp1 := hb1
        try simp only [Bool.and_eq_true, Bool.or_eq_true, Bool.not_eq_true', Bool.not_eq_false', Bool.or_eq_false_iff, Bool.and_eq_false_iff, decide_eq_true_eq, decide_eq_false_iff_not, Bool.not_eq_true, Bool.not_eq_false] at hp1
        rw [if_neg (by rw [hb1]; exact Bool.false_ne_true)] at hx_cell_2
        rw [hx_cell_2]
        exact xss_nil (Le.cs (Le.cs (Le.cs (Le.cs (Le.cj (Le.cj (Le.cj Le.nil)))))))
      case k_2 =>
        extract_lets +onlyGivenNames -merge cell_3 at hq0
        have hx_cell_3 : cell_3 = (if (decide (cell_2 < (0 : Int))) = true then ((1 : Int) - ((2 : Int) * cell_2)) else cell_2 : Int) := rfl
        clear_value cell_3
        refine' xss_ifJ (k := (decide (cell_2 < (0 : Int)))) [.dat (scrD script), .dat (.int at_), .dat (.int many), .dat (.int cell_3), .junk, .junk, .junk] ?t_3 (fun hb2 => ?a_3) (fun hb2 => ?b_3) ?k_3
        case t_3 => exact (xt_lt (xe_var 3) xe_int)
        case a_3 =>
          have hp2 := hb2
          try simp only [Bool.and_eq_true, Bool.or_eq_true, Bool.not_eq_true', Bool.not_eq_false', Bool.or_eq_false_iff, Bool.and_eq_false_iff, decide_eq_true_eq, decide_eq_false_iff_not, Bool.not_eq_true, Bool.not_eq_false] at hp2
          rw [if_pos hb2] at hx_cell_3
          rw [hx_cell_3]
          refine xss_setE (v := ((1 : Int) - ((2 : Int) * cell_2))) rfl 3 sc_law_numbers.nd ?_ ?_
          · exact (xe_sub xe_int (xe_mul (by exact .inl ⟨by decide, by decide⟩) xe_int (xe_var 3)))
          exact xss_nil (Le.cs (Le.cs (Le.cs (Le.cs (Le.cj (Le.cj (Le.cj Le.nil)))))))
        case b_3 =>
          have hp2 := hb2
          try simp only [Bool.and_eq_true, Bool.or_eq_true, Bool.not_eq_true', Bool.not_eq_false', Bool.or_eq_false_iff, Bool.and_eq_false_iff, decide_eq_true_eq, decide_eq_false_iff_not, Bool.not_eq_true, Bool.not_eq_false] at hp2
          rw [if_neg (by rw [hb2]; exact Bool.false_ne_true)] at hx_cell_3
          rw [hx_cell_3]
          exact xss_nil (Le.cs (Le.cs (Le.cs (Le.cs (Le.cj (Le.cj (Le.cj Le.nil)))))))
        case k_3 =>
          extract_lets +onlyGivenNames -merge numbers_1 at hq0
          have hx_numbers_1 : numbers_1 = (([] : (List Int)) : (List Int)) := rfl
          clear_value numbers_1
          refine' xss_setNE hx_numbers_1 4 sc_law_numbers.nd ?t_4 ?k_4
          case t_4 => exact (xn_lst xa_nil)
          case k_4 =>
            show XSs _ _ [.dat (scrD script), .dat (.int at_), .dat (.int many), .dat (.int cell_3), .own (.lst (numbers_1.map (emb : Int → PyData))), .junk, .junk] _
            extract_lets +onlyGivenNames -merge fin_1 at hq0
            have hF1 : fin_1 = (rng 0 (Int.toNat many)).foldl (bd_law_numbers_1 at_) (T2.mk numbers_1 cell_3) := rfl
            clear_value fin_1
            refine' xss_forS (emb : Int → PyData) (fun (s1 : (T2 (List Int) Int)) => ([.dat (scrD script), .dat (.int at_), .dat (.int many), .dat (.int s1.p1), .own (.lst (s1.p0.map (emb : Int → PyData))), .junk, .junk] : Evm)) (bd_law_numbers_1 at_) (T2.mk numbers_1 cell_3) hF1 ?i_5 rfl (xgc_name 5 sc_law_numbers.nd) (Le.cs (Le.cs (Le.cs (Le.cs (Le.cs (Le.cj (Le.cj Le.nil))))))) (fun i1 x1 s1 hx1 hist1 => ?tn_5) ?k_5
            case i_5 => exact (xi_range1 (by exact ⟨by omega, by omega⟩) T.b_range (xe_var 2))
            case tn_5 =>
              refine ⟨by exact Nat.le_of_ble_eq_true rfl, ?_⟩
              obtain ⟨q1, hk1⟩ : ∃ q, q = (bd_law_numbers_1 at_) s1 x1 := ⟨_, rfl⟩
              have hq1 := hk1
              unfold bd_law_numbers_1 at hq1
              show XSs _ _ [.dat (scrD script), .dat (.int at_), .dat (.int many), .dat (.int s1.p1), .own (.lst (s1.p0.map (emb : Int → PyData))), .dat (.int x1), .junk] _
              extract_lets +onlyGivenNames -merge numbers_2 at hq1
              have hx_numbers_2 : numbers_2 = (if (decide (((10 : Int) ^ (Int.toNat (18 : Int))) ≤ s1.p1)) = true then (s1.p0 ++ [(s1.p1 % (1009 : Int))]) else (s1.p0 ++ [(((((((((s1.p1 * (48271 : Int)) + ((x1 + (1 : Int)) * (69621 : Int))) + (at_ * (4001 : Int))) % (2147483647 : Int)) * ((((s1.p1 * (48271 : Int)) + ((x1 + (1 : Int)) * (69621 : Int))) + (at_ * (4001 : Int))) % (2147483647 : Int))) + ((16807 : Int) * (x1 + (3 : Int)))) % (2147483629 : Int)) / (7 : Int)) % (1009 : Int))]) : (List Int)) := rfl
              clear_value numbers_2
              extract_lets +onlyGivenNames -merge cell_4 at hq1
              have hx_cell_4 : cell_4 = (if (decide (((10 : Int) ^ (Int.toNat (18 : Int))) ≤ s1.p1)) = true then (s1.p1 / (1009 : Int)) else s1.p1 : Int) := rfl
              clear_value cell_4
              refine' xss_ifJ (k := (decide (((10 : Int) ^ (Int.toNat (18 : Int))) ≤ s1.p1))) [.dat (scrD script), .dat (.int at_), .dat (.int many), .dat (.int cell_4), .own (.lst (numbers_2.map (emb : Int → PyData))), .dat (.int x1), .junk] ?t_6 (fun hb3 => ?a_6) (fun hb3 => ?b_6) ?k_6
              case t_6 => exact (xt_ge (xe_var 3) (xe_pow (by exact ⟨by decide, by decide, by decide⟩) xe_int xe_int))
              case a_6 =>
                have hp3 := hb3
                try simp only [Bool.and_eq_true, Bool.or_eq_true, Bool.not_eq_true', Bool.not_eq_false', Bool.or_eq_false_iff, Bool.and_eq_false_iff, decide_eq_true_eq, decide_eq_false_iff_not, Bool.not_eq_true, Bool.not_eq_false] at hp3
                rw [if_pos hb3] at hx_numbers_2
                rw [if_pos hb3] at hx_cell_4
                rw [hx_numbers_2]
                rw [hx_cell_4]
                refine xss_appE (v := (s1.p0 ++ [(s1.p1 % (1009 : Int))])) rfl 4 (by exact ln_app hist1 hx_numbers_1 hm) ?_ ?_
                · exact (xe_mod (by decide) (xe_var 3) xe_int)
                refine xss_setE (v := (s1.p1 / (1009 : Int))) rfl 3 sc_law_numbers.nd ?_ ?_
                · exact (xe_div (by exact ⟨by decide, by decide⟩) (xe_var 3) xe_int)
                exact xss_nil (Le.cs (Le.cs (Le.cs (Le.cs (Le.cs (Le.cs (Le.cj Le.nil)))))))
              case b_6 =>
                have hp3 := hb3
                try simp only [Bool.and_eq_true, Bool.or_eq_true, Bool.not_eq_true', Bool.not_eq_false', Bool.or_eq_false_iff, Bool.and_eq_false_iff, decide_eq_true_eq, decide_eq_false_iff_not, Bool.not_eq_true, Bool.not_eq_false] at hp3
                rw [if_neg (by rw [hb3]; exact Bool.false_ne_true)] at hx_numbers_2
                rw [if_neg (by rw [hb3]; exact Bool.false_ne_true)] at hx_cell_4
                rw [hx_numbers_2]
                rw [hx_cell_4]
                refine xss_setE (v := ((((s1.p1 * (48271 : Int)) + ((x1 + (1 : Int)) * (69621 : Int))) + (at_ * (4001 : Int))) % (2147483647 : Int))) rfl 6 sc_law_numbers.nd ?_ ?_
                · exact (xe_mod (by decide) (xe_add (xe_add (xe_mul (by exact .inr ⟨by decide, by decide⟩) (xe_var 3) xe_int) (xe_mul (by exact .inr ⟨by decide, by decide⟩) (xe_add (xe_var 5) xe_int) xe_int)) (xe_mul (by exact .inr ⟨by decide, by decide⟩) (xe_var 1) xe_int)) xe_int)
                refine xss_setE (v := (((((((s1.p1 * (48271 : Int)) + ((x1 + (1 : Int)) * (69621 : Int))) + (at_ * (4001 : Int))) % (2147483647 : Int)) * ((((s1.p1 * (48271 : Int)) + ((x1 + (1 : Int)) * (69621 : Int))) + (at_ * (4001 : Int))) % (2147483647 : Int))) + ((16807 : Int) * (x1 + (3 : Int)))) % (2147483629 : Int))) rfl 6 sc_law_numbers.nd ?_ ?_
                · exact (xe_mod (by decide) (xe_add (xe_mul (by exact .inl ⟨by omega, by omega⟩) (xe_var 6) (xe_var 6)) (xe_mul (by exact .inl ⟨by decide, by decide⟩) xe_int (xe_add (xe_var 5) xe_int))) xe_int)
                refine xss_appE (v := (s1.p0 ++ [(((((((((s1.p1 * (48271 : Int)) + ((x1 + (1 : Int)) * (69621 : Int))) + (at_ * (4001 : Int))) % (2147483647 : Int)) * ((((s1.p1 * (48271 : Int)) + ((x1 + (1 : Int)) * (69621 : Int))) + (at_ * (4001 : Int))) % (2147483647 : Int))) + ((16807 : Int) * (x1 + (3 : Int)))) % (2147483629 : Int)) / (7 : Int)) % (1009 : Int))])) rfl 4 (by exact ln_app hist1 hx_numbers_1 hm) ?_ ?_
                · exact (xe_mod (by decide) (xe_div (by exact ⟨by decide, by decide⟩) (xe_var 6) xe_int) xe_int)
                exact xss_nil (Le.cs (Le.cs (Le.cs (Le.cs (Le.cs (Le.cs (Le.cj Le.nil)))))))
              case k_6 =>
                exact xss_nil (by rw [← hk1, hq1]; exact (Le.cs (Le.cs (Le.cs (Le.cs (Le.cs (Le.cj (Le.cj Le.nil))))))))
            case k_5 =>
              show XSs _ _ [.dat (scrD script), .dat (.int at_), .dat (.int many), .dat (.int fin_1.p1), .own (.lst (fin_1.p0.map (emb : Int → PyData))), .junk, .junk] _
              refine xss_frz 4 ?_
              refine xss_ret (d := (emb (fin_1.p0 : (List Int)))) ?_ (by rw [hq0]; try rfl)
              exact (xe_var 4)
/-! ### _law_is_integer -/
def R_law_is_integer : List PyData → Except Exn PyData → Prop := fun ds r => ∃ (value : Int), ds = [(.int value)] ∧ r = .ok (.bool (law_is_integer value))
theorem sc_law_is_integer : FnScope ["value"] ["value"] (defScope (top 59)) := ⟨rfl, rfl, rfl, by decide +kernel, rfl, by decide +kernel, by decide +kernel⟩
theorem ok_law_is_integer {G : Gc} (T : Tx G) {f : Addr} {fd : FuncData} (F : Fun G.K "_law_is_integer" "_law_is_integer" (top 59) f fd) : FnOk G.P G.w G.K G.mg G.base (L2.CX G.P G.w) 1 f fd ["value"] (SpD G R_law_is_integer) := by
  have hSz := sizeLine_eq
  refine def_body F sc_law_is_integer (fun ds r h => ?_) (by decide) (fun ds r h => ?_)
  · obtain ⟨_, rfl, _⟩ := h; rfl
  · obtain ⟨value, rfl, rfl⟩ := h
    obtain ⟨q0, hk0⟩ : ∃ q, q = (law_is_integer value) := ⟨_, rfl⟩
    rw [← hk0]
    have hq0 := hk0
    unfold law_is_integer at hq0
    show XSs _ _ [.dat (.int value)] _
    refine xss_ret (d := (.bool (true && (!false)))) ?_ (by rw [hq0]; try rfl)
    exact (xe_and (xe_isi (d := (.int value)) (n := "int") (k := true) rfl (kit_c (t := "int") rfl (by decide +kernel)) T.b_isinstance T.b_int (by decide +kernel) (xe_var 0)) (fun hs1 => (xe_one (xe_not (xe_isi (d := (.int value)) (n := "bool") (k := false) rfl (kit_c (t := "int") rfl (by decide +kernel)) T.b_isinstance T.b_bool (by decide +kernel) (xe_var 0))))))
/-! ### _law_chain -/
def R_law_chain : List PyData → Except Exn PyData → Prop := fun ds r => ∃ (script : List Int) (at_ : Int) (most : Int), ds = [(scrD script), (.int at_), (.int most)] ∧ (0 ≤ at_) ∧ (2 ≤ most ∧ most ≤ 8) ∧ r = .ok (emb ((law_chain script at_ most) : (List Int)))
theorem sc_law_chain : FnScope ["script", "at", "most", "numbers", "chain", "k"] ["script", "at", "most"] (defScope (top 60)) := ⟨rfl, rfl, rfl, by decide +kernel, rfl, by decide +kernel, by decide +kernel⟩
theorem ok_law_chain {G : Gc} (T : Tx G) (D__law_numbers : DefD G "_law_numbers" 1 ["script", "at", "many"] R_law_numbers) {f : Addr} {fd : FuncData} (F : Fun G.K "_law_chain" "_law_chain" (top 60) f fd) : FnOk G.P G.w G.K G.mg G.base (L2.CX G.P G.w) 2 f fd ["script", "at", "most"] (SpD G R_law_chain) := by
  have hSz := sizeLine_eq
  refine def_body F sc_law_chain (fun ds r h => ?_) (by decide) (fun ds r h => ?_)
  · obtain ⟨_, _, _, rfl, _⟩ := h; rfl
  · obtain ⟨script, at_, most, rfl, ha, hm, rfl⟩ := h
    obtain ⟨q0, hk0⟩ : ∃ q, q = (law_chain script at_ most) := ⟨_, rfl⟩
    rw [← hk0]
    have hq0 := hk0
    unfold law_chain at hq0
    show XSs _ _ [.dat (scrD script), .dat (.int at_), .dat (.int most), .junk, .junk, .junk] _
    extract_lets +onlyGivenNames -merge numbers_1 at hq0
    have hx_numbers_1 : numbers_1 = ((law_numbers script at_ (12 : Int)) : (List Int)) := rfl
    clear_value numbers_1
    have hnl : numbers_1.length = 12 := by rw [hx_numbers_1]; exact numbers_len ..
    have hnb : ∀ n ∈ numbers_1, 0 ≤ n ∧ n < 1009 := by rw [hx_numbers_1]; exact numbers_bd _ _ _
    have hng := numbers_get (m := 12) hnl hnb
    refine' xss_setE hx_numbers_1 3 sc_law_chain.nd ?t_1 ?k_1
    case t_1 => exact (xe_call D__law_numbers (Nat.le_of_ble_eq_true rfl) rfl ⟨script, at_, (12 : Int), rfl, (by first | assumption | omega | decide | (simp; done)), (by first | assumption | omega | decide | (simp; done)), rfl⟩ (xa_cons (xe_var 0) (xa_cons (xe_var 1) (xa_cons xe_int xa_nil))))
    case k_1 =>
      show XSs _ _ [.dat (scrD script), .dat (.int at_), .dat (.int most), .dat (emb (numbers_1 : (List Int))), .junk, .junk] _
      extract_lets +onlyGivenNames -merge chain_1 at hq0
      have hx_chain_1 : chain_1 = ([((1 : Int) + ((getI numbers_1 (0 : Int)) % (3 : Int)))] : (List Int)) := rfl
      clear_value chain_1
      have hq1 := Int.emod_nonneg (getI numbers_1 (1 : Int)) (show most - 1 ≠ 0 by omega)
      have hq2 := Int.emod_lt_of_pos (getI numbers_1 (1 : Int)) (show 0 < most - 1 by omega)
      refine' xss_setNE hx_chain_1 4 sc_law_chain.nd ?t_2 ?k_2
      case t_2 => exact (xn_lst (xa_cons (xe_add xe_int (xe_mod (by decide) (xe_ixI (xs := numbers_1) (by first | assumption | omega | decide | (simp; done)) (xe_var 3) xe_int) xe_int)) xa_nil))
      case k_2 =>
        show XSs _ _ [.dat (scrD script), .dat (.int at_), .dat (.int most), .dat (emb (numbers_1 : (List Int))), .own (.lst (chain_1.map (emb : Int → PyData))), .junk] _
        extract_lets +onlyGivenNames -merge fin_1 at hq0
        have hF1 : fin_1 = (rng 0 (Int.toNat ((1 : Int) + ((getI numbers_1 (1 : Int)) % (most - (1 : Int)))))).foldl (bd_law_chain_1 numbers_1) chain_1 := rfl
        clear_value fin_1
        refine' xss_forS (emb : Int → PyData) (fun (s1 : (List Int)) => ([.dat (scrD script), .dat (.int at_), .dat (.int most), .dat (emb (numbers_1 : (List Int))), .own (.lst (s1.map (emb : Int → PyData))), .junk] : Evm)) (bd_law_chain_1 numbers_1) chain_1 hF1 ?i_3 rfl (xgc_name 5 sc_law_chain.nd) (Le.cs (Le.cs (Le.cs (Le.cs (Le.cs (Le.cj Le.nil)))))) (fun i1 x1 s1 hx1 hist1 => ?tn_3) ?k_3
        case i_3 => exact (xi_range1 (by exact ⟨by omega, by omega⟩) T.b_range (xe_add xe_int (xe_mod (by first | assumption | omega | decide | (simp; done)) (xe_ixI (xs := numbers_1) (by first | assumption | omega | decide | (simp; done)) (xe_var 3) xe_int) (xe_sub (xe_var 2) xe_int))))
        case tn_3 =>
          refine ⟨by exact Nat.le_of_ble_eq_true rfl, ?_⟩
          obtain ⟨q1, hk1⟩ : ∃ q, q = (bd_law_chain_1 numbers_1) s1 x1 := ⟨_, rfl⟩
          have hq1 := hk1
          unfold bd_law_chain_1 at hq1
          rw [hx_chain_1] at hist1
          have hl := law_chain_app hist1 (by omega)
          have hxr := mem_rng (List.mem_of_getElem? hx1)
          show XSs _ _ [.dat (scrD script), .dat (.int at_), .dat (.int most), .dat (emb (numbers_1 : (List Int))), .own (.lst (s1.map (emb : Int → PyData))), .dat (.int x1)] _
          extract_lets +onlyGivenNames -merge chain_2 at hq1
          have hx_chain_2 : chain_2 = ((s1 ++ [((getI s1 (-(1 : Int))) * ((2 : Int) + ((getI numbers_1 ((2 : Int) + x1)) % (4 : Int))))]) : (List Int)) := rfl
          clear_value chain_2
          refine' xss_appE hx_chain_2 4 (by first | assumption | omega | decide | (simp; done)) ?t_4 ?k_4
          case t_4 => exact (xe_tmp 4 (xe_mul (by have := Int.emod_nonneg (getI numbers_1 ((2 : Int) + x1)) (show (4 : Int) ≠ 0 by decide); have := Int.emod_lt_of_pos (getI numbers_1 ((2 : Int) + x1)) (show (0 : Int) < 4 by decide); exact .inr ⟨by omega, by omega⟩) (xe_ixI (xs := s1) (by exact ⟨by omega, by omega⟩) (xe_var 4) (xe_neg xe_int)) (xe_add xe_int (xe_mod (by decide) (xe_ixI (xs := numbers_1) (by exact ⟨by omega, by omega⟩) (xe_var 3) (xe_add xe_int (xe_var 5))) xe_int))))
          case k_4 =>
            show XSs _ _ [.dat (scrD script), .dat (.int at_), .dat (.int most), .dat (emb (numbers_1 : (List Int))), .own (.lst (chain_2.map (emb : Int → PyData))), .dat (.int x1)] _
            exact xss_nil (by rw [← hk1, hq1]; exact (Le.cs (Le.cs (Le.cs (Le.cs (Le.cs (Le.cj Le.nil)))))))
        case k_3 =>
          show XSs _ _ [.dat (scrD script), .dat (.int at_), .dat (.int most), .dat (emb (numbers_1 : (List Int))), .own (.lst (fin_1.map (emb : Int → PyData))), .junk] _
          refine xss_frz 4 ?_
          refine xss_ret (d := (emb (fin_1 : (List Int)))) ?_ (by rw [hq0]; try rfl)
          exact (xe_var 4)
/-! ### _law_heap -/
def R_law_heap : List PyData → Except Exn PyData → Prop := fun ds r => ∃ (script : List Int) (at_ : Int) (chain : (List Int)) (most : Int), ds = [(scrD script), (.int at_), (emb (chain : (List Int))), (.int most)] ∧ (0 ≤ at_) ∧ (chain.length ≤ 1000) ∧ (0 ≤ most) ∧ r = .ok (emb ((law_heap script at_ chain most) : (List Int)))
theorem sc_law_heap : FnScope ["script", "at", "chain", "most", "number"] ["script", "at", "chain", "most"] (defScope (top 61)) := ⟨rfl, rfl, rfl, by decide +kernel, rfl, by decide +kernel, by decide +kernel⟩
theorem ok_law_heap {G : Gc} (T : Tx G) (D__law_numbers : DefD G "_law_numbers" 1 ["script", "at", "many"] R_law_numbers) {f : Addr} {fd : FuncData} (F : Fun G.K "_law_heap" "_law_heap" (top 61) f fd) : FnOk G.P G.w G.K G.mg G.base (L2.CX G.P G.w) 2 f fd ["script", "at", "chain", "most"] (SpD G R_law_heap) := by
  have hSz := sizeLine_eq
  refine def_body F sc_law_heap (fun ds r h => ?_) (by decide) (fun ds r h => ?_)
  · obtain ⟨_, _, _, _, rfl, _⟩ := h; rfl
  · obtain ⟨script, at_, chain, most, rfl, ha, hc, hm, rfl⟩ := h
    obtain ⟨q0, hk0⟩ : ∃ q, q = (law_heap script at_ chain most) := ⟨_, rfl⟩
    rw [← hk0]
    have hq0 := hk0
    unfold law_heap at hq0
    show XSs _ _ [.dat (scrD script), .dat (.int at_), .dat (emb (chain : (List Int))), .dat (.int most), .junk] _
    refine xss_ret (d := (emb (((law_numbers script at_ (chain.length : Int)).map (fun number_1 => ((number_1 % ((1 : Int) + most)) : Int))) : (List Int)))) ?_ (by rw [hq0]; try rfl)
    exact (XN.xe (xn_lc [("number", 4)] (xlc_map (emb : Int → PyData) (fun number_1 => ((number_1 % ((1 : Int) + most)) : Int)) (xi_list (xe_call D__law_numbers (Nat.le_of_ble_eq_true rfl) rfl ⟨script, at_, (chain.length : Int), rfl, (by first | assumption | omega | decide | (simp; done)), (by first | assumption | omega | decide | (simp; done)), rfl⟩ (xa_cons (xe_var 0) (xa_cons (xe_var 1) (xa_cons (XE.to (xe_lenL T.b_len (xe_var 2)) (by rw [List.length_map])) xa_nil))))) rfl sc_law_heap.nd (by rw [numbers_len]; omega) (xg_name 4 sc_law_heap.nd) (by decide) (fun _ _ => Nat.le_of_ble_eq_true rfl) (fun number_1 hm_number_1 => (xe_mod (by first | assumption | omega | decide | (simp; done)) (xe_var 4) (xe_add xe_int (xe_var 3))))) rfl sc_law_heap.nd))
/-! ### _law_worth -/
def R_law_worth : List PyData → Except Exn PyData → Prop := fun ds r => ∃ (chain : (List Int)) (heap : (List Int)), ds = [(emb (chain : (List Int))), (emb (heap : (List Int)))] ∧ (Few chain) ∧ (chain.length ≤ heap.length) ∧ r = .ok (.int (law_worth chain heap))
theorem sc_law_worth : FnScope ["chain", "heap", "k"] ["chain", "heap"] (defScope (top 62)) := ⟨rfl, rfl, rfl, by decide +kernel, rfl, by decide +kernel, by decide +kernel⟩
theorem ok_law_worth {G : Gc} (T : Tx G) {f : Addr} {fd : FuncData} (F : Fun G.K "_law_worth" "_law_worth" (top 62) f fd) : FnOk G.P G.w G.K G.mg G.base (L2.CX G.P G.w) 1 f fd ["chain", "heap"] (SpD G R_law_worth) := by
  have hSz := sizeLine_eq
  refine def_body F sc_law_worth (fun ds r h => ?_) (by decide) (fun ds r h => ?_)
  · obtain ⟨_, _, rfl, _⟩ := h; rfl
  · obtain ⟨chain, heap, rfl, hc, hl, rfl⟩ := h
    obtain ⟨q0, hk0⟩ : ∃ q, q = (law_worth chain heap) := ⟨_, rfl⟩
    rw [← hk0]
    have hq0 := hk0
    unfold law_worth at hq0
    have hc1 := hc.1
    show XSs _ _ [.dat (emb (chain : (List Int))), .dat (emb (heap : (List Int))), .junk] _
    refine xss_ret (d := (.int (((rng 0 (Int.toNat (chain.length : Int))).map (fun k_1 => (((getI chain k_1) * (getI heap k_1)) : Int))).sum))) ?_ (by rw [hq0]; try rfl)
    exact (xe_sum rfl T.b_sum (XN.xe (xn_lc [("k", 2)] (xlc_map (emb : Int → PyData) (fun k_1 => (((getI chain k_1) * (getI heap k_1)) : Int)) (xi_range1 (by exact ⟨by omega, by omega⟩) T.b_range (XE.to (xe_lenL T.b_len (xe_var 0)) (by rw [List.length_map]))) rfl sc_law_worth.nd (by rw [rng_len]; omega) (xg_name 2 sc_law_worth.nd) (by decide) (fun _ _ => Nat.le_of_ble_eq_true rfl) (fun k_1 hm_k_1 => (xe_mul (by have hv := mem_rng hm_k_1; have hc2 := hc.2 _ (getI_mem (xs := chain) (i := k_1) ⟨by omega, by omega⟩); exact .inl ⟨by omega, by omega⟩) (xe_ixI (xs := chain) (by have hv := mem_rng hm_k_1; exact ⟨by omega, by omega⟩) (xe_var 0) (xe_var 2)) (xe_ixI (xs := heap) (by have hv := mem_rng hm_k_1; exact ⟨by omega, by omega⟩) (xe_var 1) (xe_var 2))))) rfl sc_law_worth.nd)))
/-! ### _law_greater -/
def R_law_greater : List PyData → Except Exn PyData → Prop := fun ds r => ∃ (chain : (List Int)) (heap : (List Int)) (k : Int), ds = [(emb (chain : (List Int))), (emb (heap : (List Int))), (.int k)] ∧ (Few chain) ∧ (chain.length ≤ heap.length) ∧ (0 ≤ k ∧ k ≤ chain.length) ∧ r = .ok (.int (law_greater chain heap k))
theorem sc_law_greater : FnScope ["chain", "heap", "k", "j"] ["chain", "heap", "k"] (defScope (top 63)) := ⟨rfl, rfl, rfl, by decide +kernel, rfl, by decide +kernel, by decide +kernel⟩
theorem ok_law_greater {G : Gc} (T : Tx G) {f : Addr} {fd : FuncData} (F : Fun G.K "_law_greater" "_law_greater" (top 63) f fd) : FnOk G.P G.w G.K G.mg G.base (L2.CX G.P G.w) 1 f fd ["chain", "heap", "k"] (SpD G R_law_greater) := by
  have hSz := sizeLine_eq
  refine def_body F sc_law_greater (fun ds r h => ?_) (by decide) (fun ds r h => ?_)
  · obtain ⟨_, _, _, rfl, _⟩ := h; rfl
  · obtain ⟨chain, heap, k, rfl, hc, hl, hk, rfl⟩ := h
    obtain ⟨q0, hk0⟩ : ∃ q, q = (law_greater chain heap k) := ⟨_, rfl⟩
    rw [← hk0]
    have hq0 := hk0
    unfold law_greater at hq0
    have hc1 := hc.1
    show XSs _ _ [.dat (emb (chain : (List Int))), .dat (emb (heap : (List Int))), .dat (.int k), .junk] _
    refine xss_ret (d := (.int (((rng k (Int.toNat ((chain.length : Int) - k))).map (fun j_1 => (((getI chain j_1) * (getI heap j_1)) : Int))).sum))) ?_ (by rw [hq0]; try rfl)
    exact (xe_sum rfl T.b_sum (XN.xe (xn_lc [("j", 3)] (xlc_map (emb : Int → PyData) (fun j_1 => (((getI chain j_1) * (getI heap j_1)) : Int)) (xi_range2 (by exact ⟨by omega, by omega, by omega, by omega⟩) T.b_range (xe_var 2) (XE.to (xe_lenL T.b_len (xe_var 0)) (by rw [List.length_map]))) rfl sc_law_greater.nd (by rw [rng_len]; omega) (xg_name 3 sc_law_greater.nd) (by decide) (fun _ _ => Nat.le_of_ble_eq_true rfl) (fun j_1 hm_j_1 => (xe_mul (by have hv := mem_rng hm_j_1; have hc2 := hc.2 _ (getI_mem (xs := chain) (i := j_1) ⟨by omega, by omega⟩); exact .inl ⟨by omega, by omega⟩) (xe_ixI (xs := chain) (by have hv := mem_rng hm_j_1; exact ⟨by omega, by omega⟩) (xe_var 0) (xe_var 3)) (xe_ixI (xs := heap) (by have hv := mem_rng hm_j_1; exact ⟨by omega, by omega⟩) (xe_var 1) (xe_var 3))))) rfl sc_law_greater.nd)))
/-! ### _law_laid -/
def R_law_laid : List PyData → Except Exn PyData → Prop := fun ds r => ∃ (chain : (List Int)) (heap : (List Int)) (boxes : (List Int)), ds = [(emb (chain : (List Int))), (emb (heap : (List Int))), (emb (boxes : (List Int)))] ∧ (Chain chain) ∧ (Pile chain heap) ∧ (boxes.length ≤ 1000) ∧ r = .ok (emb ((law_laid chain heap boxes) : (List (List Int))))
theorem sc_law_laid : FnScope ["chain", "heap", "boxes", "left", "rows", "k", "count", "j", "hold", "number"] ["chain", "heap", "boxes"] (defScope (top 64)) := ⟨rfl, rfl, rfl, by decide +kernel, rfl, by decide +kernel, by decide +kernel⟩
theorem ok_law_laid {G : Gc} (T : Tx G) {f : Addr} {fd : FuncData} (F : Fun G.K "_law_laid" "_law_laid" (top 64) f fd) : FnOk G.P G.w G.K G.mg G.base (L2.CX G.P G.w) 1 f fd ["chain", "heap", "boxes"] (SpD G R_law_laid) := by
  have hSz := sizeLine_eq
  refine def_body F sc_law_laid (fun ds r h => ?_) (by decide) (fun ds r h => ?_)
  · obtain ⟨_, _, _, rfl, _⟩ := h; rfl
  · obtain ⟨chain, heap, boxes, rfl, hc, hh, ha, rfl⟩ := h
    obtain ⟨q0, hk0⟩ : ∃ q, q = (law_laid chain heap boxes) := ⟨_, rfl⟩
    rw [← hk0]
    have hq0 := hk0
    unfold law_laid at hq0
    have h8 := hc.l2
    have hhl := hh.1
    show XSs _ _ [.dat (emb (chain : (List Int))), .dat (emb (heap : (List Int))), .dat (emb (boxes : (List Int))), .junk, .junk, .junk, .junk, .junk, .junk, .junk] _
    extract_lets +onlyGivenNames -merge left_1 at hq0
    have hx_left_1 : left_1 = (boxes : (List Int)) := rfl
    clear_value left_1
    refine' xss_setNE hx_left_1 3 sc_law_laid.nd ?t_1 ?k_1
    case t_1 => exact (xn_list T.b_list (xe_var 2))
    case k_1 =>
      show XSs _ _ [.dat (emb (chain : (List Int))), .dat (emb (heap : (List Int))), .dat (emb (boxes : (List Int))), .own (.lst (left_1.map (emb : Int → PyData))), .junk, .junk, .junk, .junk, .junk, .junk] _
      extract_lets +onlyGivenNames -merge rows_1 at hq0
      have hx_rows_1 : rows_1 = ((boxes.map (fun hold_1 => ((repL ([(0 : Int)]) (chain.length : Int)) : (List Int)))) : (List (List Int))) := rfl
      clear_value rows_1
      have hr1 : Rect rows_1 boxes.length chain.length := by rw [hx_rows_1]; exact rect_new _ _ _
      refine' xss_setLmE hx_rows_1 4 [("hold", 8)] ?t_2 rfl sc_law_laid.nd ?k_2
      case t_2 => exact (xlmE (emb : Int → PyData) (fun hold_1 => ((repL ([(0 : Int)]) (chain.length : Int)) : (List Int))) (xi_list (xe_var 2)) rfl sc_law_laid.nd (by first | assumption | omega | decide | (simp; done)) (xg_name 8 sc_law_laid.nd) (by decide) (fun _ _ => Nat.le_of_ble_eq_true rfl) (fun hold_1 hm_hold_1 => (xn_repI (xs := [(0 : Int)]) (by exact ⟨by omega, by omega, by simp; omega⟩) (XN.xe (xn_lst (xa_cons xe_int xa_nil))) (XE.to (xe_lenL T.b_len (xe_var 0)) (by rw [List.length_map])))))
      case k_2 =>
        show XSs _ _ [.dat (emb (chain : (List Int))), .dat (emb (heap : (List Int))), .dat (emb (boxes : (List Int))), .own (.lst (left_1.map (emb : Int → PyData))), .own (.mat (embM rows_1)), .junk, .junk, .junk, .junk, .junk] _
        extract_lets +onlyGivenNames -merge fin_2 at hq0
        have hF1 : fin_2 = (rngC ((chain.length : Int) - (1 : Int)) (-1) (Int.toNat (((chain.length : Int) - (1 : Int)) - (-(1 : Int))))).foldl (bd_law_laid_1 chain heap boxes) (T2.mk rows_1 left_1) := rfl
        clear_value fin_2
        refine' xss_forS (emb : Int → PyData) (fun (s1 : (T2 (List (List Int)) (List Int))) => ([.dat (emb (chain : (List Int))), .dat (emb (heap : (List Int))), .dat (emb (boxes : (List Int))), .own (.lst (s1.p1.map (emb : Int → PyData))), .own (.mat (embM s1.p0)), .junk, .junk, .junk, .junk, .junk] : Evm)) (bd_law_laid_1 chain heap boxes) (T2.mk rows_1 left_1) hF1 ?i_3 rfl (xgc_name 5 sc_law_laid.nd) (Le.cs (Le.cs (Le.cs (Le.cs (Le.cs (Le.cj (Le.cj (Le.cj (Le.cj (Le.cj Le.nil)))))))))) (fun i1 x1 s1 hx1 hist1 => ?tn_3) ?k_3
        case i_3 => exact (xi_range3 (RgC.neg (by first | assumption | omega | decide | (simp; done)) (by first | assumption | omega | decide | (simp; done)) (by first | assumption | omega | decide | (simp; done)) (by first | assumption | omega | decide | (simp; done))) T.b_range (xe_sub (XE.to (xe_lenL T.b_len (xe_var 0)) (by rw [List.length_map])) xe_int) (xe_neg xe_int) (xe_neg xe_int))
        case tn_3 =>
          refine ⟨by exact Nat.le_of_ble_eq_true rfl, ?_⟩
          obtain ⟨q1, hk1⟩ : ∃ q, q = (bd_law_laid_1 chain heap boxes) s1 x1 := ⟨_, rfl⟩
          have hq1 := hk1
          unfold bd_law_laid_1 at hq1
          have hx1m := mem_down (List.mem_of_getElem? hx1)
          have hI := law_laid_inv hist1 ⟨hr1, by rw [hx_left_1]⟩
          have hck := hc.at_ hx1m
          show XSs _ _ [.dat (emb (chain : (List Int))), .dat (emb (heap : (List Int))), .dat (emb (boxes : (List Int))), .own (.lst (s1.p1.map (emb : Int → PyData))), .own (.mat (embM s1.p0)), .dat (.int x1), .junk, .junk, .junk, .junk] _
          extract_lets +onlyGivenNames -merge count_1 at hq1
          have hx_count_1 : count_1 = ((getI heap x1) : Int) := rfl
          clear_value count_1
          refine' xss_setE hx_count_1 6 sc_law_laid.nd ?t_4 ?k_4
          case t_4 => exact (xe_ixI (xs := heap) (by exact ⟨by omega, by omega⟩) (xe_var 1) (xe_var 5))
          case k_4 =>
            show XSs _ _ [.dat (emb (chain : (List Int))), .dat (emb (heap : (List Int))), .dat (emb (boxes : (List Int))), .own (.lst (s1.p1.map (emb : Int → PyData))), .own (.mat (embM s1.p0)), .dat (.int x1), .dat (.int count_1), .junk, .junk, .junk] _
            extract_lets +onlyGivenNames -merge fin_1 at hq1
            have hF2 : fin_1 = (rng 0 (Int.toNat (boxes.length : Int))).foldl (bd_law_laid_2 chain x1) (T3.mk s1.p0 count_1 s1.p1) := rfl
            clear_value fin_1
            refine' xss_forS (emb : Int → PyData) (fun (s2 : (T3 (List (List Int)) Int (List Int))) => ([.dat (emb (chain : (List Int))), .dat (emb (heap : (List Int))), .dat (emb (boxes : (List Int))), .own (.lst (s2.p2.map (emb : Int → PyData))), .own (.mat (embM s2.p0)), .dat (.int x1), .dat (.int s2.p1), .junk, .junk, .junk] : Evm)) (bd_law_laid_2 chain x1) (T3.mk s1.p0 count_1 s1.p1) hF2 ?i_5 rfl (xgc_name 7 sc_law_laid.nd) (Le.cs (Le.cs (Le.cs (Le.cs (Le.cs (Le.cs (Le.cs (Le.cj (Le.cj (Le.cj Le.nil)))))))))) (fun i2 x2 s2 hx2 hist2 => ?tn_5) ?k_5
            case i_5 => exact (xi_range1 (by exact ⟨by omega, by omega⟩) T.b_range (XE.to (xe_lenL T.b_len (xe_var 2)) (by rw [List.length_map])))
            case tn_5 =>
              refine ⟨by exact Nat.le_of_ble_eq_true rfl, ?_⟩
              obtain ⟨q2, hk2⟩ : ∃ q, q = (bd_law_laid_2 chain x1) s2 x2 := ⟨_, rfl⟩
              have hq2 := hk2
              unfold bd_law_laid_2 at hq2
              have hI2 := law_laid_inv2 hist2 hI
              have h21 := hI2.1.1
              have h22 := hI2.2
              have hx2m := mem_rng (List.mem_of_getElem? hx2)
              have hrw := hI2.1.row (a := x2) ⟨by omega, by omega⟩
              show XSs _ _ [.dat (emb (chain : (List Int))), .dat (emb (heap : (List Int))), .dat (emb (boxes : (List Int))), .own (.lst (s2.p2.map (emb : Int → PyData))), .own (.mat (embM s2.p0)), .dat (.int x1), .dat (.int s2.p1), .dat (.int x2), .junk, .junk] _
              extract_lets +onlyGivenNames -merge number_1 at hq2
              have hx_number_1 : number_1 = ((min s2.p1 ((getI s2.p2 x2) / (getI chain x1))) : Int) := rfl
              clear_value number_1
              refine' xss_setE hx_number_1 9 sc_law_laid.nd ?t_6 ?k_6
              case t_6 => exact (xe_tmp 3 (xe_min2 rfl T.b_min (xe_var 6) (xe_div (by exact ⟨by omega, by omega⟩) (xe_ixI (xs := s2.p2) (by exact ⟨by omega, by omega⟩) (xe_var 3) (xe_var 7)) (xe_ixI (xs := chain) (by exact ⟨by omega, by omega⟩) (xe_var 0) (xe_var 5)))))
              case k_6 =>
                show XSs _ _ [.dat (emb (chain : (List Int))), .dat (emb (heap : (List Int))), .dat (emb (boxes : (List Int))), .own (.lst (s2.p2.map (emb : Int → PyData))), .own (.mat (embM s2.p0)), .dat (.int x1), .dat (.int s2.p1), .dat (.int x2), .junk, .dat (.int number_1)] _
                extract_lets +onlyGivenNames -merge rows_2 at hq2
                have hx_rows_2 : rows_2 = ((setM s2.p0 x2 x1 number_1) : (List (List Int))) := rfl
                clear_value rows_2
                refine' xss_setME hx_rows_2 4 (by exact ⟨by omega, by omega⟩) (by exact ⟨by omega, by omega⟩) ?t_7 ?a_7 ?b_7 ?k_7
                case t_7 => exact (xe_var 9)
                case a_7 => exact (xe_var 7)
                case b_7 => exact (xe_var 5)
                case k_7 =>
                  show XSs _ _ [.dat (emb (chain : (List Int))), .dat (emb (heap : (List Int))), .dat (emb (boxes : (List Int))), .own (.lst (s2.p2.map (emb : Int → PyData))), .own (.mat (embM rows_2)), .dat (.int x1), .dat (.int s2.p1), .dat (.int x2), .junk, .dat (.int number_1)] _
                  extract_lets +onlyGivenNames -merge count_2 at hq2
                  have hx_count_2 : count_2 = ((s2.p1 - number_1) : Int) := rfl
                  clear_value count_2
                  refine' xss_setE hx_count_2 6 sc_law_laid.nd ?t_8 ?k_8
                  case t_8 => exact (xe_sub (xe_var 6) (xe_var 9))
                  case k_8 =>
                    show XSs _ _ [.dat (emb (chain : (List Int))), .dat (emb (heap : (List Int))), .dat (emb (boxes : (List Int))), .own (.lst (s2.p2.map (emb : Int → PyData))), .own (.mat (embM rows_2)), .dat (.int x1), .dat (.int count_2), .dat (.int x2), .junk, .dat (.int number_1)] _
                    extract_lets +onlyGivenNames -merge left_2 at hq2
                    have hx_left_2 : left_2 = ((setI s2.p2 x2 ((getI s2.p2 x2) - (number_1 * (getI chain x1)))) : (List Int)) := rfl
                    clear_value left_2
                    refine' xss_setiE hx_left_2 3 (by exact ⟨by omega, by omega⟩) ?t_9 ?a_9 ?k_9
                    case t_9 => exact (xe_tmp 3 (xe_sub (xe_ixI (xs := s2.p2) (by exact ⟨by omega, by omega⟩) (xe_var 3) (xe_var 7)) (xe_mul (by exact .inr ⟨by omega, by omega⟩) (xe_var 9) (xe_ixI (xs := chain) (by exact ⟨by omega, by omega⟩) (xe_var 0) (xe_var 5)))))
                    case a_9 => exact (xe_var 7)
                    case k_9 =>
                      show XSs _ _ [.dat (emb (chain : (List Int))), .dat (emb (heap : (List Int))), .dat (emb (boxes : (List Int))), .own (.lst (left_2.map (emb : Int → PyData))), .own (.mat (embM rows_2)), .dat (.int x1), .dat (.int count_2), .dat (.int x2), .junk, .dat (.int number_1)] _
                      exact xss_nil (by rw [← hk2, hq2]; exact (Le.cs (Le.cs (Le.cs (Le.cs (Le.cs (Le.cs (Le.cs (Le.cj (Le.cj (Le.cj Le.nil)))))))))))
            case k_5 =>
              show XSs _ _ [.dat (emb (chain : (List Int))), .dat (emb (heap : (List Int))), .dat (emb (boxes : (List Int))), .own (.lst (fin_1.p2.map (emb : Int → PyData))), .own (.mat (embM fin_1.p0)), .dat (.int x1), .dat (.int fin_1.p1), .junk, .junk, .junk] _
              exact xss_nil (by rw [← hk1, hq1]; exact (Le.cs (Le.cs (Le.cs (Le.cs (Le.cs (Le.cj (Le.cj (Le.cj (Le.cj (Le.cj Le.nil)))))))))))
        case k_3 =>
          show XSs _ _ [.dat (emb (chain : (List Int))), .dat (emb (heap : (List Int))), .dat (emb (boxes : (List Int))), .own (.lst (fin_2.p1.map (emb : Int → PyData))), .own (.mat (embM fin_2.p0)), .junk, .junk, .junk, .junk, .junk] _
          refine xss_frzME 4 ?_
          refine xss_ret (d := (emb (fin_2.p0 : (List (List Int))))) ?_ (by rw [hq0]; try rfl)
          exact (xe_var 4)
/-! ### _law_left -/
def R_law_left : List PyData → Except Exn PyData → Prop := fun ds r => ∃ (chain : (List Int)) (amounts : (List Int)) (k : Int), ds = [(emb (chain : (List Int))), (emb (amounts : (List Int))), (.int k)] ∧ (Chain chain) ∧ (0 ≤ k ∧ k ≤ chain.length) ∧ (amounts.length ≤ 1000) ∧ r = .ok (.int (law_left chain amounts k))
theorem sc_law_left : FnScope ["chain", "amounts", "k", "amount"] ["chain", "amounts", "k"] (defScope (top 65)) := ⟨rfl, rfl, rfl, by decide +kernel, rfl, by decide +kernel, by decide +kernel⟩
theorem ok_law_left {G : Gc} (T : Tx G) {f : Addr} {fd : FuncData} (F : Fun G.K "_law_left" "_law_left" (top 65) f fd) : FnOk G.P G.w G.K G.mg G.base (L2.CX G.P G.w) 1 f fd ["chain", "amounts", "k"] (SpD G R_law_left) := by
  have hSz := sizeLine_eq
  refine def_body F sc_law_left (fun ds r h => ?_) (by decide) (fun ds r h => ?_)
  · obtain ⟨_, _, _, rfl, _⟩ := h; rfl
  · obtain ⟨chain, amounts, k, rfl, hc, hk, ha, rfl⟩ := h
    obtain ⟨q0, hk0⟩ : ∃ q, q = (law_left chain amounts k) := ⟨_, rfl⟩
    rw [← hk0]
    have hq0 := hk0
    unfold law_left at hq0
    show XSs _ _ [.dat (emb (chain : (List Int))), .dat (emb (amounts : (List Int))), .dat (.int k), .junk] _
    refine' xss_if (k := (decide (k = (chain.length : Int)))) ?t_1 (fun hb1 => ?a_1) (fun hb1 => ?b_1)
    case t_1 => exact (xt_eqI (xe_var 2) (XE.to (xe_lenL T.b_len (xe_var 0)) (by rw [List.length_map])))
    case a_1 =>
      have hp1 := hb1
      try simp only [Bool.and_eq_true, Bool.or_eq_true, Bool.not_eq_true', Bool.not_eq_false', Bool.or_eq_false_iff, Bool.and_eq_false_iff, decide_eq_true_eq, decide_eq_false_iff_not, Bool.not_eq_true, Bool.not_eq_false] at hp1
      rw [if_pos hb1] at hq0
      refine xss_ret (d := (.int (amounts.sum))) ?_ (by rw [hq0]; try rfl)
      exact (xe_sum rfl T.b_sum (xe_var 1))
    case b_1 =>
      have hp1 := hb1
      try simp only [Bool.and_eq_true, Bool.or_eq_true, Bool.not_eq_true', Bool.not_eq_false', Bool.or_eq_false_iff, Bool.and_eq_false_iff, decide_eq_true_eq, decide_eq_false_iff_not, Bool.not_eq_true, Bool.not_eq_false] at hp1
      rw [if_neg (by rw [hb1]; exact Bool.false_ne_true)] at hq0
      refine xss_nil ?_
      show XSs _ _ [.dat (emb (chain : (List Int))), .dat (emb (amounts : (List Int))), .dat (.int k), .junk] _
      refine xss_ret (d := (.int ((amounts.map (fun amount_1 => ((amount_1 % (getI chain k)) : Int))).sum))) ?_ (by rw [hq0]; try rfl)
      exact (xe_sum rfl T.b_sum (XN.xe (xn_lc [("amount", 3)] (xlc_map (emb : Int → PyData) (fun amount_1 => ((amount_1 % (getI chain k)) : Int)) (xi_list (xe_var 1)) rfl sc_law_left.nd (by first | assumption | omega | decide | (simp; done)) (xg_name 3 sc_law_left.nd) (by decide) (fun _ _ => Nat.le_of_ble_eq_true rfl) (fun amount_1 hm_amount_1 => (xe_mod (by have := hc.at_ (k := k) ⟨by omega, by omega⟩; omega) (xe_var 3) (xe_ixI (xs := chain) (by exact ⟨by omega, by omega⟩) (xe_var 0) (xe_var 2))))) rfl sc_law_left.nd)))
/-! ### _law_lesser -/
def R_law_lesser : List PyData → Except Exn PyData → Prop := fun ds r => ∃ (chain : (List Int)) (heap : (List Int)) (k : Int), ds = [(emb (chain : (List Int))), (emb (heap : (List Int))), (.int k)] ∧ (Few chain) ∧ (chain.length ≤ heap.length) ∧ (0 ≤ k ∧ k ≤ chain.length) ∧ r = .ok (.int (law_lesser chain heap k))
theorem sc_law_lesser : FnScope ["chain", "heap", "k", "j"] ["chain", "heap", "k"] (defScope (top 66)) := ⟨rfl, rfl, rfl, by decide +kernel, rfl, by decide +kernel, by decide +kernel⟩
theorem ok_law_lesser {G : Gc} (T : Tx G) {f : Addr} {fd : FuncData} (F : Fun G.K "_law_lesser" "_law_lesser" (top 66) f fd) : FnOk G.P G.w G.K G.mg G.base (L2.CX G.P G.w) 1 f fd ["chain", "heap", "k"] (SpD G R_law_lesser) := by
  have hSz := sizeLine_eq
  refine def_body F sc_law_lesser (fun ds r h => ?_) (by decide) (fun ds r h => ?_)
  · obtain ⟨_, _, _, rfl, _⟩ := h; rfl
  · obtain ⟨chain, heap, k, rfl, hc, hl, hk, rfl⟩ := h
    obtain ⟨q0, hk0⟩ : ∃ q, q = (law_lesser chain heap k) := ⟨_, rfl⟩
    rw [← hk0]
    have hq0 := hk0
    unfold law_lesser at hq0
    have hc1 := hc.1
    show XSs _ _ [.dat (emb (chain : (List Int))), .dat (emb (heap : (List Int))), .dat (.int k), .junk] _
    refine xss_ret (d := (.int (((rng 0 (Int.toNat k)).map (fun j_1 => (((getI chain j_1) * (getI heap j_1)) : Int))).sum))) ?_ (by rw [hq0]; try rfl)
    exact (xe_sum rfl T.b_sum (XN.xe (xn_lc [("j", 3)] (xlc_map (emb : Int → PyData) (fun j_1 => (((getI chain j_1) * (getI heap j_1)) : Int)) (xi_range1 (by exact ⟨by omega, by omega⟩) T.b_range (xe_var 2)) rfl sc_law_lesser.nd (by rw [rng_len]; omega) (xg_name 3 sc_law_lesser.nd) (by decide) (fun _ _ => Nat.le_of_ble_eq_true rfl) (fun j_1 hm_j_1 => (xe_mul (by have hv := mem_rng hm_j_1; have hc2 := hc.2 _ (getI_mem (xs := chain) (i := j_1) ⟨by omega, by omega⟩); exact .inl ⟨by omega, by omega⟩) (xe_ixI (xs := chain) (by have hv := mem_rng hm_j_1; exact ⟨by omega, by omega⟩) (xe_var 0) (xe_var 3)) (xe_ixI (xs := heap) (by have hv := mem_rng hm_j_1; exact ⟨by omega, by omega⟩) (xe_var 1) (xe_var 3))))) rfl sc_law_lesser.nd)))
/-! ### _law_lacks -/
def R_law_lacks : List PyData → Except Exn PyData → Prop := fun ds r => ∃ (chain : (List Int)) (heap : (List Int)) (amounts : (List Int)), ds = [(emb (chain : (List Int))), (emb (heap : (List Int))), (emb (amounts : (List Int)))] ∧ (Chain chain) ∧ (chain.length ≤ heap.length) ∧ (amounts.length ≤ 1000) ∧ r = .ok (emb ((law_lacks chain heap amounts) : (List Int)))
theorem sc_law_lacks : FnScope ["chain", "heap", "amounts", "k"] ["chain", "heap", "amounts"] (defScope (top 67)) := ⟨rfl, rfl, rfl, by decide +kernel, rfl, by decide +kernel, by decide +kernel⟩
theorem ok_law_lacks {G : Gc} (T : Tx G) (D__law_left : DefD G "_law_left" 1 ["chain", "amounts", "k"] R_law_left) (D__law_lesser : DefD G "_law_lesser" 1 ["chain", "heap", "k"] R_law_lesser) {f : Addr} {fd : FuncData} (F : Fun G.K "_law_lacks" "_law_lacks" (top 67) f fd) : FnOk G.P G.w G.K G.mg G.base (L2.CX G.P G.w) 2 f fd ["chain", "heap", "amounts"] (SpD G R_law_lacks) := by
  have hSz := sizeLine_eq
  refine def_body F sc_law_lacks (fun ds r h => ?_) (by decide) (fun ds r h => ?_)
  · obtain ⟨_, _, _, rfl, _⟩ := h; rfl
  · obtain ⟨chain, heap, amounts, rfl, hc, hl, ha, rfl⟩ := h
    obtain ⟨q0, hk0⟩ : ∃ q, q = (law_lacks chain heap amounts) := ⟨_, rfl⟩
    rw [← hk0]
    have hq0 := hk0
    unfold law_lacks at hq0
    have h8 := hc.l2
    show XSs _ _ [.dat (emb (chain : (List Int))), .dat (emb (heap : (List Int))), .dat (emb (amounts : (List Int))), .junk] _
    refine xss_ret (d := (emb ((((rng 0 (Int.toNat ((chain.length : Int) + (1 : Int)))).filter (fun k_1 => (decide ((law_lesser chain heap k_1) < (law_left chain amounts k_1))))).map (fun k_1 => (k_1 : Int))) : (List Int)))) ?_ (by rw [hq0]; try rfl)
    exact (XN.xe (xn_lc [("k", 3)] (xlc_filter (emb : Int → PyData) (fun k_1 => (k_1 : Int)) (fun k_1 => (decide ((law_lesser chain heap k_1) < (law_left chain amounts k_1)))) (xi_range1 (by exact ⟨by omega, by omega⟩) T.b_range (xe_add (XE.to (xe_lenL T.b_len (xe_var 0)) (by rw [List.length_map])) xe_int)) rfl sc_law_lacks.nd (by rw [rng_len]; omega) (xg_name 3 sc_law_lacks.nd) (by decide) (fun _ _ => Nat.le_of_ble_eq_true rfl) (fun k_1 hm_k_1 => (xt_gt (xe_call D__law_left (Nat.le_of_ble_eq_true rfl) rfl ⟨chain, amounts, k_1, rfl, (by first | assumption | omega | decide | (simp; done)), (by have := mem_rng hm_k_1; omega), (by first | assumption | omega | decide | (simp; done)), rfl⟩ (xa_cons (xe_var 0) (xa_cons (xe_var 2) (xa_cons (xe_var 3) xa_nil)))) (xe_call D__law_lesser (Nat.le_of_ble_eq_true rfl) rfl ⟨chain, heap, k_1, rfl, (by exact hc.few), (by first | assumption | omega | decide | (simp; done)), (by have := mem_rng hm_k_1; omega), rfl⟩ (xa_cons (xe_var 0) (xa_cons (xe_var 1) (xa_cons (xe_var 3) xa_nil)))))) (fun k_1 hm_k_1 hf_k_1 => (xe_var 3))) rfl sc_law_lacks.nd))
/-! ### _law_payments -/
def R_law_payments : List PyData → Except Exn PyData → Prop := fun ds r => ∃ (chain : (List Int)) (heap : (List Int)) (amounts : (List Int)), ds = [(emb (chain : (List Int))), (emb (heap : (List Int))), (emb (amounts : (List Int)))] ∧ (Chain chain) ∧ (Pile chain heap) ∧ (amounts.length ≤ 1000) ∧ r = .ok (emb ((law_payments chain heap amounts) : (List (List Int))))
theorem sc_law_payments : FnScope ["chain", "heap", "amounts", "left", "rows", "k", "count", "j", "amount"] ["chain", "heap", "amounts"] (defScope (top 68)) := ⟨rfl, rfl, rfl, by decide +kernel, rfl, by decide +kernel, by decide +kernel⟩
theorem ok_law_payments {G : Gc} (T : Tx G) {f : Addr} {fd : FuncData} (F : Fun G.K "_law_payments" "_law_payments" (top 68) f fd) : FnOk G.P G.w G.K G.mg G.base (L2.CX G.P G.w) 1 f fd ["chain", "heap", "amounts"] (SpD G R_law_payments) := by
  have hSz := sizeLine_eq
  refine def_body F sc_law_payments (fun ds r h => ?_) (by decide) (fun ds r h => ?_)
  · obtain ⟨_, _, _, rfl, _⟩ := h; rfl
  · obtain ⟨chain, heap, amounts, rfl, hc, hh, ha, rfl⟩ := h
    obtain ⟨q0, hk0⟩ : ∃ q, q = (law_payments chain heap amounts) := ⟨_, rfl⟩
    rw [← hk0]
    have hq0 := hk0
    unfold law_payments at hq0
    have h8 := hc.l2
    have hhl := hh.1
    show XSs _ _ [.dat (emb (chain : (List Int))), .dat (emb (heap : (List Int))), .dat (emb (amounts : (List Int))), .junk, .junk, .junk, .junk, .junk, .junk] _
    extract_lets +onlyGivenNames -merge left_1 at hq0
    have hx_left_1 : left_1 = (amounts : (List Int)) := rfl
    clear_value left_1
    refine' xss_setNE hx_left_1 3 sc_law_payments.nd ?t_1 ?k_1
    case t_1 => exact (xn_list T.b_list (xe_var 2))
    case k_1 =>
      show XSs _ _ [.dat (emb (chain : (List Int))), .dat (emb (heap : (List Int))), .dat (emb (amounts : (List Int))), .own (.lst (left_1.map (emb : Int → PyData))), .junk, .junk, .junk, .junk, .junk] _
      extract_lets +onlyGivenNames -merge rows_1 at hq0
      have hx_rows_1 : rows_1 = ((amounts.map (fun amount_1 => ((repL ([(0 : Int)]) (chain.length : Int)) : (List Int)))) : (List (List Int))) := rfl
      clear_value rows_1
      have hr1 : Rect rows_1 amounts.length chain.length := by rw [hx_rows_1]; exact rect_new _ _ _
      refine' xss_setLmE hx_rows_1 4 [("amount", 8)] ?t_2 rfl sc_law_payments.nd ?k_2
      case t_2 => exact (xlmE (emb : Int → PyData) (fun amount_1 => ((repL ([(0 : Int)]) (chain.length : Int)) : (List Int))) (xi_list (xe_var 2)) rfl sc_law_payments.nd (by first | assumption | omega | decide | (simp; done)) (xg_name 8 sc_law_payments.nd) (by decide) (fun _ _ => Nat.le_of_ble_eq_true rfl) (fun amount_1 hm_amount_1 => (xn_repI (xs := [(0 : Int)]) (by exact ⟨by omega, by omega, by simp; omega⟩) (XN.xe (xn_lst (xa_cons xe_int xa_nil))) (XE.to (xe_lenL T.b_len (xe_var 0)) (by rw [List.length_map])))))
      case k_2 =>
        show XSs _ _ [.dat (emb (chain : (List Int))), .dat (emb (heap : (List Int))), .dat (emb (amounts : (List Int))), .own (.lst (left_1.map (emb : Int → PyData))), .own (.mat (embM rows_1)), .junk, .junk, .junk, .junk] _
        extract_lets +onlyGivenNames -merge fin_3 at hq0
        have hF1 : fin_3 = (rngC ((chain.length : Int) - (1 : Int)) (-1) (Int.toNat (((chain.length : Int) - (1 : Int)) - (-(1 : Int))))).foldl (bd_law_payments_1 chain heap amounts) (T2.mk rows_1 left_1) := rfl
        clear_value fin_3
        refine' xss_forS (emb : Int → PyData) (fun (s1 : (T2 (List (List Int)) (List Int))) => ([.dat (emb (chain : (List Int))), .dat (emb (heap : (List Int))), .dat (emb (amounts : (List Int))), .own (.lst (s1.p1.map (emb : Int → PyData))), .own (.mat (embM s1.p0)), .junk, .junk, .junk, .junk] : Evm)) (bd_law_payments_1 chain heap amounts) (T2.mk rows_1 left_1) hF1 ?i_3 rfl (xgc_name 5 sc_law_payments.nd) (Le.cs (Le.cs (Le.cs (Le.cs (Le.cs (Le.cj (Le.cj (Le.cj (Le.cj Le.nil))))))))) (fun i1 x1 s1 hx1 hist1 => ?tn_3) ?k_3
        case i_3 => exact (xi_range3 (RgC.neg (by first | assumption | omega | decide | (simp; done)) (by first | assumption | omega | decide | (simp; done)) (by first | assumption | omega | decide | (simp; done)) (by first | assumption | omega | decide | (simp; done))) T.b_range (xe_sub (XE.to (xe_lenL T.b_len (xe_var 0)) (by rw [List.length_map])) xe_int) (xe_neg xe_int) (xe_neg xe_int))
        case tn_3 =>
          refine ⟨by exact Nat.le_of_ble_eq_true rfl, ?_⟩
          obtain ⟨q1, hk1⟩ : ∃ q, q = (bd_law_payments_1 chain heap amounts) s1 x1 := ⟨_, rfl⟩
          have hq1 := hk1
          unfold bd_law_payments_1 at hq1
          have hx1m := mem_down (List.mem_of_getElem? hx1)
          have hI := law_pay_inv hist1 ⟨hr1, by rw [hx_left_1]⟩
          have hck := hc.at_ hx1m
          show XSs _ _ [.dat (emb (chain : (List Int))), .dat (emb (heap : (List Int))), .dat (emb (amounts : (List Int))), .own (.lst (s1.p1.map (emb : Int → PyData))), .own (.mat (embM s1.p0)), .dat (.int x1), .junk, .junk, .junk] _
          extract_lets +onlyGivenNames -merge count_1 at hq1
          have hx_count_1 : count_1 = ((getI heap x1) : Int) := rfl
          clear_value count_1
          refine' xss_setE hx_count_1 6 sc_law_payments.nd ?t_4 ?k_4
          case t_4 => exact (xe_ixI (xs := heap) (by exact ⟨by omega, by omega⟩) (xe_var 1) (xe_var 5))
          case k_4 =>
            show XSs _ _ [.dat (emb (chain : (List Int))), .dat (emb (heap : (List Int))), .dat (emb (amounts : (List Int))), .own (.lst (s1.p1.map (emb : Int → PyData))), .own (.mat (embM s1.p0)), .dat (.int x1), .dat (.int count_1), .junk, .junk] _
            extract_lets +onlyGivenNames -merge fin_2 at hq1
            have hF2 : fin_2 = (rng 0 (Int.toNat (amounts.length : Int))).foldl (bd_law_payments_2 chain x1) (T3.mk s1.p0 s1.p1 count_1) := rfl
            clear_value fin_2
            refine' xss_forS (emb : Int → PyData) (fun (s2 : (T3 (List (List Int)) (List Int) Int)) => ([.dat (emb (chain : (List Int))), .dat (emb (heap : (List Int))), .dat (emb (amounts : (List Int))), .own (.lst (s2.p1.map (emb : Int → PyData))), .own (.mat (embM s2.p0)), .dat (.int x1), .dat (.int s2.p2), .junk, .junk] : Evm)) (bd_law_payments_2 chain x1) (T3.mk s1.p0 s1.p1 count_1) hF2 ?i_5 rfl (xgc_name 7 sc_law_payments.nd) (Le.cs (Le.cs (Le.cs (Le.cs (Le.cs (Le.cs (Le.cs (Le.cj (Le.cj Le.nil))))))))) (fun i2 x2 s2 hx2 hist2 => ?tn_5) ?k_5
            case i_5 => exact (xi_range1 (by exact ⟨by omega, by omega⟩) T.b_range (XE.to (xe_lenL T.b_len (xe_var 2)) (by rw [List.length_map])))
            case tn_5 =>
              refine ⟨by exact Nat.le_of_ble_eq_true rfl, ?_⟩
              obtain ⟨q2, hk2⟩ : ∃ q, q = (bd_law_payments_2 chain x1) s2 x2 := ⟨_, rfl⟩
              have hq2 := hk2
              unfold bd_law_payments_2 at hq2
              have hI2 := law_pay_inv2 hist2 hI
              have hx2m := mem_rng (List.mem_of_getElem? hx2)
              show XSs _ _ [.dat (emb (chain : (List Int))), .dat (emb (heap : (List Int))), .dat (emb (amounts : (List Int))), .own (.lst (s2.p1.map (emb : Int → PyData))), .own (.mat (embM s2.p0)), .dat (.int x1), .dat (.int s2.p2), .dat (.int x2), .junk] _
              refine' xss_while (fun (s3 : (T3 (List (List Int)) (List Int) Int)) => ([.dat (emb (chain : (List Int))), .dat (emb (heap : (List Int))), .dat (emb (amounts : (List Int))), .own (.lst (s3.p1.map (emb : Int → PyData))), .own (.mat (embM s3.p0)), .dat (.int x1), .dat (.int s3.p2), .dat (.int x2), .junk] : Evm)) (ct_law_payments_3 chain x1 x2) (bd_law_payments_3 chain x1 x2) (fun (s : (T3 (List (List Int)) (List Int) Int)) => (s.p2).toNat) (fun (s : (T3 (List (List Int)) (List Int) Int)) => R3' s amounts.length chain.length) (T3.mk s2.p0 s2.p1 s2.p2) (((fun (s : (T3 (List (List Int)) (List Int) Int)) => (s.p2).toNat) (T3.mk s2.p0 s2.p1 s2.p2)) + 1) (Nat.lt_succ_self _) (Le.cs (Le.cs (Le.cs (Le.cs (Le.cs (Le.cs (Le.cs (Le.cs (Le.cj Le.nil))))))))) (by exact hI2) (by exact fun s s' h hc e => ⟨law_pay_step3 e h, law_pay_less hc e⟩) (fun s3 hJ3 => ?t_6) (fun s3 n3 hJ3 hcw3 hist3 => ?tn_6) (fun fin_1 hF3 => ?k_6)
              case t_6 =>
                show XT _ _ [.dat (emb (chain : (List Int))), .dat (emb (heap : (List Int))), .dat (emb (amounts : (List Int))), .own (.lst (s3.p1.map (emb : Int → PyData))), .own (.mat (embM s3.p0)), .dat (.int x1), .dat (.int s3.p2), .dat (.int x2), .junk] _
                have h21 := hJ3.1.1
                have h22 := hJ3.2
                exact (xt_tmp 3 (XW.pt (xw_and (xt_gt (xe_var 6) xe_int) (fun hs1 => (xw_and1 (xt_ge (xe_ixI (xs := s3.p1) (by exact ⟨by omega, by omega⟩) (xe_var 3) (xe_var 7)) (xe_ixI (xs := chain) (by exact ⟨by omega, by omega⟩) (xe_var 0) (xe_var 5))))))))
              case tn_6 =>
                obtain ⟨q3, hk3⟩ : ∃ q, q = (bd_law_payments_3 chain x1 x2) s3 := ⟨_, rfl⟩
                have hq3 := hk3
                unfold bd_law_payments_3 at hq3
                have hcw3_ := hcw3
                unfold ct_law_payments_3 at hcw3_
                try simp only [Bool.and_eq_true, Bool.or_eq_true, Bool.not_eq_true', Bool.not_eq_false', Bool.or_eq_false_iff, Bool.and_eq_false_iff, decide_eq_true_eq, decide_eq_false_iff_not, Bool.not_eq_true, Bool.not_eq_false] at hcw3_
                have h21 := hJ3.1.1
                have h22 := hJ3.2
                have hrw := hJ3.1.row (a := x2) ⟨by omega, by omega⟩
                have hrg := getI_row (rows := s3.p0) (a := x2) ⟨by omega, by omega⟩
                rw [← hrg] at hrw
                show XSs _ _ [.dat (emb (chain : (List Int))), .dat (emb (heap : (List Int))), .dat (emb (amounts : (List Int))), .own (.lst (s3.p1.map (emb : Int → PyData))), .own (.mat (embM s3.p0)), .dat (.int x1), .dat (.int s3.p2), .dat (.int x2), .junk] _
                extract_lets +onlyGivenNames -merge rows_2 at hq3
                have hx_rows_2 : rows_2 = ((setM s3.p0 x2 x1 ((getI (getI s3.p0 x2) x1) + (1 : Int))) : (List (List Int))) := rfl
                clear_value rows_2
                refine' xss_setME hx_rows_2 4 (by exact ⟨by omega, by omega⟩) (by rw [← hrg]; exact ⟨by omega, by omega⟩) ?t_7 ?a_7 ?b_7 ?k_7
                case t_7 => exact (xe_tmpME 4 (xe_add (xe_ixI (xs := (getI s3.p0 x2)) (by exact ⟨by omega, by omega⟩) (xe_ixI (xs := s3.p0) (by exact ⟨by omega, by omega⟩) (xe_var 4) (xe_var 7)) (xe_var 5)) xe_int))
                case a_7 => exact (xe_var 7)
                case b_7 => exact (xe_var 5)
                case k_7 =>
                  show XSs _ _ [.dat (emb (chain : (List Int))), .dat (emb (heap : (List Int))), .dat (emb (amounts : (List Int))), .own (.lst (s3.p1.map (emb : Int → PyData))), .own (.mat (embM rows_2)), .dat (.int x1), .dat (.int s3.p2), .dat (.int x2), .junk] _
                  extract_lets +onlyGivenNames -merge left_2 at hq3
                  have hx_left_2 : left_2 = ((setI s3.p1 x2 ((getI s3.p1 x2) - (getI chain x1))) : (List Int)) := rfl
                  clear_value left_2
                  refine' xss_setiE hx_left_2 3 (by exact ⟨by omega, by omega⟩) ?t_8 ?a_8 ?k_8
                  case t_8 => exact (xe_tmp 3 (xe_sub (xe_ixI (xs := s3.p1) (by exact ⟨by omega, by omega⟩) (xe_var 3) (xe_var 7)) (xe_ixI (xs := chain) (by exact ⟨by omega, by omega⟩) (xe_var 0) (xe_var 5))))
                  case a_8 => exact (xe_var 7)
                  case k_8 =>
                    show XSs _ _ [.dat (emb (chain : (List Int))), .dat (emb (heap : (List Int))), .dat (emb (amounts : (List Int))), .own (.lst (left_2.map (emb : Int → PyData))), .own (.mat (embM rows_2)), .dat (.int x1), .dat (.int s3.p2), .dat (.int x2), .junk] _
                    extract_lets +onlyGivenNames -merge count_2 at hq3
                    have hx_count_2 : count_2 = ((s3.p2 - (1 : Int)) : Int) := rfl
                    clear_value count_2
                    refine' xss_setE hx_count_2 6 sc_law_payments.nd ?t_9 ?k_9
                    case t_9 => exact (xe_sub (xe_var 6) xe_int)
                    case k_9 =>
                      show XSs _ _ [.dat (emb (chain : (List Int))), .dat (emb (heap : (List Int))), .dat (emb (amounts : (List Int))), .own (.lst (left_2.map (emb : Int → PyData))), .own (.mat (embM rows_2)), .dat (.int x1), .dat (.int count_2), .dat (.int x2), .junk] _
                      exact xss_nil ⟨_, hk3.symm.trans hq3, (Le.cs (Le.cs (Le.cs (Le.cs (Le.cs (Le.cs (Le.cs (Le.cs (Le.cj Le.nil)))))))))⟩
              case k_6 =>
                have hq_ := hq2.trans (go_end hF3)
                clear hq2
                have hq2 := hq_
                clear hq_
                show XSs _ _ [.dat (emb (chain : (List Int))), .dat (emb (heap : (List Int))), .dat (emb (amounts : (List Int))), .own (.lst (fin_1.p1.map (emb : Int → PyData))), .own (.mat (embM fin_1.p0)), .dat (.int x1), .dat (.int fin_1.p2), .dat (.int x2), .junk] _
                exact xss_nil (by rw [← hk2, hq2]; exact (Le.cs (Le.cs (Le.cs (Le.cs (Le.cs (Le.cs (Le.cs (Le.cj (Le.cj Le.nil))))))))))
            case k_5 =>
              show XSs _ _ [.dat (emb (chain : (List Int))), .dat (emb (heap : (List Int))), .dat (emb (amounts : (List Int))), .own (.lst (fin_2.p1.map (emb : Int → PyData))), .own (.mat (embM fin_2.p0)), .dat (.int x1), .dat (.int fin_2.p2), .junk, .junk] _
              exact xss_nil (by rw [← hk1, hq1]; exact (Le.cs (Le.cs (Le.cs (Le.cs (Le.cs (Le.cj (Le.cj (Le.cj (Le.cj Le.nil))))))))))
        case k_3 =>
          show XSs _ _ [.dat (emb (chain : (List Int))), .dat (emb (heap : (List Int))), .dat (emb (amounts : (List Int))), .own (.lst (fin_3.p1.map (emb : Int → PyData))), .own (.mat (embM fin_3.p0)), .junk, .junk, .junk, .junk] _
          refine xss_frzME 4 ?_
          refine xss_ret (d := (emb (fin_3.p0 : (List (List Int))))) ?_ (by rw [hq0]; try rfl)
          exact (xe_var 4)
/-! ### _law_need -/
def R_law_need : List PyData → Except Exn PyData → Prop := fun ds r => ∃ (chain : (List Int)) (heap : (List Int)) (n : Int), ds = [(emb (chain : (List Int))), (emb (heap : (List Int))), (.int n)] ∧ (Chain chain) ∧ (Pile chain heap) ∧ (2 ≤ n ∧ n ≤ 8) ∧ r = .ok (emb ((law_need chain heap n) : (List (List Int))))
theorem sc_law_need : FnScope ["chain", "heap", "n", "rows", "sums", "k", "turn", "j"] ["chain", "heap", "n"] (defScope (top 69)) := ⟨rfl, rfl, rfl, by decide +kernel, rfl, by decide +kernel, by decide +kernel⟩
theorem ok_law_need {G : Gc} (T : Tx G) {f : Addr} {fd : FuncData} (F : Fun G.K "_law_need" "_law_need" (top 69) f fd) : FnOk G.P G.w G.K G.mg G.base (L2.CX G.P G.w) 1 f fd ["chain", "heap", "n"] (SpD G R_law_need) := by
  have hSz := sizeLine_eq
  refine def_body F sc_law_need (fun ds r h => ?_) (by decide) (fun ds r h => ?_)
  · obtain ⟨_, _, _, rfl, _⟩ := h; rfl
  · obtain ⟨chain, heap, n, rfl, hc, hh, hn, rfl⟩ := h
    obtain ⟨q0, hk0⟩ : ∃ q, q = (law_need chain heap n) := ⟨_, rfl⟩
    rw [← hk0]
    have hq0 := hk0
    unfold law_need at hq0
    have h8 := hc.l2
    have hhl := hh.1
    show XSs _ _ [.dat (emb (chain : (List Int))), .dat (emb (heap : (List Int))), .dat (.int n), .junk, .junk, .junk, .junk, .junk] _
    extract_lets +onlyGivenNames -merge rows_1 at hq0
    have hx_rows_1 : rows_1 = (((rng 0 (Int.toNat n)).map (fun j_1 => ((repL ([(0 : Int)]) (chain.length : Int)) : (List Int)))) : (List (List Int))) := rfl
    clear_value rows_1
    have hr1 : Rect rows_1 n.toNat chain.length := by rw [hx_rows_1]; have q := rect_new (rng 0 (Int.toNat n)) (0 : Int) (chain.length : Int); rw [rng_len] at q; exact q
    refine' xss_setLmE hx_rows_1 3 [("j", 7)] ?t_1 rfl sc_law_need.nd ?k_1
    case t_1 => exact (xlmE (emb : Int → PyData) (fun j_1 => ((repL ([(0 : Int)]) (chain.length : Int)) : (List Int))) (xi_range1 (by exact ⟨by omega, by omega⟩) T.b_range (xe_var 2)) rfl sc_law_need.nd (by rw [rng_len]; omega) (xg_name 7 sc_law_need.nd) (by decide) (fun _ _ => Nat.le_of_ble_eq_true rfl) (fun j_1 hm_j_1 => (xn_repI (xs := [(0 : Int)]) (by exact ⟨by omega, by omega, by simp; omega⟩) (XN.xe (xn_lst (xa_cons xe_int xa_nil))) (XE.to (xe_lenL T.b_len (xe_var 0)) (by rw [List.length_map])))))
    case k_1 =>
      show XSs _ _ [.dat (emb (chain : (List Int))), .dat (emb (heap : (List Int))), .dat (.int n), .own (.mat (embM rows_1)), .junk, .junk, .junk, .junk] _
      extract_lets +onlyGivenNames -merge sums_1 at hq0
      have hx_sums_1 : sums_1 = ((repL ([(0 : Int)]) n) : (List Int)) := rfl
      clear_value sums_1
      have hs1 : sums_1.length = n.toNat := by rw [hx_sums_1]; exact repL_len _ _
      refine' xss_setNE hx_sums_1 4 sc_law_need.nd ?t_2 ?k_2
      case t_2 => exact (xn_repI (xs := [(0 : Int)]) (by exact ⟨by omega, by omega, by simp; omega⟩) (XN.xe (xn_lst (xa_cons xe_int xa_nil))) (xe_var 2))
      case k_2 =>
        show XSs _ _ [.dat (emb (chain : (List Int))), .dat (emb (heap : (List Int))), .dat (.int n), .own (.mat (embM rows_1)), .own (.lst (sums_1.map (emb : Int → PyData))), .junk, .junk, .junk] _
        extract_lets +onlyGivenNames -merge fin_2 at hq0
        have hF1 : fin_2 = (rngC ((chain.length : Int) - (1 : Int)) (-1) (Int.toNat (((chain.length : Int) - (1 : Int)) - (-(1 : Int))))).foldl (bd_law_need_1 chain heap) (T2.mk rows_1 sums_1) := rfl
        clear_value fin_2
        refine' xss_forS (emb : Int → PyData) (fun (s1 : (T2 (List (List Int)) (List Int))) => ([.dat (emb (chain : (List Int))), .dat (emb (heap : (List Int))), .dat (.int n), .own (.mat (embM s1.p0)), .own (.lst (s1.p1.map (emb : Int → PyData))), .junk, .junk, .junk] : Evm)) (bd_law_need_1 chain heap) (T2.mk rows_1 sums_1) hF1 ?i_3 rfl (xgc_name 5 sc_law_need.nd) (Le.cs (Le.cs (Le.cs (Le.cs (Le.cs (Le.cj (Le.cj (Le.cj Le.nil)))))))) (fun i1 x1 s1 hx1 hist1 => ?tn_3) ?k_3
        case i_3 => exact (xi_range3 (RgC.neg (by first | assumption | omega | decide | (simp; done)) (by first | assumption | omega | decide | (simp; done)) (by first | assumption | omega | decide | (simp; done)) (by first | assumption | omega | decide | (simp; done))) T.b_range (xe_sub (XE.to (xe_lenL T.b_len (xe_var 0)) (by rw [List.length_map])) xe_int) (xe_neg xe_int) (xe_neg xe_int))
        case tn_3 =>
          refine ⟨by exact Nat.le_of_ble_eq_true rfl, ?_⟩
          obtain ⟨q1, hk1⟩ : ∃ q, q = (bd_law_need_1 chain heap) s1 x1 := ⟨_, rfl⟩
          have hq1 := hk1
          unfold bd_law_need_1 at hq1
          have hx1m := mem_down (List.mem_of_getElem? hx1)
          have hI := law_need_inv hist1 ⟨hr1, hs1⟩
          have hhk := hh.at_ hx1m
          show XSs _ _ [.dat (emb (chain : (List Int))), .dat (emb (heap : (List Int))), .dat (.int n), .own (.mat (embM s1.p0)), .own (.lst (s1.p1.map (emb : Int → PyData))), .dat (.int x1), .junk, .junk] _
          extract_lets +onlyGivenNames -merge fin_1 at hq1
          have hF2 : fin_1 = (rng 0 (Int.toNat (getI heap x1))).foldl (bd_law_need_2 chain x1) (T2.mk s1.p0 s1.p1) := rfl
          clear_value fin_1
          refine' xss_forS (emb : Int → PyData) (fun (s2 : (T2 (List (List Int)) (List Int))) => ([.dat (emb (chain : (List Int))), .dat (emb (heap : (List Int))), .dat (.int n), .own (.mat (embM s2.p0)), .own (.lst (s2.p1.map (emb : Int → PyData))), .dat (.int x1), .junk, .junk] : Evm)) (bd_law_need_2 chain x1) (T2.mk s1.p0 s1.p1) hF2 ?i_4 rfl (xgc_name 6 sc_law_need.nd) (Le.cs (Le.cs (Le.cs (Le.cs (Le.cs (Le.cs (Le.cj (Le.cj Le.nil)))))))) (fun i2 x2 s2 hx2 hist2 => ?tn_4) ?k_4
          case i_4 => exact (xi_range1 (by exact ⟨by omega, by omega⟩) T.b_range (xe_ixI (xs := heap) (by first | exact ⟨by omega, by omega⟩ | (rw [hrg]; exact ⟨by omega, by omega⟩)) (xe_var 1) (xe_var 5)))
          case tn_4 =>
            refine ⟨by exact Nat.le_of_ble_eq_true rfl, ?_⟩
            obtain ⟨q2, hk2⟩ : ∃ q, q = (bd_law_need_2 chain x1) s2 x2 := ⟨_, rfl⟩
            have hq2 := hk2
            unfold bd_law_need_2 at hq2
            have hI2 := law_need_inv2 hist2 hI
            have h21 := hI2.1.1
            have h22 := hI2.2
            obtain ⟨hl1, hl2, hl3, hl4⟩ := least_lt (show 1 ≤ n.toNat by omega) h22
            have hrw := hI2.1.row (a := neediest s2.p1) ⟨hl3, by omega⟩
            have hrg := getI_row (rows := s2.p0) (a := neediest s2.p1) ⟨by omega, by omega⟩
            unfold neediest at hl3 hl4 hrw hrg
            show XSs _ _ [.dat (emb (chain : (List Int))), .dat (emb (heap : (List Int))), .dat (.int n), .own (.mat (embM s2.p0)), .own (.lst (s2.p1.map (emb : Int → PyData))), .dat (.int x1), .dat (.int x2), .junk] _
            extract_lets +onlyGivenNames -merge j_2 at hq2
            have hx_j_2 : j_2 = ((idxI s2.p1 (lmin s2.p1)) : Int) := rfl
            clear_value j_2
            rw [← hx_j_2] at hl3 hl4 hrw hrg
            refine' xss_setE hx_j_2 7 sc_law_need.nd ?t_5 ?k_5
            case t_5 => exact (xe_tmp 4 (xe_index (by first | assumption | omega | decide | (simp; done)) (xe_var 4) (xe_min (by first | assumption | omega | decide | (simp; done)) rfl T.b_min (xe_var 4))))
            case k_5 =>
              show XSs _ _ [.dat (emb (chain : (List Int))), .dat (emb (heap : (List Int))), .dat (.int n), .own (.mat (embM s2.p0)), .own (.lst (s2.p1.map (emb : Int → PyData))), .dat (.int x1), .dat (.int x2), .dat (.int j_2)] _
              extract_lets +onlyGivenNames -merge rows_2 at hq2
              have hx_rows_2 : rows_2 = ((setM s2.p0 j_2 x1 ((getI (getI s2.p0 j_2) x1) + (1 : Int))) : (List (List Int))) := rfl
              clear_value rows_2
              refine' xss_setME hx_rows_2 3 (by exact ⟨hl3, by omega⟩) (by exact ⟨by omega, by omega⟩) ?t_6 ?a_6 ?b_6 ?k_6
              case t_6 => exact (xe_tmpME 3 (xe_add (xe_ixI (xs := (getI s2.p0 j_2)) (by first | exact ⟨by omega, by omega⟩ | (rw [hrg]; exact ⟨by omega, by omega⟩)) (xe_ixI (xs := s2.p0) (by first | exact ⟨by omega, by omega⟩ | (rw [hrg]; exact ⟨by omega, by omega⟩)) (xe_var 3) (xe_var 7)) (xe_var 5)) xe_int))
              case a_6 => exact (xe_var 7)
              case b_6 => exact (xe_var 5)
              case k_6 =>
                show XSs _ _ [.dat (emb (chain : (List Int))), .dat (emb (heap : (List Int))), .dat (.int n), .own (.mat (embM rows_2)), .own (.lst (s2.p1.map (emb : Int → PyData))), .dat (.int x1), .dat (.int x2), .dat (.int j_2)] _
                extract_lets +onlyGivenNames -merge sums_2 at hq2
                have hx_sums_2 : sums_2 = ((setI s2.p1 j_2 ((getI s2.p1 j_2) + (getI chain x1))) : (List Int)) := rfl
                clear_value sums_2
                refine' xss_setiE hx_sums_2 4 (by first | exact ⟨by omega, by omega⟩ | (rw [hrg]; exact ⟨by omega, by omega⟩)) ?t_7 ?a_7 ?k_7
                case t_7 => exact (xe_tmp 4 (xe_add (xe_ixI (xs := s2.p1) (by first | exact ⟨by omega, by omega⟩ | (rw [hrg]; exact ⟨by omega, by omega⟩)) (xe_var 4) (xe_var 7)) (xe_ixI (xs := chain) (by first | exact ⟨by omega, by omega⟩ | (rw [hrg]; exact ⟨by omega, by omega⟩)) (xe_var 0) (xe_var 5))))
                case a_7 => exact (xe_var 7)
                case k_7 =>
                  show XSs _ _ [.dat (emb (chain : (List Int))), .dat (emb (heap : (List Int))), .dat (.int n), .own (.mat (embM rows_2)), .own (.lst (sums_2.map (emb : Int → PyData))), .dat (.int x1), .dat (.int x2), .dat (.int j_2)] _
                  exact xss_nil (by rw [← hk2, hq2]; exact (Le.cs (Le.cs (Le.cs (Le.cs (Le.cs (Le.cs (Le.cj (Le.cj Le.nil)))))))))
          case k_4 =>
            show XSs _ _ [.dat (emb (chain : (List Int))), .dat (emb (heap : (List Int))), .dat (.int n), .own (.mat (embM fin_1.p0)), .own (.lst (fin_1.p1.map (emb : Int → PyData))), .dat (.int x1), .junk, .junk] _
            exact xss_nil (by rw [← hk1, hq1]; exact (Le.cs (Le.cs (Le.cs (Le.cs (Le.cs (Le.cj (Le.cj (Le.cj Le.nil)))))))))
        case k_3 =>
          show XSs _ _ [.dat (emb (chain : (List Int))), .dat (emb (heap : (List Int))), .dat (.int n), .own (.mat (embM fin_2.p0)), .own (.lst (fin_2.p1.map (emb : Int → PyData))), .junk, .junk, .junk] _
          refine xss_frzME 3 ?_
          refine xss_ret (d := (emb (fin_2.p0 : (List (List Int))))) ?_ (by rw [hq0]; try rfl)
          exact (xe_var 3)
/-! ### law -/
def R_law : List PyData → Except Exn PyData → Prop := fun ds r => ∃ (script : List Int), ds = [(scrD script)] ∧ (script.length ≤ 63) ∧ r = .ok (.bool (law script))
theorem sc_law : FnScope ["script", "chain", "heap", "n", "weights", "whole", "amounts", "due", "k", "told", "need", "rows", "turn", "sums", "pieces", "piece", "weight", "j", "row", "number"] ["script"] (defScope (top 70)) := ⟨rfl, rfl, rfl, by decide +kernel, rfl, by decide +kernel, by decide +kernel⟩
theorem ok_law {G : Gc} (T : Tx G) (D__law_chain : DefD G "_law_chain" 2 ["script", "at", "most"] R_law_chain) (D__law_heap : DefD G "_law_heap" 2 ["script", "at", "chain", "most"] R_law_heap) (D__law_greater : DefD G "_law_greater" 1 ["chain", "heap", "k"] R_law_greater) (D_least_greatest : DefD G "least_greatest" 7 ["chain", "heap", "n"] R_least_greatest) (D__law_is_integer : DefD G "_law_is_integer" 1 ["value"] R_law_is_integer) (D_levelled : DefD G "levelled" 7 ["chain", "heap", "n"] R_levelled) (D__law_laid : DefD G "_law_laid" 1 ["chain", "heap", "boxes"] R_law_laid) (D_by_need : DefD G "by_need" 7 ["chain", "heap", "n"] R_by_need) (D__law_need : DefD G "_law_need" 1 ["chain", "heap", "n"] R_law_need) (D_worths : DefD G "worths" 2 ["chain", "rows"] R_worths) (D_by_turns : DefD G "by_turns" 7 ["chain", "heap", "n"] R_by_turns) (D__law_worth : DefD G "_law_worth" 1 ["chain", "heap"] R_law_worth) (D_gap : DefD G "gap" 3 ["chain", "rows"] R_gap) (D__law_numbers : DefD G "_law_numbers" 1 ["script", "at", "many"] R_law_numbers) (D_parts : DefD G "parts" 6 ["chain", "heap", "weights"] R_parts) (D_weighed : DefD G "weighed" 7 ["chain", "heap", "weights"] R_weighed) (D__law_lacks : DefD G "_law_lacks" 2 ["chain", "heap", "amounts"] R_law_lacks) (D__law_payments : DefD G "_law_payments" 1 ["chain", "heap", "amounts"] R_law_payments) {f : Addr} {fd : FuncData} (F : Fun G.K "law" "law" (top 70) f fd) : FnOk G.P G.w G.K G.mg G.base (L2.CX G.P G.w) 8 f fd ["script"] (SpD G R_law) := by
  have hSz := sizeLine_eq
  refine def_body F sc_law (fun ds r h => ?_) (by decide) (fun ds r h => ?_)
  · obtain ⟨_, rfl, _⟩ := h; rfl
  · obtain ⟨script, rfl, hz, rfl⟩ := h
    obtain ⟨q0, hk0⟩ : ∃ q, q = (law script) := ⟨_, rfl⟩
    rw [← hk0]
    have hq0 := hk0
    unfold law at hq0
    show XSs _ _ [.dat (scrD script), .junk, .junk, .junk, .junk, .junk, .junk, .junk, .junk, .junk, .junk, .junk, .junk, .junk, .junk, .junk, .junk, .junk, .junk, .junk] _
    extract_lets +onlyGivenNames -merge chain_1 at hq0
    have hx_chain_1 : chain_1 = ((law_chain script (0 : Int) (6 : Int)) : (List Int)) := rfl
    clear_value chain_1
    obtain ⟨hc, hc2, hc6⟩ := law_chain_ok (script := script) (at_ := 0) (most := 6) (by decide)
    rw [← hx_chain_1] at hc hc2 hc6
    have hfew := hc.few
    refine' xss_setE hx_chain_1 1 sc_law.nd ?t_1 ?k_1
    case t_1 => exact (xe_call D__law_chain (Nat.le_of_ble_eq_true rfl) rfl ⟨script, (0 : Int), (6 : Int), rfl, (by first | assumption | omega | decide | (simp; done)), (by first | assumption | omega | decide | (simp; done)), rfl⟩ (xa_cons (xe_var 0) (xa_cons xe_int (xa_cons xe_int xa_nil))))
    case k_1 =>
      show XSs _ _ [.dat (scrD script), .dat (emb (chain_1 : (List Int))), .junk, .junk, .junk, .junk, .junk, .junk, .junk, .junk, .junk, .junk, .junk, .junk, .junk, .junk, .junk, .junk, .junk, .junk] _
      extract_lets +onlyGivenNames -merge heap_1 at hq0
      have hx_heap_1 : heap_1 = ((law_heap script (1 : Int) chain_1 (12 : Int)) : (List Int)) := rfl
      clear_value heap_1
      have hh : Pile chain_1 heap_1 := by rw [hx_heap_1]; exact law_heap_ok (by decide)
      have hhl := hh.1
      refine' xss_setE hx_heap_1 2 sc_law.nd ?t_2 ?k_2
      case t_2 => exact (xe_call D__law_heap (Nat.le_of_ble_eq_true rfl) rfl ⟨script, (1 : Int), chain_1, (12 : Int), rfl, (by first | assumption | omega | decide | (simp; done)), (by first | assumption | omega | decide | (simp; done)), (by first | assumption | omega | decide | (simp; done)), rfl⟩ (xa_cons (xe_var 0) (xa_cons xe_int (xa_cons (xe_var 1) (xa_cons xe_int xa_nil)))))
      case k_2 =>
        show XSs _ _ [.dat (scrD script), .dat (emb (chain_1 : (List Int))), .dat (emb (heap_1 : (List Int))), .junk, .junk, .junk, .junk, .junk, .junk, .junk, .junk, .junk, .junk, .junk, .junk, .junk, .junk, .junk, .junk, .junk] _
        refine' xss_for (emb : Int → PyData) (xs := (rng (2 : Int) (Int.toNat ((9 : Int) - (2 : Int))))) (fun (s1 : Unit) => ([.dat (scrD script), .dat (emb (chain_1 : (List Int))), .dat (emb (heap_1 : (List Int))), .junk, .junk, .junk, .junk, .junk, .junk, .junk, .junk, .junk, .junk, .junk, .junk, .junk, .junk, .junk, .junk, .junk] : Evm)) (bd_law_1 chain_1 heap_1) () ?i_3 rfl (xgc_name 3 sc_law.nd) (Le.cs (Le.cs (Le.cs (Le.cj (Le.cj (Le.cj (Le.cj (Le.cj (Le.cj (Le.cj (Le.cj (Le.cj (Le.cj (Le.cj (Le.cj (Le.cj (Le.cj (Le.cj (Le.cj (Le.cj Le.nil)))))))))))))))))))) (fun i1 x1 s1 hx1 hist1 => ?tn_3) (fun fin_4 hF1 => ?k_3)
        case i_3 => exact (xi_range2 (by exact ⟨by omega, by omega, by omega, by omega⟩) T.b_range xe_int xe_int)
        case tn_3 =>
          refine ⟨by exact Nat.le_of_ble_eq_true rfl, ?_⟩
          obtain ⟨q1, hk1⟩ : ∃ q, q = (bd_law_1 chain_1 heap_1) s1 x1 := ⟨_, rfl⟩
          have hq1 := hk1
          unfold bd_law_1 at hq1
          have hx1m := mem_rng (List.mem_of_getElem? hx1)
          have hn28 : 2 ≤ x1 ∧ x1 ≤ 8 := by omega
          show XSs _ _ [.dat (scrD script), .dat (emb (chain_1 : (List Int))), .dat (emb (heap_1 : (List Int))), .dat (.int x1), .junk, .junk, .junk, .junk, .junk, .junk, .junk, .junk, .junk, .junk, .junk, .junk, .junk, .junk, .junk, .junk] _
          extract_lets +onlyGivenNames -merge due_1 at hq1
          have hx_due_1 : due_1 = ((0 : Int) : Int) := rfl
          clear_value due_1
          refine' xss_setE hx_due_1 7 sc_law.nd ?t_4 ?k_4
          case t_4 => exact xe_int
          case k_4 =>
            show XSs _ _ [.dat (scrD script), .dat (emb (chain_1 : (List Int))), .dat (emb (heap_1 : (List Int))), .dat (.int x1), .junk, .junk, .junk, .dat (.int due_1), .junk, .junk, .junk, .junk, .junk, .junk, .junk, .junk, .junk, .junk, .junk, .junk] _
            extract_lets +onlyGivenNames -merge fin_1 at hq1
            have hF2 : fin_1 = (rng 0 (Int.toNat (chain_1.length : Int))).foldl (bd_law_2 chain_1 heap_1 x1) due_1 := rfl
            clear_value fin_1
            refine' xss_forS (emb : Int → PyData) (fun (s2 : Int) => ([.dat (scrD script), .dat (emb (chain_1 : (List Int))), .dat (emb (heap_1 : (List Int))), .dat (.int x1), .junk, .junk, .junk, .dat (.int s2), .junk, .junk, .junk, .junk, .junk, .junk, .junk, .junk, .junk, .junk, .junk, .junk] : Evm)) (bd_law_2 chain_1 heap_1 x1) due_1 hF2 ?i_5 rfl (xgc_name 8 sc_law.nd) (Le.cs (Le.cs (Le.cs (Le.cs (Le.cj (Le.cj (Le.cj (Le.cs (Le.cj (Le.cj (Le.cj (Le.cj (Le.cj (Le.cj (Le.cj (Le.cj (Le.cj (Le.cj (Le.cj (Le.cj Le.nil)))))))))))))))))))) (fun i2 x2 s2 hx2 hist2 => ?tn_5) ?k_5
            case i_5 => exact (xi_range1 (by exact ⟨by omega, by omega⟩) T.b_range (XE.to (xe_lenL T.b_len (xe_var 1)) (by rw [List.length_map])))
            case tn_5 =>
              refine ⟨by exact Nat.le_of_ble_eq_true rfl, ?_⟩
              obtain ⟨q2, hk2⟩ : ∃ q, q = (bd_law_2 chain_1 heap_1 x1) s2 x2 := ⟨_, rfl⟩
              have hq2 := hk2
              unfold bd_law_2 at hq2
              have hx2m := mem_rng (List.mem_of_getElem? hx2)
              have hck := hc.at_ (k := x2) ⟨by omega, by omega⟩
              show XSs _ _ [.dat (scrD script), .dat (emb (chain_1 : (List Int))), .dat (emb (heap_1 : (List Int))), .dat (.int x1), .junk, .junk, .junk, .dat (.int s2), .dat (.int x2), .junk, .junk, .junk, .junk, .junk, .junk, .junk, .junk, .junk, .junk, .junk] _
              extract_lets +onlyGivenNames -merge pieces_1 at hq2
              have hx_pieces_1 : pieces_1 = (((law_greater chain_1 heap_1 x2) / (getI chain_1 x2)) : Int) := rfl
              clear_value pieces_1
              refine' xss_setE hx_pieces_1 14 sc_law.nd ?t_6 ?k_6
              case t_6 => exact (xe_div (by exact ⟨by omega, by omega⟩) (xe_call D__law_greater (Nat.le_of_ble_eq_true rfl) rfl ⟨chain_1, heap_1, x2, rfl, (by first | assumption | omega | decide | (simp; done)), (by first | assumption | omega | decide | (simp; done)), (by first | assumption | omega | decide | (simp; done)), rfl⟩ (xa_cons (xe_var 1) (xa_cons (xe_var 2) (xa_cons (xe_var 8) xa_nil)))) (xe_ixI (xs := chain_1) (by exact ⟨by omega, by omega⟩) (xe_var 1) (xe_var 8)))
              case k_6 =>
                show XSs _ _ [.dat (scrD script), .dat (emb (chain_1 : (List Int))), .dat (emb (heap_1 : (List Int))), .dat (.int x1), .junk, .junk, .junk, .dat (.int s2), .dat (.int x2), .junk, .junk, .junk, .junk, .junk, .dat (.int pieces_1), .junk, .junk, .junk, .junk, .junk] _
                extract_lets +onlyGivenNames -merge due_2 at hq2
                have hx_due_2 : due_2 = ((max s2 ((((pieces_1 + x1) - (1 : Int)) / x1) * (getI chain_1 x2))) : Int) := rfl
                clear_value due_2
                refine' xss_setE hx_due_2 7 sc_law.nd ?t_7 ?k_7
                case t_7 => exact (xe_max2 rfl T.b_max (xe_var 7) (xe_mul (by exact .inr ⟨by omega, by omega⟩) (xe_div (by exact ⟨by omega, by omega⟩) (xe_sub (xe_add (xe_var 14) (xe_var 3)) xe_int) (xe_var 3)) (xe_ixI (xs := chain_1) (by exact ⟨by omega, by omega⟩) (xe_var 1) (xe_var 8))))
                case k_7 =>
                  show XSs _ _ [.dat (scrD script), .dat (emb (chain_1 : (List Int))), .dat (emb (heap_1 : (List Int))), .dat (.int x1), .junk, .junk, .junk, .dat (.int due_2), .dat (.int x2), .junk, .junk, .junk, .junk, .junk, .dat (.int pieces_1), .junk, .junk, .junk, .junk, .junk] _
                  exact xss_nil (by rw [← hk2, hq2]; exact (Le.cs (Le.cs (Le.cs (Le.cs (Le.cj (Le.cj (Le.cj (Le.cs (Le.cj (Le.cj (Le.cj (Le.cj (Le.cj (Le.cj (Le.cj (Le.cj (Le.cj (Le.cj (Le.cj (Le.cj Le.nil)))))))))))))))))))))
            case k_5 =>
              show XSs _ _ [.dat (scrD script), .dat (emb (chain_1 : (List Int))), .dat (emb (heap_1 : (List Int))), .dat (.int x1), .junk, .junk, .junk, .dat (.int fin_1), .junk, .junk, .junk, .junk, .junk, .junk, .junk, .junk, .junk, .junk, .junk, .junk] _
              extract_lets +onlyGivenNames -merge told_1 at hq1
              have hx_told_1 : told_1 = ((least_greatest chain_1 heap_1 x1) : Int) := rfl
              clear_value told_1
              refine' xss_setE hx_told_1 9 sc_law.nd ?t_8 ?k_8
              case t_8 => exact (xe_call D_least_greatest (Nat.le_of_ble_eq_true rfl) rfl ⟨chain_1, heap_1, x1, rfl, (by first | assumption | omega | decide | (simp; done)), (by first | assumption | omega | decide | (simp; done)), (by first | assumption | omega | decide | (simp; done)), rfl⟩ (xa_cons (xe_var 1) (xa_cons (xe_var 2) (xa_cons (xe_var 3) xa_nil))))
              case k_8 =>
                show XSs _ _ [.dat (scrD script), .dat (emb (chain_1 : (List Int))), .dat (emb (heap_1 : (List Int))), .dat (.int x1), .junk, .junk, .junk, .dat (.int fin_1), .junk, .dat (.int told_1), .junk, .junk, .junk, .junk, .junk, .junk, .junk, .junk, .junk, .junk] _
                refine' xss_if (k := ((!(law_is_integer told_1)) || ((!decide (told_1 = fin_1)) || (!decide (((levelled chain_1 heap_1 x1) : (List (List Int))) = (law_laid chain_1 heap_1 (repL ([fin_1]) x1))))))) ?t_9 (fun hb3 => ?a_9) (fun hb3 => ?b_9)
                case t_9 => exact (XW.pt (xw_or (xt_not (xt_val (xe_call D__law_is_integer (Nat.le_of_ble_eq_true rfl) rfl ⟨told_1, rfl, rfl⟩ (xa_cons (xe_var 9) xa_nil)))) (fun hs1 => (xw_or (xt_neI (xe_var 9) (xe_var 7)) (fun hs2 => (xw_or1 (xt_neT (x := ((levelled chain_1 heap_1 x1) : (List (List Int)))) (y := ((law_laid chain_1 heap_1 (repL ([fin_1]) x1)) : (List (List Int)))) (xe_call D_levelled (Nat.le_of_ble_eq_true rfl) rfl ⟨chain_1, heap_1, x1, rfl, (by first | assumption | omega | decide | (simp; done)), (by first | assumption | omega | decide | (simp; done)), (by first | assumption | omega | decide | (simp; done)), rfl⟩ (xa_cons (xe_var 1) (xa_cons (xe_var 2) (xa_cons (xe_var 3) xa_nil)))) (xe_call D__law_laid (Nat.le_of_ble_eq_true rfl) rfl ⟨chain_1, heap_1, (repL ([fin_1]) x1), rfl, (by first | assumption | omega | decide | (simp; done)), (by first | assumption | omega | decide | (simp; done)), (by rw [repL_len]; omega), rfl⟩ (xa_cons (xe_var 1) (xa_cons (xe_var 2) (xa_cons (XN.xe (xn_repI (xs := [fin_1]) (by exact ⟨by omega, by omega, by simp; omega⟩) (XN.xe (xn_lst (xa_cons (xe_var 7) xa_nil))) (xe_var 3))) xa_nil)))))))))))
                case a_9 =>
                  have hp3 := hb3
                  try simp only [Bool.and_eq_true, Bool.or_eq_true, Bool.not_eq_true', Bool.not_eq_false', Bool.or_eq_false_iff, Bool.and_eq_false_iff, decide_eq_true_eq, decide_eq_false_iff_not, Bool.not_eq_true, Bool.not_eq_false] at hp3
                  rw [if_pos hb3] at hq1
                  rw [go_rt (forF_rt hx1 hist1 (hk1.symm.trans hq1))] at hq0
                  refine xss_ret (d := (.bool false)) ?_ (by rw [hq0]; try rfl)
                  exact xe_bl
                case b_9 =>
                  have hp3 := hb3
                  try simp only [Bool.and_eq_true, Bool.or_eq_true, Bool.not_eq_true', Bool.not_eq_false', Bool.or_eq_false_iff, Bool.and_eq_false_iff, decide_eq_true_eq, decide_eq_false_iff_not, Bool.not_eq_true, Bool.not_eq_false] at hp3
                  rw [if_neg (by rw [hb3]; exact Bool.false_ne_true)] at hq1
                  refine xss_nil ?_
                  show XSs _ _ [.dat (scrD script), .dat (emb (chain_1 : (List Int))), .dat (emb (heap_1 : (List Int))), .dat (.int x1), .junk, .junk, .junk, .dat (.int fin_1), .junk, .dat (.int told_1), .junk, .junk, .junk, .junk, .junk, .junk, .junk, .junk, .junk, .junk] _
                  extract_lets +onlyGivenNames -merge need_1 at hq1
                  have hx_need_1 : need_1 = ((by_need chain_1 heap_1 x1) : (List (List Int))) := rfl
                  clear_value need_1
                  have hnr : Rect need_1 x1.toNat chain_1.length := by rw [hx_need_1]; exact by_need_rect (by omega)
                  have hnl := hnr.1
                  have hw0 := worths_ne (chain := chain_1) (rows := need_1) (by omega)
                  refine' xss_setE hx_need_1 10 sc_law.nd ?t_10 ?k_10
                  case t_10 => exact (xe_call D_by_need (Nat.le_of_ble_eq_true rfl) rfl ⟨chain_1, heap_1, x1, rfl, (by first | assumption | omega | decide | (simp; done)), (by first | assumption | omega | decide | (simp; done)), (by first | assumption | omega | decide | (simp; done)), rfl⟩ (xa_cons (xe_var 1) (xa_cons (xe_var 2) (xa_cons (xe_var 3) xa_nil))))
                  case k_10 =>
                    show XSs _ _ [.dat (scrD script), .dat (emb (chain_1 : (List Int))), .dat (emb (heap_1 : (List Int))), .dat (.int x1), .junk, .junk, .junk, .dat (.int fin_1), .junk, .dat (.int told_1), .dat (emb (need_1 : (List (List Int)))), .junk, .junk, .junk, .junk, .junk, .junk, .junk, .junk, .junk] _
                    refine' xss_if (k := ((!decide ((need_1 : (List (List Int))) = (law_need chain_1 heap_1 x1))) || (!decide ((lmax (worths chain_1 need_1)) = fin_1)))) ?t_11 (fun hb5 => ?a_11) (fun hb5 => ?b_11)
                    case t_11 => exact (XW.pt (xw_or (xt_neT (x := (need_1 : (List (List Int)))) (y := ((law_need chain_1 heap_1 x1) : (List (List Int)))) (xe_var 10) (xe_call D__law_need (Nat.le_of_ble_eq_true rfl) rfl ⟨chain_1, heap_1, x1, rfl, (by first | assumption | omega | decide | (simp; done)), (by first | assumption | omega | decide | (simp; done)), (by first | assumption | omega | decide | (simp; done)), rfl⟩ (xa_cons (xe_var 1) (xa_cons (xe_var 2) (xa_cons (xe_var 3) xa_nil))))) (fun hs4 => (xw_or1 (xt_neI (xe_max (by first | assumption | omega | decide | (simp; done)) rfl T.b_max (xe_call D_worths (Nat.le_of_ble_eq_true rfl) rfl ⟨chain_1, need_1, rfl, (by first | assumption | omega | decide | (simp; done)), (by first | assumption | omega | decide | (simp; done)), rfl⟩ (xa_cons (xe_var 1) (xa_cons (xe_var 10) xa_nil)))) (xe_var 7))))))
                    case a_11 =>
                      have hp5 := hb5
                      try simp only [Bool.and_eq_true, Bool.or_eq_true, Bool.not_eq_true', Bool.not_eq_false', Bool.or_eq_false_iff, Bool.and_eq_false_iff, decide_eq_true_eq, decide_eq_false_iff_not, Bool.not_eq_true, Bool.not_eq_false] at hp5
                      rw [if_pos hb5] at hq1
                      rw [go_rt (forF_rt hx1 hist1 (hk1.symm.trans hq1))] at hq0
                      refine xss_ret (d := (.bool false)) ?_ (by rw [hq0]; try rfl)
                      exact xe_bl
                    case b_11 =>
                      have hp5 := hb5
                      try simp only [Bool.and_eq_true, Bool.or_eq_true, Bool.not_eq_true', Bool.not_eq_false', Bool.or_eq_false_iff, Bool.and_eq_false_iff, decide_eq_true_eq, decide_eq_false_iff_not, Bool.not_eq_true, Bool.not_eq_false] at hp5
                      rw [if_neg (by rw [hb5]; exact Bool.false_ne_true)] at hq1
                      refine xss_nil ?_
                      show XSs _ _ [.dat (scrD script), .dat (emb (chain_1 : (List Int))), .dat (emb (heap_1 : (List Int))), .dat (.int x1), .junk, .junk, .junk, .dat (.int fin_1), .junk, .dat (.int told_1), .dat (emb (need_1 : (List (List Int)))), .junk, .junk, .junk, .junk, .junk, .junk, .junk, .junk, .junk] _
                      extract_lets +onlyGivenNames -merge rows_1 at hq1
                      have hx_rows_1 : rows_1 = (((rng 0 (Int.toNat x1)).map (fun j_1 => ((repL ([(0 : Int)]) (chain_1.length : Int)) : (List Int)))) : (List (List Int))) := rfl
                      clear_value rows_1
                      have hr1 : Rect rows_1 x1.toNat chain_1.length := by rw [hx_rows_1]; have q := rect_new (rng 0 (Int.toNat x1)) (0 : Int) (chain_1.length : Int); rw [rng_len] at q; exact q
                      refine' xss_setLmE hx_rows_1 11 [("j", 17)] ?t_12 rfl sc_law.nd ?k_12
                      case t_12 => exact (xlmE (emb : Int → PyData) (fun j_1 => ((repL ([(0 : Int)]) (chain_1.length : Int)) : (List Int))) (xi_range1 (by exact ⟨by omega, by omega⟩) T.b_range (xe_var 3)) rfl sc_law.nd (by rw [rng_len]; omega) (xg_name 17 sc_law.nd) (by decide) (fun _ _ => Nat.le_of_ble_eq_true rfl) (fun j_1 hm_j_1 => (xn_repI (xs := [(0 : Int)]) (by exact ⟨by omega, by omega, by simp; omega⟩) (XN.xe (xn_lst (xa_cons xe_int xa_nil))) (XE.to (xe_lenL T.b_len (xe_var 1)) (by rw [List.length_map])))))
                      case k_12 =>
                        show XSs _ _ [.dat (scrD script), .dat (emb (chain_1 : (List Int))), .dat (emb (heap_1 : (List Int))), .dat (.int x1), .junk, .junk, .junk, .dat (.int fin_1), .junk, .dat (.int told_1), .dat (emb (need_1 : (List (List Int)))), .own (.mat (embM rows_1)), .junk, .junk, .junk, .junk, .junk, .junk, .junk, .junk] _
                        extract_lets +onlyGivenNames -merge turn_1 at hq1
                        have hx_turn_1 : turn_1 = ((0 : Int) : Int) := rfl
                        clear_value turn_1
                        refine' xss_setE hx_turn_1 12 sc_law.nd ?t_13 ?k_13
                        case t_13 => exact xe_int
                        case k_13 =>
                          show XSs _ _ [.dat (scrD script), .dat (emb (chain_1 : (List Int))), .dat (emb (heap_1 : (List Int))), .dat (.int x1), .junk, .junk, .junk, .dat (.int fin_1), .junk, .dat (.int told_1), .dat (emb (need_1 : (List (List Int)))), .own (.mat (embM rows_1)), .dat (.int turn_1), .junk, .junk, .junk, .junk, .junk, .junk, .junk] _
                          extract_lets +onlyGivenNames -merge fin_3 at hq1
                          have hF3 : fin_3 = (rngC ((chain_1.length : Int) - (1 : Int)) (-1) (Int.toNat (((chain_1.length : Int) - (1 : Int)) - (-(1 : Int))))).foldl (bd_law_3 heap_1 x1) (T2.mk rows_1 turn_1) := rfl
                          clear_value fin_3
                          refine' xss_forS (emb : Int → PyData) (fun (s3 : (T2 (List (List Int)) Int)) => ([.dat (scrD script), .dat (emb (chain_1 : (List Int))), .dat (emb (heap_1 : (List Int))), .dat (.int x1), .junk, .junk, .junk, .dat (.int fin_1), .junk, .dat (.int told_1), .dat (emb (need_1 : (List (List Int)))), .own (.mat (embM s3.p0)), .dat (.int s3.p1), .junk, .junk, .junk, .junk, .junk, .junk, .junk] : Evm)) (bd_law_3 heap_1 x1) (T2.mk rows_1 turn_1) hF3 ?i_14 rfl (xgc_name 8 sc_law.nd) (Le.cs (Le.cs (Le.cs (Le.cs (Le.cj (Le.cj (Le.cj (Le.cs (Le.cj (Le.cs (Le.cs (Le.cs (Le.cs (Le.cj (Le.cj (Le.cj (Le.cj (Le.cj (Le.cj (Le.cj Le.nil)))))))))))))))))))) (fun i3 x3 s3 hx3 hist3 => ?tn_14) ?k_14
                          case i_14 => exact (xi_range3 (RgC.neg (by first | assumption | omega | decide | (simp; done)) (by first | assumption | omega | decide | (simp; done)) (by first | assumption | omega | decide | (simp; done)) (by first | assumption | omega | decide | (simp; done))) T.b_range (xe_sub (XE.to (xe_lenL T.b_len (xe_var 1)) (by rw [List.length_map])) xe_int) (xe_neg xe_int) (xe_neg xe_int))
                          case tn_14 =>
                            refine ⟨by exact Nat.le_of_ble_eq_true rfl, ?_⟩
                            obtain ⟨q3, hk3⟩ : ∃ q, q = (bd_law_3 heap_1 x1) s3 x3 := ⟨_, rfl⟩
                            have hq3 := hk3
                            unfold bd_law_3 at hq3
                            have hx3m := mem_down (List.mem_of_getElem? hx3)
                            have hI := law_turns_inv hist3 hr1
                            have hhk := hh.at_ hx3m
                            show XSs _ _ [.dat (scrD script), .dat (emb (chain_1 : (List Int))), .dat (emb (heap_1 : (List Int))), .dat (.int x1), .junk, .junk, .junk, .dat (.int fin_1), .dat (.int x3), .dat (.int told_1), .dat (emb (need_1 : (List (List Int)))), .own (.mat (embM s3.p0)), .dat (.int s3.p1), .junk, .junk, .junk, .junk, .junk, .junk, .junk] _
                            extract_lets +onlyGivenNames -merge fin_2 at hq3
                            have hF4 : fin_2 = (rng 0 (Int.toNat (getI heap_1 x3))).foldl (bd_law_4 x1 x3) (T2.mk s3.p0 s3.p1) := rfl
                            clear_value fin_2
                            refine' xss_forS (emb : Int → PyData) (fun (s4 : (T2 (List (List Int)) Int)) => ([.dat (scrD script), .dat (emb (chain_1 : (List Int))), .dat (emb (heap_1 : (List Int))), .dat (.int x1), .junk, .junk, .junk, .dat (.int fin_1), .dat (.int x3), .dat (.int told_1), .dat (emb (need_1 : (List (List Int)))), .own (.mat (embM s4.p0)), .dat (.int s4.p1), .junk, .junk, .junk, .junk, .junk, .junk, .junk] : Evm)) (bd_law_4 x1 x3) (T2.mk s3.p0 s3.p1) hF4 ?i_15 rfl (xgc_name 15 sc_law.nd) (Le.cs (Le.cs (Le.cs (Le.cs (Le.cj (Le.cj (Le.cj (Le.cs (Le.cs (Le.cs (Le.cs (Le.cs (Le.cs (Le.cj (Le.cj (Le.cj (Le.cj (Le.cj (Le.cj (Le.cj Le.nil)))))))))))))))))))) (fun i4 x4 s4 hx4 hist4 => ?tn_15) ?k_15
                            case i_15 => exact (xi_range1 (by exact ⟨by omega, by omega⟩) T.b_range (xe_ixI (xs := heap_1) (by exact ⟨by omega, by omega⟩) (xe_var 2) (xe_var 8)))
                            case tn_15 =>
                              refine ⟨by exact Nat.le_of_ble_eq_true rfl, ?_⟩
                              obtain ⟨q4, hk4⟩ : ∃ q, q = (bd_law_4 x1 x3) s4 x4 := ⟨_, rfl⟩
                              have hq4 := hk4
                              unfold bd_law_4 at hq4
                              have hI2 := law_turns_inv2 hist4 hI
                              have h21 := hI2.1
                              have hm1 := Int.emod_nonneg s4.p1 (show x1 ≠ 0 by omega)
                              have hm2 := Int.emod_lt_of_pos s4.p1 (show 0 < x1 by omega)
                              have hrw := hI2.row (a := s4.p1 % x1) ⟨hm1, by omega⟩
                              have hrg := getI_row (rows := s4.p0) (a := s4.p1 % x1) ⟨hm1, by omega⟩
                              show XSs _ _ [.dat (scrD script), .dat (emb (chain_1 : (List Int))), .dat (emb (heap_1 : (List Int))), .dat (.int x1), .junk, .junk, .junk, .dat (.int fin_1), .dat (.int x3), .dat (.int told_1), .dat (emb (need_1 : (List (List Int)))), .own (.mat (embM s4.p0)), .dat (.int s4.p1), .junk, .junk, .dat (.int x4), .junk, .junk, .junk, .junk] _
                              extract_lets +onlyGivenNames -merge rows_2 at hq4
                              have hx_rows_2 : rows_2 = ((setM s4.p0 (s4.p1 % x1) x3 ((getI (getI s4.p0 (s4.p1 % x1)) x3) + (1 : Int))) : (List (List Int))) := rfl
                              clear_value rows_2
                              refine' xss_setME hx_rows_2 11 (by exact ⟨hm1, by omega⟩) (by exact ⟨by omega, by omega⟩) ?t_16 ?a_16 ?b_16 ?k_16
                              case t_16 => exact (xe_tmpME 11 (xe_add (xe_ixI (xs := (getI s4.p0 (s4.p1 % x1))) (by rw [hrg]; exact ⟨by omega, by omega⟩) (xe_ixI (xs := s4.p0) (by exact ⟨by omega, by omega⟩) (xe_var 11) (xe_mod (by first | assumption | omega | decide | (simp; done)) (xe_var 12) (xe_var 3))) (xe_var 8)) xe_int))
                              case a_16 => exact (xe_mod (by first | assumption | omega | decide | (simp; done)) (xe_var 12) (xe_var 3))
                              case b_16 => exact (xe_var 8)
                              case k_16 =>
                                show XSs _ _ [.dat (scrD script), .dat (emb (chain_1 : (List Int))), .dat (emb (heap_1 : (List Int))), .dat (.int x1), .junk, .junk, .junk, .dat (.int fin_1), .dat (.int x3), .dat (.int told_1), .dat (emb (need_1 : (List (List Int)))), .own (.mat (embM rows_2)), .dat (.int s4.p1), .junk, .junk, .dat (.int x4), .junk, .junk, .junk, .junk] _
                                extract_lets +onlyGivenNames -merge turn_2 at hq4
                                have hx_turn_2 : turn_2 = ((s4.p1 + (1 : Int)) : Int) := rfl
                                clear_value turn_2
                                refine' xss_setE hx_turn_2 12 sc_law.nd ?t_17 ?k_17
                                case t_17 => exact (xe_add (xe_var 12) xe_int)
                                case k_17 =>
                                  show XSs _ _ [.dat (scrD script), .dat (emb (chain_1 : (List Int))), .dat (emb (heap_1 : (List Int))), .dat (.int x1), .junk, .junk, .junk, .dat (.int fin_1), .dat (.int x3), .dat (.int told_1), .dat (emb (need_1 : (List (List Int)))), .own (.mat (embM rows_2)), .dat (.int turn_2), .junk, .junk, .dat (.int x4), .junk, .junk, .junk, .junk] _
                                  exact xss_nil (by rw [← hk4, hq4]; exact (Le.cs (Le.cs (Le.cs (Le.cs (Le.cj (Le.cj (Le.cj (Le.cs (Le.cs (Le.cs (Le.cs (Le.cs (Le.cs (Le.cj (Le.cj (Le.cj (Le.cj (Le.cj (Le.cj (Le.cj Le.nil)))))))))))))))))))))
                            case k_15 =>
                              show XSs _ _ [.dat (scrD script), .dat (emb (chain_1 : (List Int))), .dat (emb (heap_1 : (List Int))), .dat (.int x1), .junk, .junk, .junk, .dat (.int fin_1), .dat (.int x3), .dat (.int told_1), .dat (emb (need_1 : (List (List Int)))), .own (.mat (embM fin_2.p0)), .dat (.int fin_2.p1), .junk, .junk, .junk, .junk, .junk, .junk, .junk] _
                              exact xss_nil (by rw [← hk3, hq3]; exact (Le.cs (Le.cs (Le.cs (Le.cs (Le.cj (Le.cj (Le.cj (Le.cs (Le.cj (Le.cs (Le.cs (Le.cs (Le.cs (Le.cj (Le.cj (Le.cj (Le.cj (Le.cj (Le.cj (Le.cj Le.nil)))))))))))))))))))))
                          case k_14 =>
                            have hE : Rect fin_3.p0 x1.toNat chain_1.length := law_turns_end hF3 hr1
                            have hE1 := hE.1
                            show XSs _ _ [.dat (scrD script), .dat (emb (chain_1 : (List Int))), .dat (emb (heap_1 : (List Int))), .dat (.int x1), .junk, .junk, .junk, .dat (.int fin_1), .junk, .dat (.int told_1), .dat (emb (need_1 : (List (List Int)))), .own (.mat (embM fin_3.p0)), .dat (.int fin_3.p1), .junk, .junk, .junk, .junk, .junk, .junk, .junk] _
                            refine xss_frzME 11 ?_
                            refine' xss_if (k := ((!decide (((by_turns chain_1 heap_1 x1) : (List (List Int))) = fin_3.p0)) || (!decide (((worths chain_1 fin_3.p0) : (List Int)) = (fin_3.p0.map (fun row_1 => ((law_worth chain_1 row_1) : Int))))))) ?t_18 (fun hb7 => ?a_18) (fun hb7 => ?b_18)
                            case t_18 => exact (XW.pt (xw_or (xt_neT (x := ((by_turns chain_1 heap_1 x1) : (List (List Int)))) (y := (fin_3.p0 : (List (List Int)))) (xe_call D_by_turns (Nat.le_of_ble_eq_true rfl) rfl ⟨chain_1, heap_1, x1, rfl, (by first | assumption | omega | decide | (simp; done)), (by first | assumption | omega | decide | (simp; done)), (by first | assumption | omega | decide | (simp; done)), rfl⟩ (xa_cons (xe_var 1) (xa_cons (xe_var 2) (xa_cons (xe_var 3) xa_nil)))) (xe_var 11)) (fun hs6 => (xw_or1 (xt_neT (x := ((worths chain_1 fin_3.p0) : (List Int))) (y := ((fin_3.p0.map (fun row_1 => ((law_worth chain_1 row_1) : Int))) : (List Int))) (xe_call D_worths (Nat.le_of_ble_eq_true rfl) rfl ⟨chain_1, fin_3.p0, rfl, (by first | assumption | omega | decide | (simp; done)), (by first | assumption | omega | decide | (simp; done)), rfl⟩ (xa_cons (xe_var 1) (xa_cons (xe_var 11) xa_nil))) (XN.xe (xn_lc [("row", 18)] (xlc_map (emb : (List Int) → PyData) (fun row_1 => ((law_worth chain_1 row_1) : Int)) (xi_list (xe_var 11)) rfl sc_law.nd (by first | assumption | omega | decide | (simp; done)) (xg_name 18 sc_law.nd) (by decide) (fun _ _ => Nat.le_of_ble_eq_true rfl) (fun row_1 hm_row_1 => (xe_call D__law_worth (Nat.le_of_ble_eq_true rfl) rfl ⟨chain_1, row_1, rfl, (by first | assumption | omega | decide | (simp; done)), (by have := hE.2 _ hm_row_1; omega), rfl⟩ (xa_cons (xe_var 1) (xa_cons (xe_var 18) xa_nil))))) rfl sc_law.nd)))))))
                            case a_18 =>
                              have hp7 := hb7
                              try simp only [Bool.and_eq_true, Bool.or_eq_true, Bool.not_eq_true', Bool.not_eq_false', Bool.or_eq_false_iff, Bool.and_eq_false_iff, decide_eq_true_eq, decide_eq_false_iff_not, Bool.not_eq_true, Bool.not_eq_false] at hp7
                              rw [if_pos hb7] at hq1
                              rw [go_rt (forF_rt hx1 hist1 (hk1.symm.trans hq1))] at hq0
                              refine xss_ret (d := (.bool false)) ?_ (by rw [hq0]; try rfl)
                              exact xe_bl
                            case b_18 =>
                              have hp7 := hb7
                              try simp only [Bool.and_eq_true, Bool.or_eq_true, Bool.not_eq_true', Bool.not_eq_false', Bool.or_eq_false_iff, Bool.and_eq_false_iff, decide_eq_true_eq, decide_eq_false_iff_not, Bool.not_eq_true, Bool.not_eq_false] at hp7
                              rw [if_neg (by rw [hb7]; exact Bool.false_ne_true)] at hq1
                              refine xss_nil ?_
                              show XSs _ _ [.dat (scrD script), .dat (emb (chain_1 : (List Int))), .dat (emb (heap_1 : (List Int))), .dat (.int x1), .junk, .junk, .junk, .dat (.int fin_1), .junk, .dat (.int told_1), .dat (emb (need_1 : (List (List Int)))), .dat (emb (fin_3.p0 : (List (List Int)))), .dat (.int fin_3.p1), .junk, .junk, .junk, .junk, .junk, .junk, .junk] _
                              extract_lets +onlyGivenNames -merge sums_1 at hq1
                              have hx_sums_1 : sums_1 = ((fin_3.p0.map (fun row_2 => ((law_worth chain_1 row_2) : Int))) : (List Int)) := rfl
                              clear_value sums_1
                              have hs0 : sums_1 ≠ [] := by rw [hx_sums_1]; exact map_ne (by omega)
                              refine' xss_setLcE hx_sums_1 13 [("row", 18)] ?t_19 rfl sc_law.nd ?k_19
                              case t_19 => exact (xlc_map (emb : (List Int) → PyData) (fun row_2 => ((law_worth chain_1 row_2) : Int)) (xi_list (xe_var 11)) rfl sc_law.nd (by first | assumption | omega | decide | (simp; done)) (xg_name 18 sc_law.nd) (by decide) (fun _ _ => Nat.le_of_ble_eq_true rfl) (fun row_2 hm_row_2 => (xe_call D__law_worth (Nat.le_of_ble_eq_true rfl) rfl ⟨chain_1, row_2, rfl, (by first | assumption | omega | decide | (simp; done)), (by have := hE.2 _ hm_row_2; omega), rfl⟩ (xa_cons (xe_var 1) (xa_cons (xe_var 18) xa_nil)))))
                              case k_19 =>
                                show XSs _ _ [.dat (scrD script), .dat (emb (chain_1 : (List Int))), .dat (emb (heap_1 : (List Int))), .dat (.int x1), .junk, .junk, .junk, .dat (.int fin_1), .junk, .dat (.int told_1), .dat (emb (need_1 : (List (List Int)))), .dat (emb (fin_3.p0 : (List (List Int)))), .dat (.int fin_3.p1), .own (.lst (sums_1.map (emb : Int → PyData))), .junk, .junk, .junk, .junk, .junk, .junk] _
                                refine xss_frz 13 ?_
                                show XSs _ _ [.dat (scrD script), .dat (emb (chain_1 : (List Int))), .dat (emb (heap_1 : (List Int))), .dat (.int x1), .junk, .junk, .junk, .dat (.int fin_1), .junk, .dat (.int told_1), .dat (emb (need_1 : (List (List Int)))), .dat (emb (fin_3.p0 : (List (List Int)))), .dat (.int fin_3.p1), .dat (emb (sums_1 : (List Int))), .junk, .junk, .junk, .junk, .junk, .junk] _
                                refine' xss_if (k := ((!decide ((gap chain_1 fin_3.p0) = ((lmax sums_1) - (lmin sums_1)))) || (decide ((lmax sums_1) < fin_1)))) ?t_20 (fun hb9 => ?a_20) (fun hb9 => ?b_20)
                                case t_20 => exact (XW.pt (xw_or (xt_neI (xe_call D_gap (Nat.le_of_ble_eq_true rfl) rfl ⟨chain_1, fin_3.p0, rfl, (by first | assumption | omega | decide | (simp; done)), (by first | assumption | omega | decide | (simp; done)), rfl⟩ (xa_cons (xe_var 1) (xa_cons (xe_var 11) xa_nil))) (xe_sub (xe_max (by first | assumption | omega | decide | (simp; done)) rfl T.b_max (xe_var 13)) (xe_min (by first | assumption | omega | decide | (simp; done)) rfl T.b_min (xe_var 13)))) (fun hs8 => (xw_or1 (xt_lt (xe_max (by first | assumption | omega | decide | (simp; done)) rfl T.b_max (xe_var 13)) (xe_var 7))))))
                                case a_20 =>
                                  have hp9 := hb9
                                  try simp only [Bool.and_eq_true, Bool.or_eq_true, Bool.not_eq_true', Bool.not_eq_false', Bool.or_eq_false_iff, Bool.and_eq_false_iff, decide_eq_true_eq, decide_eq_false_iff_not, Bool.not_eq_true, Bool.not_eq_false] at hp9
                                  rw [if_pos hb9] at hq1
                                  rw [go_rt (forF_rt hx1 hist1 (hk1.symm.trans hq1))] at hq0
                                  refine xss_ret (d := (.bool false)) ?_ (by rw [hq0]; try rfl)
                                  exact xe_bl
                                case b_20 =>
                                  have hp9 := hb9
                                  try simp only [Bool.and_eq_true, Bool.or_eq_true, Bool.not_eq_true', Bool.not_eq_false', Bool.or_eq_false_iff, Bool.and_eq_false_iff, decide_eq_true_eq, decide_eq_false_iff_not, Bool.not_eq_true, Bool.not_eq_false] at hp9
                                  rw [if_neg (by rw [hb9]; exact Bool.false_ne_true)] at hq1
                                  refine xss_nil ?_
                                  show XSs _ _ [.dat (scrD script), .dat (emb (chain_1 : (List Int))), .dat (emb (heap_1 : (List Int))), .dat (.int x1), .junk, .junk, .junk, .dat (.int fin_1), .junk, .dat (.int told_1), .dat (emb (need_1 : (List (List Int)))), .dat (emb (fin_3.p0 : (List (List Int)))), .dat (.int fin_3.p1), .dat (emb (sums_1 : (List Int))), .junk, .junk, .junk, .junk, .junk, .junk] _
                                  exact xss_nil ⟨_, hk1.symm.trans hq1, (Le.cs (Le.cs (Le.cs (Le.cj (Le.cj (Le.cj (Le.cj (Le.cj (Le.cj (Le.cj (Le.cj (Le.cj (Le.cj (Le.cj (Le.cj (Le.cj (Le.cj (Le.cj (Le.cj (Le.cj Le.nil))))))))))))))))))))⟩
        case k_3 =>
          have hq_ := hq0.trans (go_end hF1)
          clear hq0
          have hq0 := hq_
          clear hq_
          show XSs _ _ [.dat (scrD script), .dat (emb (chain_1 : (List Int))), .dat (emb (heap_1 : (List Int))), .junk, .junk, .junk, .junk, .junk, .junk, .junk, .junk, .junk, .junk, .junk, .junk, .junk, .junk, .junk, .junk, .junk] _
          extract_lets +onlyGivenNames -merge weights_1 at hq0
          have hx_weights_1 : weights_1 = ((cut ((law_numbers script (2 : Int) (9 : Int)).map (fun number_1 => (((1 : Int) + (number_1 % (4 : Int))) : Int))) none (some ((2 : Int) + ((getI (law_numbers script (3 : Int) (1 : Int)) (0 : Int)) % (3 : Int))))) : (List Int)) := rfl
          clear_value weights_1
          have hw : Weights weights_1 := by rw [hx_weights_1]; exact law_weights_ok (numbers_len ..) (numbers_bd _ _ _) _
          have hws := weights_sum hw
          have hw8 := hw.2.1
          have hwl := hw.1
          refine' xss_setE hx_weights_1 4 sc_law.nd ?t_21 ?k_21
          case t_21 => exact (XN.xe (xn_slI (xs := ((law_numbers script (2 : Int) (9 : Int)).map (fun number_1 => (((1 : Int) + (number_1 % (4 : Int))) : Int)))) (XN.xe (xn_lc [("number", 19)] (xlc_map (emb : Int → PyData) (fun number_1 => (((1 : Int) + (number_1 % (4 : Int))) : Int)) (xi_list (xe_call D__law_numbers (Nat.le_of_ble_eq_true rfl) rfl ⟨script, (2 : Int), (9 : Int), rfl, (by first | assumption | omega | decide | (simp; done)), (by first | assumption | omega | decide | (simp; done)), rfl⟩ (xa_cons (xe_var 0) (xa_cons xe_int (xa_cons xe_int xa_nil))))) rfl sc_law.nd (by rw [numbers_len]; decide) (xg_name 19 sc_law.nd) (by decide) (fun _ _ => Nat.le_of_ble_eq_true rfl) (fun number_1 hm_number_1 => (xe_add xe_int (xe_mod (by decide) (xe_var 19) xe_int)))) rfl sc_law.nd)) xo_none (xo_some (xe_add xe_int (xe_mod (by decide) (xe_ixI (xs := (law_numbers script (3 : Int) (1 : Int))) (by rw [numbers_len]; exact ⟨by omega, by omega⟩) (xe_call D__law_numbers (Nat.le_of_ble_eq_true rfl) rfl ⟨script, (3 : Int), (1 : Int), rfl, (by first | assumption | omega | decide | (simp; done)), (by first | assumption | omega | decide | (simp; done)), rfl⟩ (xa_cons (xe_var 0) (xa_cons xe_int (xa_cons xe_int xa_nil)))) xe_int) xe_int)))))
          case k_21 =>
            show XSs _ _ [.dat (scrD script), .dat (emb (chain_1 : (List Int))), .dat (emb (heap_1 : (List Int))), .junk, .dat (emb (weights_1 : (List Int))), .junk, .junk, .junk, .junk, .junk, .junk, .junk, .junk, .junk, .junk, .junk, .junk, .junk, .junk, .junk] _
            extract_lets +onlyGivenNames -merge whole_1 at hq0
            have hx_whole_1 : whole_1 = ((law_worth chain_1 heap_1) : Int) := rfl
            clear_value whole_1
            refine' xss_setE hx_whole_1 5 sc_law.nd ?t_22 ?k_22
            case t_22 => exact (xe_call D__law_worth (Nat.le_of_ble_eq_true rfl) rfl ⟨chain_1, heap_1, rfl, (by first | assumption | omega | decide | (simp; done)), (by first | assumption | omega | decide | (simp; done)), rfl⟩ (xa_cons (xe_var 1) (xa_cons (xe_var 2) xa_nil)))
            case k_22 =>
              show XSs _ _ [.dat (scrD script), .dat (emb (chain_1 : (List Int))), .dat (emb (heap_1 : (List Int))), .junk, .dat (emb (weights_1 : (List Int))), .dat (.int whole_1), .junk, .junk, .junk, .junk, .junk, .junk, .junk, .junk, .junk, .junk, .junk, .junk, .junk, .junk] _
              extract_lets +onlyGivenNames -merge amounts_1 at hq0
              have hx_amounts_1 : amounts_1 = ((weights_1.map (fun weight_1 => (((whole_1 * weight_1) / (weights_1.sum)) : Int))) : (List Int)) := rfl
              clear_value amounts_1
              have ham : amounts_1.length ≤ 1000 := by rw [hx_amounts_1, List.length_map]; omega
              refine' xss_setLcE hx_amounts_1 6 [("weight", 16)] ?t_23 rfl sc_law.nd ?k_23
              case t_23 => exact (xlc_map (emb : Int → PyData) (fun weight_1 => (((whole_1 * weight_1) / (weights_1.sum)) : Int)) (xi_list (xe_var 4)) rfl sc_law.nd (by first | assumption | omega | decide | (simp; done)) (xg_name 16 sc_law.nd) (by decide) (fun _ _ => Nat.le_of_ble_eq_true rfl) (fun weight_1 hm_weight_1 => (xe_div (by exact ⟨by omega, by omega⟩) (xe_mul (by have := hw.2.2 _ hm_weight_1; exact .inr ⟨by omega, by omega⟩) (xe_var 5) (xe_var 16)) (xe_sum rfl T.b_sum (xe_var 4)))))
              case k_23 =>
                show XSs _ _ [.dat (scrD script), .dat (emb (chain_1 : (List Int))), .dat (emb (heap_1 : (List Int))), .junk, .dat (emb (weights_1 : (List Int))), .dat (.int whole_1), .own (.lst (amounts_1.map (emb : Int → PyData))), .junk, .junk, .junk, .junk, .junk, .junk, .junk, .junk, .junk, .junk, .junk, .junk, .junk] _
                refine xss_frz 6 ?_
                show XSs _ _ [.dat (scrD script), .dat (emb (chain_1 : (List Int))), .dat (emb (heap_1 : (List Int))), .junk, .dat (emb (weights_1 : (List Int))), .dat (.int whole_1), .dat (emb (amounts_1 : (List Int))), .junk, .junk, .junk, .junk, .junk, .junk, .junk, .junk, .junk, .junk, .junk, .junk, .junk] _
                refine' xss_if (k := (!decide ((((weights_1.filter (fun weight_2 => (!decide (((whole_1 * weight_2) % (weights_1.sum)) = (0 : Int))))).map (fun weight_2 => (weight_2 : Int))) : (List Int)) = ([] : (List Int))))) ?t_24 (fun hb10 => ?a_24) (fun hb10 => ?b_24)
                case t_24 => exact (xt_neT (x := (((weights_1.filter (fun weight_2 => (!decide (((whole_1 * weight_2) % (weights_1.sum)) = (0 : Int))))).map (fun weight_2 => (weight_2 : Int))) : (List Int))) (y := (([] : (List Int)) : (List Int))) (XN.xe (xn_lc [("weight", 16)] (xlc_filter (emb : Int → PyData) (fun weight_2 => (weight_2 : Int)) (fun weight_2 => (!decide (((whole_1 * weight_2) % (weights_1.sum)) = (0 : Int)))) (xi_list (xe_var 4)) rfl sc_law.nd (by first | assumption | omega | decide | (simp; done)) (xg_name 16 sc_law.nd) (by decide) (fun _ _ => Nat.le_of_ble_eq_true rfl) (fun weight_2 hm_weight_2 => (xt_neI (xe_mod (by first | assumption | omega | decide | (simp; done)) (xe_mul (by have := hw.2.2 _ hm_weight_2; exact .inr ⟨by omega, by omega⟩) (xe_var 5) (xe_var 16)) (xe_sum rfl T.b_sum (xe_var 4))) xe_int)) (fun weight_2 hm_weight_2 hf_weight_2 => (xe_var 16))) rfl sc_law.nd)) (XN.xe (xn_lst xa_nil)))
                case a_24 =>
                  have hp10 := hb10
                  try simp only [Bool.and_eq_true, Bool.or_eq_true, Bool.not_eq_true', Bool.not_eq_false', Bool.or_eq_false_iff, Bool.and_eq_false_iff, decide_eq_true_eq, decide_eq_false_iff_not, Bool.not_eq_true, Bool.not_eq_false] at hp10
                  rw [if_pos hb10] at hq0
                  refine xss_ret (d := (.bool (((parts chain_1 heap_1 weights_1).isNone) && ((weighed chain_1 heap_1 weights_1).isNone)))) ?_ (by rw [hq0]; try rfl)
                  exact (xe_and (xe_isNO (xe_call D_parts (Nat.le_of_ble_eq_true rfl) rfl ⟨chain_1, heap_1, weights_1, rfl, (by first | assumption | omega | decide | (simp; done)), (by first | assumption | omega | decide | (simp; done)), (by first | assumption | omega | decide | (simp; done)), rfl⟩ (xa_cons (xe_var 1) (xa_cons (xe_var 2) (xa_cons (xe_var 4) xa_nil))))) (fun hs11 => (xe_one (xe_isNO (xe_call D_weighed (Nat.le_of_ble_eq_true rfl) rfl ⟨chain_1, heap_1, weights_1, rfl, (by first | assumption | omega | decide | (simp; done)), (by first | assumption | omega | decide | (simp; done)), (by first | assumption | omega | decide | (simp; done)), rfl⟩ (xa_cons (xe_var 1) (xa_cons (xe_var 2) (xa_cons (xe_var 4) xa_nil))))))))
                case b_24 =>
                  have hp10 := hb10
                  try simp only [Bool.and_eq_true, Bool.or_eq_true, Bool.not_eq_true', Bool.not_eq_false', Bool.or_eq_false_iff, Bool.and_eq_false_iff, decide_eq_true_eq, decide_eq_false_iff_not, Bool.not_eq_true, Bool.not_eq_false] at hp10
                  rw [if_neg (by rw [hb10]; exact Bool.false_ne_true)] at hq0
                  refine xss_nil ?_
                  show XSs _ _ [.dat (scrD script), .dat (emb (chain_1 : (List Int))), .dat (emb (heap_1 : (List Int))), .junk, .dat (emb (weights_1 : (List Int))), .dat (.int whole_1), .dat (emb (amounts_1 : (List Int))), .junk, .junk, .junk, .junk, .junk, .junk, .junk, .junk, .junk, .junk, .junk, .junk, .junk] _
                  refine' xss_if (k := (!decide (((parts chain_1 heap_1 weights_1) : (Option (List Int))) = (some amounts_1)))) ?t_25 (fun hb12 => ?a_25) (fun hb12 => ?b_25)
                  case t_25 => exact (xt_neT (x := ((parts chain_1 heap_1 weights_1) : (Option (List Int)))) (y := ((some amounts_1) : (Option (List Int)))) (xe_call D_parts (Nat.le_of_ble_eq_true rfl) rfl ⟨chain_1, heap_1, weights_1, rfl, (by first | assumption | omega | decide | (simp; done)), (by first | assumption | omega | decide | (simp; done)), (by first | assumption | omega | decide | (simp; done)), rfl⟩ (xa_cons (xe_var 1) (xa_cons (xe_var 2) (xa_cons (xe_var 4) xa_nil)))) (xe_var 6))
                  case a_25 =>
                    have hp12 := hb12
                    try simp only [Bool.and_eq_true, Bool.or_eq_true, Bool.not_eq_true', Bool.not_eq_false', Bool.or_eq_false_iff, Bool.and_eq_false_iff, decide_eq_true_eq, decide_eq_false_iff_not, Bool.not_eq_true, Bool.not_eq_false] at hp12
                    rw [if_pos hb12] at hq0
                    refine xss_ret (d := (.bool false)) ?_ (by rw [hq0]; try rfl)
                    exact xe_bl
                  case b_25 =>
                    have hp12 := hb12
                    try simp only [Bool.and_eq_true, Bool.or_eq_true, Bool.not_eq_true', Bool.not_eq_false', Bool.or_eq_false_iff, Bool.and_eq_false_iff, decide_eq_true_eq, decide_eq_false_iff_not, Bool.not_eq_true, Bool.not_eq_false] at hp12
                    rw [if_neg (by rw [hb12]; exact Bool.false_ne_true)] at hq0
                    refine xss_nil ?_
                    show XSs _ _ [.dat (scrD script), .dat (emb (chain_1 : (List Int))), .dat (emb (heap_1 : (List Int))), .junk, .dat (emb (weights_1 : (List Int))), .dat (.int whole_1), .dat (emb (amounts_1 : (List Int))), .junk, .junk, .junk, .junk, .junk, .junk, .junk, .junk, .junk, .junk, .junk, .junk, .junk] _
                    refine' xss_if (k := (!decide (((law_lacks chain_1 heap_1 amounts_1) : (List Int)) = ([] : (List Int))))) ?t_26 (fun hb13 => ?a_26) (fun hb13 => ?b_26)
                    case t_26 => exact (xt_neT (x := ((law_lacks chain_1 heap_1 amounts_1) : (List Int))) (y := (([] : (List Int)) : (List Int))) (xe_call D__law_lacks (Nat.le_of_ble_eq_true rfl) rfl ⟨chain_1, heap_1, amounts_1, rfl, (by first | assumption | omega | decide | (simp; done)), (by first | assumption | omega | decide | (simp; done)), (by first | assumption | omega | decide | (simp; done)), rfl⟩ (xa_cons (xe_var 1) (xa_cons (xe_var 2) (xa_cons (xe_var 6) xa_nil)))) (XN.xe (xn_lst xa_nil)))
                    case a_26 =>
                      have hp13 := hb13
                      try simp only [Bool.and_eq_true, Bool.or_eq_true, Bool.not_eq_true', Bool.not_eq_false', Bool.or_eq_false_iff, Bool.and_eq_false_iff, decide_eq_true_eq, decide_eq_false_iff_not, Bool.not_eq_true, Bool.not_eq_false] at hp13
                      rw [if_pos hb13] at hq0
                      refine xss_ret (d := (.bool ((weighed chain_1 heap_1 weights_1).isNone))) ?_ (by rw [hq0]; try rfl)
                      exact (xe_isNO (xe_call D_weighed (Nat.le_of_ble_eq_true rfl) rfl ⟨chain_1, heap_1, weights_1, rfl, (by first | assumption | omega | decide | (simp; done)), (by first | assumption | omega | decide | (simp; done)), (by first | assumption | omega | decide | (simp; done)), rfl⟩ (xa_cons (xe_var 1) (xa_cons (xe_var 2) (xa_cons (xe_var 4) xa_nil)))))
                    case b_26 =>
                      have hp13 := hb13
                      try simp only [Bool.and_eq_true, Bool.or_eq_true, Bool.not_eq_true', Bool.not_eq_false', Bool.or_eq_false_iff, Bool.and_eq_false_iff, decide_eq_true_eq, decide_eq_false_iff_not, Bool.not_eq_true, Bool.not_eq_false] at hp13
                      rw [if_neg (by rw [hb13]; exact Bool.false_ne_true)] at hq0
                      refine xss_nil ?_
                      show XSs _ _ [.dat (scrD script), .dat (emb (chain_1 : (List Int))), .dat (emb (heap_1 : (List Int))), .junk, .dat (emb (weights_1 : (List Int))), .dat (.int whole_1), .dat (emb (amounts_1 : (List Int))), .junk, .junk, .junk, .junk, .junk, .junk, .junk, .junk, .junk, .junk, .junk, .junk, .junk] _
                      refine' xss_if (k := (!decide (((weighed chain_1 heap_1 weights_1) : (Option (List (List Int)))) = (some (law_payments chain_1 heap_1 amounts_1))))) ?t_27 (fun hb14 => ?a_27) (fun hb14 => ?b_27)
                      case t_27 => exact (xt_neT (x := ((weighed chain_1 heap_1 weights_1) : (Option (List (List Int))))) (y := ((some (law_payments chain_1 heap_1 amounts_1)) : (Option (List (List Int))))) (xe_call D_weighed (Nat.le_of_ble_eq_true rfl) rfl ⟨chain_1, heap_1, weights_1, rfl, (by first | assumption | omega | decide | (simp; done)), (by first | assumption | omega | decide | (simp; done)), (by first | assumption | omega | decide | (simp; done)), rfl⟩ (xa_cons (xe_var 1) (xa_cons (xe_var 2) (xa_cons (xe_var 4) xa_nil)))) (xe_call D__law_payments (Nat.le_of_ble_eq_true rfl) rfl ⟨chain_1, heap_1, amounts_1, rfl, (by first | assumption | omega | decide | (simp; done)), (by first | assumption | omega | decide | (simp; done)), (by first | assumption | omega | decide | (simp; done)), rfl⟩ (xa_cons (xe_var 1) (xa_cons (xe_var 2) (xa_cons (xe_var 6) xa_nil)))))
                      case a_27 =>
                        have hp14 := hb14
                        try simp only [Bool.and_eq_true, Bool.or_eq_true, Bool.not_eq_true', Bool.not_eq_false', Bool.or_eq_false_iff, Bool.and_eq_false_iff, decide_eq_true_eq, decide_eq_false_iff_not, Bool.not_eq_true, Bool.not_eq_false] at hp14
                        rw [if_pos hb14] at hq0
                        refine xss_ret (d := (.bool false)) ?_ (by rw [hq0]; try rfl)
                        exact xe_bl
                      case b_27 =>
                        have hp14 := hb14
                        try simp only [Bool.and_eq_true, Bool.or_eq_true, Bool.not_eq_true', Bool.not_eq_false', Bool.or_eq_false_iff, Bool.and_eq_false_iff, decide_eq_true_eq, decide_eq_false_iff_not, Bool.not_eq_true, Bool.not_eq_false] at hp14
                        rw [if_neg (by rw [hb14]; exact Bool.false_ne_true)] at hq0
                        refine xss_nil ?_
                        show XSs _ _ [.dat (scrD script), .dat (emb (chain_1 : (List Int))), .dat (emb (heap_1 : (List Int))), .junk, .dat (emb (weights_1 : (List Int))), .dat (.int whole_1), .dat (emb (amounts_1 : (List Int))), .junk, .junk, .junk, .junk, .junk, .junk, .junk, .junk, .junk, .junk, .junk, .junk, .junk] _
                        refine xss_ret (d := (.bool true)) ?_ (by rw [hq0]; try rfl)
                        exact xe_bl
end K96


namespace K96
open PySem L2 Fw Emb PyProof.Rows
def ct (K : PySem.W.Frag) : Nat → Addr × Option Str := fun _ => (0, none)
def dd (i : Nat) (x y : Str) : He.DefD := ⟨(x, none), y, y, defArgs (top i), defBody (top i), defScope (top i), [], []⟩
def fn0 : List He.DefD := [dd 1 "is_whole" "is_whole", dd 2 "is_from_to" "is_from_to", dd 12 "is_listed" "is_listed", dd 13 "follows" "follows", dd 14 "first_wrong_chains" "first_wrong", dd 16 "check_chain" "check_chain", dd 20 "first_wrong_heaps" "first_wrong", dd 22 "check_counts" "check_counts", dd 23 "check_heap" "check_heap", dd 24 "worth_of" "worth_of", dd 25 "lesser_of" "lesser_of", dd 26 "greater_of" "greater_of", dd 28 "left_by" "left_by", dd 29 "spare_list" "spare_list", dd 30 "house_payments" "house_payments", dd 31 "first_lack" "first_lack", dd 32 "told_answer" "told_answer", dd 34 "room_of" "room_of", dd 35 "last_full" "last_full", dd 36 "house_load" "house_load", dd 38 "hold_for" "hold_for", dd 42 "check_persons" "check_persons", dd 43 "check_sharing" "check_sharing", dd 44 "least_greatest" "least_greatest", dd 45 "levelled" "levelled"]
def fn1 : List He.DefD := [dd 46 "by_turns" "by_turns", dd 47 "neediest" "neediest", dd 48 "by_need" "by_need", dd 49 "worths" "worths", dd 50 "gap" "gap", dd 53 "check_weights" "check_weights", dd 54 "amounts_of" "amounts_of", dd 55 "parts" "parts", dd 56 "weighed" "weighed", dd 58 "_law_numbers" "_law_numbers", dd 59 "_law_is_integer" "_law_is_integer", dd 60 "_law_chain" "_law_chain", dd 61 "_law_heap" "_law_heap", dd 62 "_law_worth" "_law_worth", dd 63 "_law_greater" "_law_greater", dd 64 "_law_laid" "_law_laid", dd 65 "_law_left" "_law_left", dd 66 "_law_lesser" "_law_lesser", dd 67 "_law_lacks" "_law_lacks", dd 68 "_law_payments" "_law_payments", dd 69 "_law_need" "_law_need", dd 70 "law" "law"]
def fn : List He.DefD := fn0 ++ fn1
def fa : List He.Fa := [.glo "is_whole", .glo "is_from_to", .glo "is_listed", .glo "follows", .glo "first_wrong_chains", .glo "check_chain", .glo "first_wrong_heaps", .glo "check_counts", .glo "check_heap", .glo "worth_of", .glo "lesser_of", .glo "greater_of", .glo "left_by", .glo "spare_list", .glo "house_payments", .glo "first_lack", .glo "told_answer", .glo "room_of", .glo "last_full", .glo "house_load", .glo "hold_for", .glo "check_persons", .glo "check_sharing", .glo "least_greatest", .glo "levelled", .glo "by_turns", .glo "neediest", .glo "by_need", .glo "worths", .glo "gap", .glo "check_weights", .glo "amounts_of", .glo "parts", .glo "weighed", .glo "_law_numbers", .glo "_law_is_integer", .glo "_law_chain", .glo "_law_heap", .glo "_law_worth", .glo "_law_greater", .glo "_law_laid", .glo "_law_left", .glo "_law_lesser", .glo "_law_lacks", .glo "_law_payments", .glo "_law_need", .glo "law", .free "all", .free "bool", .free "enumerate", .free "int", .free "isinstance", .free "len", .free "list", .free "max", .free "min", .free "range", .free "sum", .free "zip", .int "FEWEST" 2, .int "GREATEST_VALUE" 1000000, .int "GREATEST_WEIGHT" 100, .int "MOST" 8, .int "MOST_PIECES" 99, .int "MOST_VALUES" 8]
abbrev hk : PySem.W.Hook := He.hookD 4 fa fn
def ob (s : PySem.W.SharedT) : He.AlD := He.obsDG 4 fa fn (HandSHeadRun.getT s)
theorem ob_eq (s : PySem.W.SharedT) : ob s = hk.obs s.abs := He.obsDG_eq (HandSHeadRun.getT_eq s)
abbrev loose0 : List Str := ["is_whole", "is_from_to", "PieceError", "BadChain", "BadHeap", "BadNumber", "MOST_VALUES", "GREATEST_VALUE", "WRONG_LIST_chains", "is_listed", "follows", "first_wrong", "first_wrong_chains", "check_chain", "MOST_PIECES", "WRONG_LIST_heaps", "first_wrong_heaps", "check_counts", "check_heap", "worth_of", "lesser_of", "greater_of", "left_by", "spare_list", "house_payments", "first_lack", "told_answer", "room_of", "last_full", "house_load"]
abbrev loose1 : List Str := ["hold_for", "FEWEST", "MOST", "check_persons", "check_sharing", "least_greatest", "levelled", "by_turns", "neediest", "by_need", "worths", "gap", "GREATEST_WEIGHT", "check_weights", "amounts_of", "parts", "weighed", "_law_numbers", "_law_is_integer", "_law_chain", "_law_heap", "_law_worth", "_law_greater", "_law_laid", "_law_left", "_law_lesser", "_law_lacks", "_law_payments", "_law_need"]
abbrev loose : List Str := loose0 ++ loose1
theorem run (w : World) : HandSHeadRun.RunEq (PySem.W.OpenLaw.row PySem.Challenge.rw_paidatonce_k96_least_greatest_shares) (PySem.W.view (PySem.W.OpenLaw.row PySem.Challenge.rw_paidatonce_k96_least_greatest_shares).prog [70]) hk ob 20000 loose w := by
  intro os
  kernel_rfl
theorem facts {P : Program} {w : World} {K : PySem.W.Frag} {h : Heap} {mg : Str → Option Value} {f : Addr} (X : K.In h) (N : h.Ns mainGlobals mg) (hfa : mg ("law" : Str) = some (.ref f)) (c : He.SaysD fa fn K) :
    ∃ fd : FuncData, (∀ (s : Shared) (v : Value), BindsTo s fd ⟨[v], []⟩ [("script", v)]) ∧ ∀ base : Heap, FnOk P w K mg base (L2.CX P w) 8 f fd ["script"] (SpD (gcOf P w K mg base (ct K)) R_law) := by
  obtain ⟨fd_is_whole, U_is_whole⟩ := c.def_ 0 (d := dd 1 "is_whole" "is_whole") rfl
  have F_is_whole := He5.fun_of (st := top 1) U_is_whole
  obtain ⟨fd_is_from_to, U_is_from_to⟩ := c.def_ 1 (d := dd 2 "is_from_to" "is_from_to") rfl
  have F_is_from_to := He5.fun_of (st := top 2) U_is_from_to
  obtain ⟨fd_is_listed, U_is_listed⟩ := c.def_ 2 (d := dd 12 "is_listed" "is_listed") rfl
  have F_is_listed := He5.fun_of (st := top 12) U_is_listed
  obtain ⟨fd_follows, U_follows⟩ := c.def_ 3 (d := dd 13 "follows" "follows") rfl
  have F_follows := He5.fun_of (st := top 13) U_follows
  obtain ⟨fd_first_wrong_chains, U_first_wrong_chains⟩ := c.def_ 4 (d := dd 14 "first_wrong_chains" "first_wrong") rfl
  have F_first_wrong_chains := He5.fun_of (st := top 14) U_first_wrong_chains
  obtain ⟨fd_check_chain, U_check_chain⟩ := c.def_ 5 (d := dd 16 "check_chain" "check_chain") rfl
  have F_check_chain := He5.fun_of (st := top 16) U_check_chain
  obtain ⟨fd_first_wrong_heaps, U_first_wrong_heaps⟩ := c.def_ 6 (d := dd 20 "first_wrong_heaps" "first_wrong") rfl
  have F_first_wrong_heaps := He5.fun_of (st := top 20) U_first_wrong_heaps
  obtain ⟨fd_check_counts, U_check_counts⟩ := c.def_ 7 (d := dd 22 "check_counts" "check_counts") rfl
  have F_check_counts := He5.fun_of (st := top 22) U_check_counts
  obtain ⟨fd_check_heap, U_check_heap⟩ := c.def_ 8 (d := dd 23 "check_heap" "check_heap") rfl
  have F_check_heap := He5.fun_of (st := top 23) U_check_heap
  obtain ⟨fd_worth_of, U_worth_of⟩ := c.def_ 9 (d := dd 24 "worth_of" "worth_of") rfl
  have F_worth_of := He5.fun_of (st := top 24) U_worth_of
  obtain ⟨fd_lesser_of, U_lesser_of⟩ := c.def_ 10 (d := dd 25 "lesser_of" "lesser_of") rfl
  have F_lesser_of := He5.fun_of (st := top 25) U_lesser_of
  obtain ⟨fd_greater_of, U_greater_of⟩ := c.def_ 11 (d := dd 26 "greater_of" "greater_of") rfl
  have F_greater_of := He5.fun_of (st := top 26) U_greater_of
  obtain ⟨fd_left_by, U_left_by⟩ := c.def_ 12 (d := dd 28 "left_by" "left_by") rfl
  have F_left_by := He5.fun_of (st := top 28) U_left_by
  obtain ⟨fd_spare_list, U_spare_list⟩ := c.def_ 13 (d := dd 29 "spare_list" "spare_list") rfl
  have F_spare_list := He5.fun_of (st := top 29) U_spare_list
  obtain ⟨fd_house_payments, U_house_payments⟩ := c.def_ 14 (d := dd 30 "house_payments" "house_payments") rfl
  have F_house_payments := He5.fun_of (st := top 30) U_house_payments
  obtain ⟨fd_first_lack, U_first_lack⟩ := c.def_ 15 (d := dd 31 "first_lack" "first_lack") rfl
  have F_first_lack := He5.fun_of (st := top 31) U_first_lack
  obtain ⟨fd_told_answer, U_told_answer⟩ := c.def_ 16 (d := dd 32 "told_answer" "told_answer") rfl
  have F_told_answer := He5.fun_of (st := top 32) U_told_answer
  obtain ⟨fd_room_of, U_room_of⟩ := c.def_ 17 (d := dd 34 "room_of" "room_of") rfl
  have F_room_of := He5.fun_of (st := top 34) U_room_of
  obtain ⟨fd_last_full, U_last_full⟩ := c.def_ 18 (d := dd 35 "last_full" "last_full") rfl
  have F_last_full := He5.fun_of (st := top 35) U_last_full
  obtain ⟨fd_house_load, U_house_load⟩ := c.def_ 19 (d := dd 36 "house_load" "house_load") rfl
  have F_house_load := He5.fun_of (st := top 36) U_house_load
  obtain ⟨fd_hold_for, U_hold_for⟩ := c.def_ 20 (d := dd 38 "hold_for" "hold_for") rfl
  have F_hold_for := He5.fun_of (st := top 38) U_hold_for
  obtain ⟨fd_check_persons, U_check_persons⟩ := c.def_ 21 (d := dd 42 "check_persons" "check_persons") rfl
  have F_check_persons := He5.fun_of (st := top 42) U_check_persons
  obtain ⟨fd_check_sharing, U_check_sharing⟩ := c.def_ 22 (d := dd 43 "check_sharing" "check_sharing") rfl
  have F_check_sharing := He5.fun_of (st := top 43) U_check_sharing
  obtain ⟨fd_least_greatest, U_least_greatest⟩ := c.def_ 23 (d := dd 44 "least_greatest" "least_greatest") rfl
  have F_least_greatest := He5.fun_of (st := top 44) U_least_greatest
  obtain ⟨fd_levelled, U_levelled⟩ := c.def_ 24 (d := dd 45 "levelled" "levelled") rfl
  have F_levelled := He5.fun_of (st := top 45) U_levelled
  obtain ⟨fd_by_turns, U_by_turns⟩ := c.def_ 25 (d := dd 46 "by_turns" "by_turns") rfl
  have F_by_turns := He5.fun_of (st := top 46) U_by_turns
  obtain ⟨fd_neediest, U_neediest⟩ := c.def_ 26 (d := dd 47 "neediest" "neediest") rfl
  have F_neediest := He5.fun_of (st := top 47) U_neediest
  obtain ⟨fd_by_need, U_by_need⟩ := c.def_ 27 (d := dd 48 "by_need" "by_need") rfl
  have F_by_need := He5.fun_of (st := top 48) U_by_need
  obtain ⟨fd_worths, U_worths⟩ := c.def_ 28 (d := dd 49 "worths" "worths") rfl
  have F_worths := He5.fun_of (st := top 49) U_worths
  obtain ⟨fd_gap, U_gap⟩ := c.def_ 29 (d := dd 50 "gap" "gap") rfl
  have F_gap := He5.fun_of (st := top 50) U_gap
  obtain ⟨fd_check_weights, U_check_weights⟩ := c.def_ 30 (d := dd 53 "check_weights" "check_weights") rfl
  have F_check_weights := He5.fun_of (st := top 53) U_check_weights
  obtain ⟨fd_amounts_of, U_amounts_of⟩ := c.def_ 31 (d := dd 54 "amounts_of" "amounts_of") rfl
  have F_amounts_of := He5.fun_of (st := top 54) U_amounts_of
  obtain ⟨fd_parts, U_parts⟩ := c.def_ 32 (d := dd 55 "parts" "parts") rfl
  have F_parts := He5.fun_of (st := top 55) U_parts
  obtain ⟨fd_weighed, U_weighed⟩ := c.def_ 33 (d := dd 56 "weighed" "weighed") rfl
  have F_weighed := He5.fun_of (st := top 56) U_weighed
  obtain ⟨fd__law_numbers, U__law_numbers⟩ := c.def_ 34 (d := dd 58 "_law_numbers" "_law_numbers") rfl
  have F__law_numbers := He5.fun_of (st := top 58) U__law_numbers
  obtain ⟨fd__law_is_integer, U__law_is_integer⟩ := c.def_ 35 (d := dd 59 "_law_is_integer" "_law_is_integer") rfl
  have F__law_is_integer := He5.fun_of (st := top 59) U__law_is_integer
  obtain ⟨fd__law_chain, U__law_chain⟩ := c.def_ 36 (d := dd 60 "_law_chain" "_law_chain") rfl
  have F__law_chain := He5.fun_of (st := top 60) U__law_chain
  obtain ⟨fd__law_heap, U__law_heap⟩ := c.def_ 37 (d := dd 61 "_law_heap" "_law_heap") rfl
  have F__law_heap := He5.fun_of (st := top 61) U__law_heap
  obtain ⟨fd__law_worth, U__law_worth⟩ := c.def_ 38 (d := dd 62 "_law_worth" "_law_worth") rfl
  have F__law_worth := He5.fun_of (st := top 62) U__law_worth
  obtain ⟨fd__law_greater, U__law_greater⟩ := c.def_ 39 (d := dd 63 "_law_greater" "_law_greater") rfl
  have F__law_greater := He5.fun_of (st := top 63) U__law_greater
  obtain ⟨fd__law_laid, U__law_laid⟩ := c.def_ 40 (d := dd 64 "_law_laid" "_law_laid") rfl
  have F__law_laid := He5.fun_of (st := top 64) U__law_laid
  obtain ⟨fd__law_left, U__law_left⟩ := c.def_ 41 (d := dd 65 "_law_left" "_law_left") rfl
  have F__law_left := He5.fun_of (st := top 65) U__law_left
  obtain ⟨fd__law_lesser, U__law_lesser⟩ := c.def_ 42 (d := dd 66 "_law_lesser" "_law_lesser") rfl
  have F__law_lesser := He5.fun_of (st := top 66) U__law_lesser
  obtain ⟨fd__law_lacks, U__law_lacks⟩ := c.def_ 43 (d := dd 67 "_law_lacks" "_law_lacks") rfl
  have F__law_lacks := He5.fun_of (st := top 67) U__law_lacks
  obtain ⟨fd__law_payments, U__law_payments⟩ := c.def_ 44 (d := dd 68 "_law_payments" "_law_payments") rfl
  have F__law_payments := He5.fun_of (st := top 68) U__law_payments
  obtain ⟨fd__law_need, U__law_need⟩ := c.def_ 45 (d := dd 69 "_law_need" "_law_need") rfl
  have F__law_need := He5.fun_of (st := top 69) U__law_need
  obtain ⟨fd_law, U_law⟩ := c.def_ 46 (d := dd 70 "law" "law") rfl
  have F_law := He5.fun_of (st := top 70) U_law
  have e := hfa.symm.trans (He.glo_ok X N (c.fact 46 (f := .glo "law") rfl))
  cases e
  refine ⟨fd_law, fun s v => (FunD.bindsA (ps := ["script"]) U_law fun _ _ _ _ _ _ us hl => match us, hl with | [_], _ => rfl) s [v] rfl, fun base => ?_⟩
  have T : Tx (gcOf P w K mg base (ct K)) := ⟨He.free_ok X N (c.fact 47 (f := .free "all") rfl), He.free_ok X N (c.fact 48 (f := .free "bool") rfl), He.free_ok X N (c.fact 49 (f := .free "enumerate") rfl), He.free_ok X N (c.fact 50 (f := .free "int") rfl), He.free_ok X N (c.fact 51 (f := .free "isinstance") rfl), He.free_ok X N (c.fact 52 (f := .free "len") rfl), He.free_ok X N (c.fact 53 (f := .free "list") rfl), He.free_ok X N (c.fact 54 (f := .free "max") rfl), He.free_ok X N (c.fact 55 (f := .free "min") rfl), He.free_ok X N (c.fact 56 (f := .free "range") rfl), He.free_ok X N (c.fact 57 (f := .free "sum") rfl), He.free_ok X N (c.fact 58 (f := .free "zip") rfl), relc_int (He.int_ok X N (c.fact 59 (f := .int "FEWEST" 2) rfl)), relc_int (He.int_ok X N (c.fact 60 (f := .int "GREATEST_VALUE" 1000000) rfl)), relc_int (He.int_ok X N (c.fact 61 (f := .int "GREATEST_WEIGHT" 100) rfl)), relc_int (He.int_ok X N (c.fact 62 (f := .int "MOST" 8) rfl)), relc_int (He.int_ok X N (c.fact 63 (f := .int "MOST_PIECES" 99) rfl)), relc_int (He.int_ok X N (c.fact 64 (f := .int "MOST_VALUES" 8) rfl))⟩
  have O_is_whole := ok_is_whole (G := gcOf P w K mg base (ct K)) T F_is_whole
  have D_is_whole : DefD (gcOf P w K mg base (ct K)) "is_whole" 1 ["value"] R_is_whole := ⟨⟨_, fd_is_whole, O_is_whole, He.glo_ok X N (c.fact 0 (f := .glo "is_whole") rfl), F_is_whole.kp, F_is_whole.binds (ps := ["value"]) fun _ _ _ _ _ _ us hl => match us, hl with | [_], _ => rfl⟩⟩
  have O_is_from_to := ok_is_from_to (G := gcOf P w K mg base (ct K)) T D_is_whole F_is_from_to
  have D_is_from_to : DefD (gcOf P w K mg base (ct K)) "is_from_to" 2 ["value", "least", "most"] R_is_from_to := ⟨⟨_, fd_is_from_to, O_is_from_to, He.glo_ok X N (c.fact 1 (f := .glo "is_from_to") rfl), F_is_from_to.kp, F_is_from_to.binds (ps := ["value", "least", "most"]) fun _ _ _ _ _ _ us hl => match us, hl with | [_, _, _], _ => rfl⟩⟩
  have O_is_listed := ok_is_listed (G := gcOf P w K mg base (ct K)) T F_is_listed
  have D_is_listed : DefD (gcOf P w K mg base (ct K)) "is_listed" 1 ["value"] R_is_listed := ⟨⟨_, fd_is_listed, O_is_listed, He.glo_ok X N (c.fact 2 (f := .glo "is_listed") rfl), F_is_listed.kp, F_is_listed.binds (ps := ["value"]) fun _ _ _ _ _ _ us hl => match us, hl with | [_], _ => rfl⟩⟩
  have O_follows := ok_follows (G := gcOf P w K mg base (ct K)) T F_follows
  have D_follows : DefD (gcOf P w K mg base (ct K)) "follows" 1 ["before", "value"] R_follows := ⟨⟨_, fd_follows, O_follows, He.glo_ok X N (c.fact 3 (f := .glo "follows") rfl), F_follows.kp, F_follows.binds (ps := ["before", "value"]) fun _ _ _ _ _ _ us hl => match us, hl with | [_, _], _ => rfl⟩⟩
  have O_first_wrong_chains := ok_first_wrong (G := gcOf P w K mg base (ct K)) T D_is_from_to D_follows F_first_wrong_chains
  have D_first_wrong_chains : DefD (gcOf P w K mg base (ct K)) "first_wrong_chains" 3 ["listed"] R_first_wrong := ⟨⟨_, fd_first_wrong_chains, O_first_wrong_chains, He.glo_ok X N (c.fact 4 (f := .glo "first_wrong_chains") rfl), F_first_wrong_chains.kp, F_first_wrong_chains.binds (ps := ["listed"]) fun _ _ _ _ _ _ us hl => match us, hl with | [_], _ => rfl⟩⟩
  have O_check_chain := ok_check_chain (G := gcOf P w K mg base (ct K)) T D_is_listed D_first_wrong_chains F_check_chain
  have D_check_chain : DefD (gcOf P w K mg base (ct K)) "check_chain" 4 ["value"] R_check_chain := ⟨⟨_, fd_check_chain, O_check_chain, He.glo_ok X N (c.fact 5 (f := .glo "check_chain") rfl), F_check_chain.kp, F_check_chain.binds (ps := ["value"]) fun _ _ _ _ _ _ us hl => match us, hl with | [_], _ => rfl⟩⟩
  have O_first_wrong_heaps := ok_first_wrong_x2 (G := gcOf P w K mg base (ct K)) T D_is_from_to F_first_wrong_heaps
  have D_first_wrong_heaps : DefD (gcOf P w K mg base (ct K)) "first_wrong_heaps" 3 ["heap"] R_first_wrong_x2 := ⟨⟨_, fd_first_wrong_heaps, O_first_wrong_heaps, He.glo_ok X N (c.fact 6 (f := .glo "first_wrong_heaps") rfl), F_first_wrong_heaps.kp, F_first_wrong_heaps.binds (ps := ["heap"]) fun _ _ _ _ _ _ us hl => match us, hl with | [_], _ => rfl⟩⟩
  have O_check_counts := ok_check_counts (G := gcOf P w K mg base (ct K)) T D_first_wrong_heaps F_check_counts
  have D_check_counts : DefD (gcOf P w K mg base (ct K)) "check_counts" 4 ["chain", "value"] R_check_counts := ⟨⟨_, fd_check_counts, O_check_counts, He.glo_ok X N (c.fact 7 (f := .glo "check_counts") rfl), F_check_counts.kp, F_check_counts.binds (ps := ["chain", "value"]) fun _ _ _ _ _ _ us hl => match us, hl with | [_, _], _ => rfl⟩⟩
  have O_check_heap := ok_check_heap (G := gcOf P w K mg base (ct K)) T D_check_chain D_check_counts F_check_heap
  have D_check_heap : DefD (gcOf P w K mg base (ct K)) "check_heap" 5 ["chain", "value"] R_check_heap := ⟨⟨_, fd_check_heap, O_check_heap, He.glo_ok X N (c.fact 8 (f := .glo "check_heap") rfl), F_check_heap.kp, F_check_heap.binds (ps := ["chain", "value"]) fun _ _ _ _ _ _ us hl => match us, hl with | [_, _], _ => rfl⟩⟩
  have O_worth_of := ok_worth_of (G := gcOf P w K mg base (ct K)) T F_worth_of
  have D_worth_of : DefD (gcOf P w K mg base (ct K)) "worth_of" 1 ["chain", "heap"] R_worth_of := ⟨⟨_, fd_worth_of, O_worth_of, He.glo_ok X N (c.fact 9 (f := .glo "worth_of") rfl), F_worth_of.kp, F_worth_of.binds (ps := ["chain", "heap"]) fun _ _ _ _ _ _ us hl => match us, hl with | [_, _], _ => rfl⟩⟩
  have O_lesser_of := ok_lesser_of (G := gcOf P w K mg base (ct K)) T D_worth_of F_lesser_of
  have D_lesser_of : DefD (gcOf P w K mg base (ct K)) "lesser_of" 2 ["chain", "heap", "k"] R_lesser_of := ⟨⟨_, fd_lesser_of, O_lesser_of, He.glo_ok X N (c.fact 10 (f := .glo "lesser_of") rfl), F_lesser_of.kp, F_lesser_of.binds (ps := ["chain", "heap", "k"]) fun _ _ _ _ _ _ us hl => match us, hl with | [_, _, _], _ => rfl⟩⟩
  have O_greater_of := ok_greater_of (G := gcOf P w K mg base (ct K)) T D_worth_of F_greater_of
  have D_greater_of : DefD (gcOf P w K mg base (ct K)) "greater_of" 2 ["chain", "heap", "k"] R_greater_of := ⟨⟨_, fd_greater_of, O_greater_of, He.glo_ok X N (c.fact 11 (f := .glo "greater_of") rfl), F_greater_of.kp, F_greater_of.binds (ps := ["chain", "heap", "k"]) fun _ _ _ _ _ _ us hl => match us, hl with | [_, _, _], _ => rfl⟩⟩
  have O_left_by := ok_left_by (G := gcOf P w K mg base (ct K)) T F_left_by
  have D_left_by : DefD (gcOf P w K mg base (ct K)) "left_by" 1 ["chain", "amounts", "k"] R_left_by := ⟨⟨_, fd_left_by, O_left_by, He.glo_ok X N (c.fact 12 (f := .glo "left_by") rfl), F_left_by.kp, F_left_by.binds (ps := ["chain", "amounts", "k"]) fun _ _ _ _ _ _ us hl => match us, hl with | [_, _, _], _ => rfl⟩⟩
  have O_spare_list := ok_spare_list (G := gcOf P w K mg base (ct K)) T D_lesser_of D_left_by F_spare_list
  have D_spare_list : DefD (gcOf P w K mg base (ct K)) "spare_list" 3 ["chain", "heap", "amounts"] R_spare_list := ⟨⟨_, fd_spare_list, O_spare_list, He.glo_ok X N (c.fact 13 (f := .glo "spare_list") rfl), F_spare_list.kp, F_spare_list.binds (ps := ["chain", "heap", "amounts"]) fun _ _ _ _ _ _ us hl => match us, hl with | [_, _, _], _ => rfl⟩⟩
  have O_house_payments := ok_house_payments (G := gcOf P w K mg base (ct K)) T F_house_payments
  have D_house_payments : DefD (gcOf P w K mg base (ct K)) "house_payments" 1 ["chain", "heap", "amounts"] R_house_payments := ⟨⟨_, fd_house_payments, O_house_payments, He.glo_ok X N (c.fact 14 (f := .glo "house_payments") rfl), F_house_payments.kp, F_house_payments.binds (ps := ["chain", "heap", "amounts"]) fun _ _ _ _ _ _ us hl => match us, hl with | [_, _, _], _ => rfl⟩⟩
  have O_first_lack := ok_first_lack (G := gcOf P w K mg base (ct K)) T D_spare_list D_left_by D_lesser_of F_first_lack
  have D_first_lack : DefD (gcOf P w K mg base (ct K)) "first_lack" 4 ["chain", "heap", "amounts"] R_first_lack := ⟨⟨_, fd_first_lack, O_first_lack, He.glo_ok X N (c.fact 15 (f := .glo "first_lack") rfl), F_first_lack.kp, F_first_lack.binds (ps := ["chain", "heap", "amounts"]) fun _ _ _ _ _ _ us hl => match us, hl with | [_, _, _], _ => rfl⟩⟩
  have O_told_answer := ok_told_answer (G := gcOf P w K mg base (ct K)) T D_first_lack D_house_payments F_told_answer
  have D_told_answer : DefD (gcOf P w K mg base (ct K)) "told_answer" 5 ["chain", "heap", "amounts"] R_told_answer := ⟨⟨_, fd_told_answer, O_told_answer, He.glo_ok X N (c.fact 16 (f := .glo "told_answer") rfl), F_told_answer.kp, F_told_answer.binds (ps := ["chain", "heap", "amounts"]) fun _ _ _ _ _ _ us hl => match us, hl with | [_, _, _], _ => rfl⟩⟩
  have O_room_of := ok_room_of (G := gcOf P w K mg base (ct K)) T F_room_of
  have D_room_of : DefD (gcOf P w K mg base (ct K)) "room_of" 1 ["chain", "boxes", "k"] R_room_of := ⟨⟨_, fd_room_of, O_room_of, He.glo_ok X N (c.fact 17 (f := .glo "room_of") rfl), F_room_of.kp, F_room_of.binds (ps := ["chain", "boxes", "k"]) fun _ _ _ _ _ _ us hl => match us, hl with | [_, _, _], _ => rfl⟩⟩
  have O_last_full := ok_last_full (G := gcOf P w K mg base (ct K)) T D_greater_of D_room_of F_last_full
  have D_last_full : DefD (gcOf P w K mg base (ct K)) "last_full" 3 ["chain", "heap", "boxes"] R_last_full := ⟨⟨_, fd_last_full, O_last_full, He.glo_ok X N (c.fact 18 (f := .glo "last_full") rfl), F_last_full.kp, F_last_full.binds (ps := ["chain", "heap", "boxes"]) fun _ _ _ _ _ _ us hl => match us, hl with | [_, _, _], _ => rfl⟩⟩
  have O_house_load := ok_house_load (G := gcOf P w K mg base (ct K)) T F_house_load
  have D_house_load : DefD (gcOf P w K mg base (ct K)) "house_load" 1 ["chain", "heap", "boxes"] R_house_load := ⟨⟨_, fd_house_load, O_house_load, He.glo_ok X N (c.fact 19 (f := .glo "house_load") rfl), F_house_load.kp, F_house_load.binds (ps := ["chain", "heap", "boxes"]) fun _ _ _ _ _ _ us hl => match us, hl with | [_, _, _], _ => rfl⟩⟩
  have O_hold_for := ok_hold_for (G := gcOf P w K mg base (ct K)) T D_worth_of D_last_full F_hold_for
  have D_hold_for : DefD (gcOf P w K mg base (ct K)) "hold_for" 4 ["chain", "heap", "n"] R_hold_for := ⟨⟨_, fd_hold_for, O_hold_for, He.glo_ok X N (c.fact 20 (f := .glo "hold_for") rfl), F_hold_for.kp, F_hold_for.binds (ps := ["chain", "heap", "n"]) fun _ _ _ _ _ _ us hl => match us, hl with | [_, _, _], _ => rfl⟩⟩
  have O_check_persons := ok_check_persons (G := gcOf P w K mg base (ct K)) T D_is_from_to F_check_persons
  have D_check_persons : DefD (gcOf P w K mg base (ct K)) "check_persons" 3 ["value"] R_check_persons := ⟨⟨_, fd_check_persons, O_check_persons, He.glo_ok X N (c.fact 21 (f := .glo "check_persons") rfl), F_check_persons.kp, F_check_persons.binds (ps := ["value"]) fun _ _ _ _ _ _ us hl => match us, hl with | [_], _ => rfl⟩⟩
  have O_check_sharing := ok_check_sharing (G := gcOf P w K mg base (ct K)) T D_check_heap D_check_persons F_check_sharing
  have D_check_sharing : DefD (gcOf P w K mg base (ct K)) "check_sharing" 6 ["chain", "heap", "n"] R_check_sharing := ⟨⟨_, fd_check_sharing, O_check_sharing, He.glo_ok X N (c.fact 22 (f := .glo "check_sharing") rfl), F_check_sharing.kp, F_check_sharing.binds (ps := ["chain", "heap", "n"]) fun _ _ _ _ _ _ us hl => match us, hl with | [_, _, _], _ => rfl⟩⟩
  have O_least_greatest := ok_least_greatest (G := gcOf P w K mg base (ct K)) T D_check_sharing D_hold_for F_least_greatest
  have D_least_greatest : DefD (gcOf P w K mg base (ct K)) "least_greatest" 7 ["chain", "heap", "n"] R_least_greatest := ⟨⟨_, fd_least_greatest, O_least_greatest, He.glo_ok X N (c.fact 23 (f := .glo "least_greatest") rfl), F_least_greatest.kp, F_least_greatest.binds (ps := ["chain", "heap", "n"]) fun _ _ _ _ _ _ us hl => match us, hl with | [_, _, _], _ => rfl⟩⟩
  have O_levelled := ok_levelled (G := gcOf P w K mg base (ct K)) T D_check_sharing D_hold_for D_house_load F_levelled
  have D_levelled : DefD (gcOf P w K mg base (ct K)) "levelled" 7 ["chain", "heap", "n"] R_levelled := ⟨⟨_, fd_levelled, O_levelled, He.glo_ok X N (c.fact 24 (f := .glo "levelled") rfl), F_levelled.kp, F_levelled.binds (ps := ["chain", "heap", "n"]) fun _ _ _ _ _ _ us hl => match us, hl with | [_, _, _], _ => rfl⟩⟩
  have O_by_turns := ok_by_turns (G := gcOf P w K mg base (ct K)) T D_check_sharing F_by_turns
  have D_by_turns : DefD (gcOf P w K mg base (ct K)) "by_turns" 7 ["chain", "heap", "n"] R_by_turns := ⟨⟨_, fd_by_turns, O_by_turns, He.glo_ok X N (c.fact 25 (f := .glo "by_turns") rfl), F_by_turns.kp, F_by_turns.binds (ps := ["chain", "heap", "n"]) fun _ _ _ _ _ _ us hl => match us, hl with | [_, _, _], _ => rfl⟩⟩
  have O_neediest := ok_neediest (G := gcOf P w K mg base (ct K)) T F_neediest
  have D_neediest : DefD (gcOf P w K mg base (ct K)) "neediest" 1 ["worths"] R_neediest := ⟨⟨_, fd_neediest, O_neediest, He.glo_ok X N (c.fact 26 (f := .glo "neediest") rfl), F_neediest.kp, F_neediest.binds (ps := ["worths"]) fun _ _ _ _ _ _ us hl => match us, hl with | [_], _ => rfl⟩⟩
  have O_by_need := ok_by_need (G := gcOf P w K mg base (ct K)) T D_check_sharing D_neediest F_by_need
  have D_by_need : DefD (gcOf P w K mg base (ct K)) "by_need" 7 ["chain", "heap", "n"] R_by_need := ⟨⟨_, fd_by_need, O_by_need, He.glo_ok X N (c.fact 27 (f := .glo "by_need") rfl), F_by_need.kp, F_by_need.binds (ps := ["chain", "heap", "n"]) fun _ _ _ _ _ _ us hl => match us, hl with | [_, _, _], _ => rfl⟩⟩
  have O_worths := ok_worths (G := gcOf P w K mg base (ct K)) T D_worth_of F_worths
  have D_worths : DefD (gcOf P w K mg base (ct K)) "worths" 2 ["chain", "rows"] R_worths := ⟨⟨_, fd_worths, O_worths, He.glo_ok X N (c.fact 28 (f := .glo "worths") rfl), F_worths.kp, F_worths.binds (ps := ["chain", "rows"]) fun _ _ _ _ _ _ us hl => match us, hl with | [_, _], _ => rfl⟩⟩
  have O_gap := ok_gap (G := gcOf P w K mg base (ct K)) T D_worths F_gap
  have D_gap : DefD (gcOf P w K mg base (ct K)) "gap" 3 ["chain", "rows"] R_gap := ⟨⟨_, fd_gap, O_gap, He.glo_ok X N (c.fact 29 (f := .glo "gap") rfl), F_gap.kp, F_gap.binds (ps := ["chain", "rows"]) fun _ _ _ _ _ _ us hl => match us, hl with | [_, _], _ => rfl⟩⟩
  have O_check_weights := ok_check_weights (G := gcOf P w K mg base (ct K)) T D_is_from_to F_check_weights
  have D_check_weights : DefD (gcOf P w K mg base (ct K)) "check_weights" 3 ["value"] R_check_weights := ⟨⟨_, fd_check_weights, O_check_weights, He.glo_ok X N (c.fact 30 (f := .glo "check_weights") rfl), F_check_weights.kp, F_check_weights.binds (ps := ["value"]) fun _ _ _ _ _ _ us hl => match us, hl with | [_], _ => rfl⟩⟩
  have O_amounts_of := ok_amounts_of (G := gcOf P w K mg base (ct K)) T F_amounts_of
  have D_amounts_of : DefD (gcOf P w K mg base (ct K)) "amounts_of" 1 ["worth", "weights"] R_amounts_of := ⟨⟨_, fd_amounts_of, O_amounts_of, He.glo_ok X N (c.fact 31 (f := .glo "amounts_of") rfl), F_amounts_of.kp, F_amounts_of.binds (ps := ["worth", "weights"]) fun _ _ _ _ _ _ us hl => match us, hl with | [_, _], _ => rfl⟩⟩
  have O_parts := ok_parts (G := gcOf P w K mg base (ct K)) T D_check_heap D_check_weights D_worth_of D_amounts_of F_parts
  have D_parts : DefD (gcOf P w K mg base (ct K)) "parts" 6 ["chain", "heap", "weights"] R_parts := ⟨⟨_, fd_parts, O_parts, He.glo_ok X N (c.fact 32 (f := .glo "parts") rfl), F_parts.kp, F_parts.binds (ps := ["chain", "heap", "weights"]) fun _ _ _ _ _ _ us hl => match us, hl with | [_, _, _], _ => rfl⟩⟩
  have O_weighed := ok_weighed (G := gcOf P w K mg base (ct K)) T D_parts D_told_answer F_weighed
  have D_weighed : DefD (gcOf P w K mg base (ct K)) "weighed" 7 ["chain", "heap", "weights"] R_weighed := ⟨⟨_, fd_weighed, O_weighed, He.glo_ok X N (c.fact 33 (f := .glo "weighed") rfl), F_weighed.kp, F_weighed.binds (ps := ["chain", "heap", "weights"]) fun _ _ _ _ _ _ us hl => match us, hl with | [_, _, _], _ => rfl⟩⟩
  have O__law_numbers := ok_law_numbers (G := gcOf P w K mg base (ct K)) T F__law_numbers
  have D__law_numbers : DefD (gcOf P w K mg base (ct K)) "_law_numbers" 1 ["script", "at", "many"] R_law_numbers := ⟨⟨_, fd__law_numbers, O__law_numbers, He.glo_ok X N (c.fact 34 (f := .glo "_law_numbers") rfl), F__law_numbers.kp, F__law_numbers.binds (ps := ["script", "at", "many"]) fun _ _ _ _ _ _ us hl => match us, hl with | [_, _, _], _ => rfl⟩⟩
  have O__law_is_integer := ok_law_is_integer (G := gcOf P w K mg base (ct K)) T F__law_is_integer
  have D__law_is_integer : DefD (gcOf P w K mg base (ct K)) "_law_is_integer" 1 ["value"] R_law_is_integer := ⟨⟨_, fd__law_is_integer, O__law_is_integer, He.glo_ok X N (c.fact 35 (f := .glo "_law_is_integer") rfl), F__law_is_integer.kp, F__law_is_integer.binds (ps := ["value"]) fun _ _ _ _ _ _ us hl => match us, hl with | [_], _ => rfl⟩⟩
  have O__law_chain := ok_law_chain (G := gcOf P w K mg base (ct K)) T D__law_numbers F__law_chain
  have D__law_chain : DefD (gcOf P w K mg base (ct K)) "_law_chain" 2 ["script", "at", "most"] R_law_chain := ⟨⟨_, fd__law_chain, O__law_chain, He.glo_ok X N (c.fact 36 (f := .glo "_law_chain") rfl), F__law_chain.kp, F__law_chain.binds (ps := ["script", "at", "most"]) fun _ _ _ _ _ _ us hl => match us, hl with | [_, _, _], _ => rfl⟩⟩
  have O__law_heap := ok_law_heap (G := gcOf P w K mg base (ct K)) T D__law_numbers F__law_heap
  have D__law_heap : DefD (gcOf P w K mg base (ct K)) "_law_heap" 2 ["script", "at", "chain", "most"] R_law_heap := ⟨⟨_, fd__law_heap, O__law_heap, He.glo_ok X N (c.fact 37 (f := .glo "_law_heap") rfl), F__law_heap.kp, F__law_heap.binds (ps := ["script", "at", "chain", "most"]) fun _ _ _ _ _ _ us hl => match us, hl with | [_, _, _, _], _ => rfl⟩⟩
  have O__law_worth := ok_law_worth (G := gcOf P w K mg base (ct K)) T F__law_worth
  have D__law_worth : DefD (gcOf P w K mg base (ct K)) "_law_worth" 1 ["chain", "heap"] R_law_worth := ⟨⟨_, fd__law_worth, O__law_worth, He.glo_ok X N (c.fact 38 (f := .glo "_law_worth") rfl), F__law_worth.kp, F__law_worth.binds (ps := ["chain", "heap"]) fun _ _ _ _ _ _ us hl => match us, hl with | [_, _], _ => rfl⟩⟩
  have O__law_greater := ok_law_greater (G := gcOf P w K mg base (ct K)) T F__law_greater
  have D__law_greater : DefD (gcOf P w K mg base (ct K)) "_law_greater" 1 ["chain", "heap", "k"] R_law_greater := ⟨⟨_, fd__law_greater, O__law_greater, He.glo_ok X N (c.fact 39 (f := .glo "_law_greater") rfl), F__law_greater.kp, F__law_greater.binds (ps := ["chain", "heap", "k"]) fun _ _ _ _ _ _ us hl => match us, hl with | [_, _, _], _ => rfl⟩⟩
  have O__law_laid := ok_law_laid (G := gcOf P w K mg base (ct K)) T F__law_laid
  have D__law_laid : DefD (gcOf P w K mg base (ct K)) "_law_laid" 1 ["chain", "heap", "boxes"] R_law_laid := ⟨⟨_, fd__law_laid, O__law_laid, He.glo_ok X N (c.fact 40 (f := .glo "_law_laid") rfl), F__law_laid.kp, F__law_laid.binds (ps := ["chain", "heap", "boxes"]) fun _ _ _ _ _ _ us hl => match us, hl with | [_, _, _], _ => rfl⟩⟩
  have O__law_left := ok_law_left (G := gcOf P w K mg base (ct K)) T F__law_left
  have D__law_left : DefD (gcOf P w K mg base (ct K)) "_law_left" 1 ["chain", "amounts", "k"] R_law_left := ⟨⟨_, fd__law_left, O__law_left, He.glo_ok X N (c.fact 41 (f := .glo "_law_left") rfl), F__law_left.kp, F__law_left.binds (ps := ["chain", "amounts", "k"]) fun _ _ _ _ _ _ us hl => match us, hl with | [_, _, _], _ => rfl⟩⟩
  have O__law_lesser := ok_law_lesser (G := gcOf P w K mg base (ct K)) T F__law_lesser
  have D__law_lesser : DefD (gcOf P w K mg base (ct K)) "_law_lesser" 1 ["chain", "heap", "k"] R_law_lesser := ⟨⟨_, fd__law_lesser, O__law_lesser, He.glo_ok X N (c.fact 42 (f := .glo "_law_lesser") rfl), F__law_lesser.kp, F__law_lesser.binds (ps := ["chain", "heap", "k"]) fun _ _ _ _ _ _ us hl => match us, hl with | [_, _, _], _ => rfl⟩⟩
  have O__law_lacks := ok_law_lacks (G := gcOf P w K mg base (ct K)) T D__law_left D__law_lesser F__law_lacks
  have D__law_lacks : DefD (gcOf P w K mg base (ct K)) "_law_lacks" 2 ["chain", "heap", "amounts"] R_law_lacks := ⟨⟨_, fd__law_lacks, O__law_lacks, He.glo_ok X N (c.fact 43 (f := .glo "_law_lacks") rfl), F__law_lacks.kp, F__law_lacks.binds (ps := ["chain", "heap", "amounts"]) fun _ _ _ _ _ _ us hl => match us, hl with | [_, _, _], _ => rfl⟩⟩
  have O__law_payments := ok_law_payments (G := gcOf P w K mg base (ct K)) T F__law_payments
  have D__law_payments : DefD (gcOf P w K mg base (ct K)) "_law_payments" 1 ["chain", "heap", "amounts"] R_law_payments := ⟨⟨_, fd__law_payments, O__law_payments, He.glo_ok X N (c.fact 44 (f := .glo "_law_payments") rfl), F__law_payments.kp, F__law_payments.binds (ps := ["chain", "heap", "amounts"]) fun _ _ _ _ _ _ us hl => match us, hl with | [_, _, _], _ => rfl⟩⟩
  have O__law_need := ok_law_need (G := gcOf P w K mg base (ct K)) T F__law_need
  have D__law_need : DefD (gcOf P w K mg base (ct K)) "_law_need" 1 ["chain", "heap", "n"] R_law_need := ⟨⟨_, fd__law_need, O__law_need, He.glo_ok X N (c.fact 45 (f := .glo "_law_need") rfl), F__law_need.kp, F__law_need.binds (ps := ["chain", "heap", "n"]) fun _ _ _ _ _ _ us hl => match us, hl with | [_, _, _], _ => rfl⟩⟩
  have O_law := ok_law (G := gcOf P w K mg base (ct K)) T D__law_chain D__law_heap D__law_greater D_least_greatest D__law_is_integer D_levelled D__law_laid D_by_need D__law_need D_worths D_by_turns D__law_worth D_gap D__law_numbers D_parts D_weighed D__law_lacks D__law_payments F_law
  exact O_law
end K96
open PySem PySem.W PySem.Calls PyProof.Rows in
set_option maxRecDepth 100000 in
set_option maxHeartbeats 0 in
theorem PySem.Challenge.cw_paidatonce_k96_least_greatest_shares_holds : PySem.Challenge.rw_paidatonce_k96_least_greatest_shares.Holds := by
  w_on; o_law
  refine HandSHeadRun.head_any (r := OpenLaw.row PySem.Challenge.rw_paidatonce_k96_least_greatest_shares) (q := view (OpenLaw.row PySem.Challenge.rw_paidatonce_k96_least_greatest_shares).prog [70]) (H := K96.hk) (ob := K96.ob) (M := 20000) (loose := K96.loose) (d := HandSHeadRun.topDef (OpenLaw.row PySem.Challenge.rw_paidatonce_k96_least_greatest_shares).prog 70) (kwd := []) K96.ob_eq
    (by kernel_rfl) (fun s => by kernel_rfl) K96.run (by kernel_rfl) (by kernel_rfl) (by kernel_rfl) (by rfl) (by first | assumption | decide +kernel) (by decide +kernel) ⟨rfl, rfl, rfl, rfl, rfl, by decide +kernel⟩ ?hw ?hc
  case hw => w_witness2
  case hc =>
    refine Fw.law_end (l := PySem.Challenge.rw_paidatonce_k96_least_greatest_shares) (k := 8) (R := K96.R_law) K96.ct rfl (by kernel_rfl) ⟨rfl, by decide, by decide⟩ (fun ns hl => ⟨ns, rfl, hl, by rw [K96.law_true ns]⟩) fun w mg fa h Y G hmg0 => ?_
    obtain ⟨K, KX, c⟩ := Y
    have hmg : mg ("law" : PySem.Str) = some (.ref fa) := by
      have e : (HandSHeadRun.topDef (OpenLaw.row PySem.Challenge.rw_paidatonce_k96_least_greatest_shares).prog 70).name = ("law" : PySem.Str) := by kernel_rfl
      rw [← e]
      exact hmg0
    obtain ⟨fd, hb, hF⟩ := K96.facts (P := (PySem.Challenge.rw_paidatonce_k96_least_greatest_shares).prog) (w := w) KX G hmg c
    exact ⟨K, fd, KX, hb, hF⟩


