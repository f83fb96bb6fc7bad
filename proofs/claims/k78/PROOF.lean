import PyProof.Rows.All
import Wide.All
import OpenK.AllK
import Wide.FinOn
import HandS.ForMost
import HandS.ForExc
import HandS.IsInst
import HandS.StrMore
import HandS.FStr
import HandS.Wide
import HandS.WideMore
import HandS.Sort
import HandS.SortRule
import HandS.SortInts
import HandS.ExcInit
import HandS.ExcField
import HandS.ExcIs
import HandS.TryMany
import HandS.Flow
import HandS.DictComp
import HandS.DictTup
import HandS.Conv
import HandS.Codes
import HandS.CallLocal
import HandS.ListItems
import HandS.Rev
import HandS.Zip
import HandS.TupLe
import HandS.TupAny
import HandS.TupMul
import HandS.Replace
import HandS.ReplaceList
import HandS.Deep
import HandS.SetIn
import HandS.Defaults
import HandS.RaiseOp
import HandS.HotCalls
import HandS.CallSlots
import KE.KStateDown
import Lean
import HandS.Base
import HandS.Call
import HandS.Ends
import HandS.More
import HandS.Words
import HandS.WordsExc
import HandS.Head0
import HandS.Head1
import HandS.Head2
import HandS.HeadEnd
import HandS.HeadHook1
import HandS.HeadHook2
import HandS.HeadNt
import PySem.Challenge.RW_paidatonce_k78_numbers_and_lines
set_option Elab.async false
set_option linter.all false
set_option maxRecDepth 100000
set_option maxHeartbeats 4000000
/-! # A layer over readings: worlds (what stands for good, what stands now), data, slots -/
namespace Fw
open PySem PySem.Spec L2

/-- s: what stands for good; h: all that stands -/
structure Wl where
  s : Hp
  h : Hp
  le : ∀ a o, s a = some o → h a = some o
def Ex (H H' : Hp) : Prop := ∀ a o, H a = some o → H' a = some o
theorem Ex.refl (H : Hp) : Ex H H := fun _ _ h => h
theorem Ex.trans {H H1 H2 : Hp} (a : Ex H H1) (b : Ex H1 H2) : Ex H H2 := fun x o h => b x o (a x o h)
/-- from w to w': all but what stands at B is kept; nothing that stood loosely has come to stand for good -/
structure Grow (B : List Addr) (w w' : Wl) : Prop where
  h : ∀ a o, a ∉ B → w.h a = some o → w'.h a = some o
  s : Ex w.s w'.s
  own : ∀ a, w.h a ≠ none → w.s a = none → w'.s a = none
  dom : ∀ a, w.h a ≠ none → w'.h a ≠ none
theorem Grow.refl (B : List Addr) (w : Wl) : Grow B w w := ⟨fun _ _ _ e => e, Ex.refl _, fun _ _ e => e, fun _ e => e⟩
theorem Grow.trans {B : List Addr} {w w1 w2 : Wl} (a : Grow B w w1) (b : Grow B w1 w2) : Grow B w w2 :=
  ⟨fun x o hx e => b.h x o hx (a.h x o hx e), a.s.trans b.s, fun x h1 h2 => b.own x (a.dom x h1) (a.own x h1 h2), fun x e => b.dom x (a.dom x e)⟩
theorem Grow.mono {B B' : List Addr} {w w' : Wl} (g : Grow B w w') (hb : ∀ a ∈ B, a ∈ B') : Grow B' w w' := ⟨fun a o ha e => g.h a o (fun q => ha (hb a q)) e, g.s, g.own, g.dom⟩
theorem Grow.up {B : List Addr} {w w' : Wl} (g : Grow [] w w') : Grow B w w' := g.mono (fun _ q => nomatch q)

def keyD : Key → PyData
  | .inl i => .int i
  | .inr x => .str x
/-- the script, read only -/
def scrD (ns : List Int) : PyData := .dict [(.none, .list (ns.map PyData.int))]
mutual
inductive Rp (K : PySem.W.Frag) (H : Hp) : V → PyData → Prop
  | non : Rp K H .non .none
  | bl (b : Bool) : Rp K H (.bl b) (.bool b)
  | int (i : Int) : Rp K H (.int i) (.int i)
  | str (x : Str) : Rp K H (.str x) (.str x)
  | lst {a : Addr} {xs : List V} {ds : List PyData} : H a = some (.lst xs) → RpAll K H xs ds → Rp K H (.ref a) (.list ds)
  | scr {a : Addr} {ns : List Int} : SqL K H a (ns.map V.int) → Rp K H (.ref a) (scrD ns)
  | tup {a : Addr} {xs : List V} {ds : List PyData} : SqT K H a xs → RpAll K H xs ds → Rp K H (.ref a) (.tuple ds)
  | dct {a : Addr} {kvs : List (Key × V)} {ds : List (PyData × PyData)} : H a = some (.dK kvs) → RpKV K H kvs ds → Rp K H (.ref a) (.dict ds)
inductive RpAll (K : PySem.W.Frag) (H : Hp) : List V → List PyData → Prop
  | nil : RpAll K H [] []
  | cons {v : V} {vs : List V} {d : PyData} {ds : List PyData} : Rp K H v d → RpAll K H vs ds → RpAll K H (v :: vs) (d :: ds)
inductive RpKV (K : PySem.W.Frag) (H : Hp) : List (Key × V) → List (PyData × PyData) → Prop
  | nil : RpKV K H [] []
  | cons {k : Key} {v : V} {kvs : List (Key × V)} {d : PyData} {ds : List (PyData × PyData)} : Rp K H v d → RpKV K H kvs ds → RpKV K H ((k, v) :: kvs) ((keyD k, d) :: ds)
end
theorem ex_sqL {K : PySem.W.Frag} {H H' : Hp} {a : Addr} {xs : List V} (e : Ex H H') (h : SqL K H a xs) : SqL K H' a xs := Same.seq e h
theorem ex_sqT {K : PySem.W.Frag} {H H' : Hp} {a : Addr} {xs : List V} (e : Ex H H') (h : SqT K H a xs) : SqT K H' a xs := by
  rcases h with (h | ⟨o, h⟩) | h
  · exact Or.inl (Or.inl (e a _ h))
  · exact Or.inl (Or.inr ⟨o, e a _ h⟩)
  · exact Or.inr h
section
variable {K : PySem.W.Frag} {H H' : Hp}
mutual
theorem Rp.mono (e : Ex H H') : ∀ {v : V} {d : PyData}, Rp K H v d → Rp K H' v d
  | _, _, .non => .non
  | _, _, .bl b => .bl b
  | _, _, .int i => .int i
  | _, _, .str x => .str x
  | _, _, .lst h r => .lst (e _ _ h) (RpAll.mono e r)
  | _, _, .scr h => .scr (ex_sqL e h)
  | _, _, .tup h r => .tup (ex_sqT e h) (RpAll.mono e r)
  | _, _, .dct h r => .dct (e _ _ h) (RpKV.mono e r)
theorem RpAll.mono (e : Ex H H') : ∀ {vs : List V} {ds : List PyData}, RpAll K H vs ds → RpAll K H' vs ds
  | _, _, .nil => .nil
  | _, _, .cons r t => .cons (Rp.mono e r) (RpAll.mono e t)
theorem RpKV.mono (e : Ex H H') : ∀ {vs : List (Key × V)} {ds : List (PyData × PyData)}, RpKV K H vs ds → RpKV K H' vs ds
  | _, _, .nil => .nil
  | _, _, .cons r t => .cons (Rp.mono e r) (RpKV.mono e t)
end
mutual
theorem Rp.dp : ∀ {v : V} {d : PyData}, Rp K H v d → d.canLay0 = true → Dp K H v d
  | _, _, .non, _ => .non
  | _, _, .bl b, _ => .bl b
  | _, _, .int i, _ => .int i
  | _, _, .str x, _ => .str x
  | _, _, .lst h r, c => .lst (SqL.of h) (RpAll.dp r c)
  | _, _, .scr h, c => by cases c
  | _, _, .tup h r, c => .tup h (RpAll.dp r c)
  | _, _, .dct h r, c => by cases c
theorem RpAll.dp : ∀ {vs : List V} {ds : List PyData}, RpAll K H vs ds → PyData.canLayAll0 ds = true → DpAll K H vs ds
  | _, _, .nil, _ => .nil
  | _, _, .cons r t, c => by
    have c' := Bool.and_eq_true_iff.mp c
    exact .cons (Rp.dp r c'.1) (RpAll.dp t c'.2)
end
end
end Fw


namespace Fw
open PySem PySem.Spec L2
section
variable {K : PySem.W.Frag} {H H' : Hp}
theorem RpAll.length : ∀ {vs : List V} {ds : List PyData}, RpAll K H vs ds → vs.length = ds.length
  | _, _, .nil => rfl
  | _, _, .cons _ t => congrArg (· + 1) (RpAll.length t)
theorem RpAll.get : ∀ {vs : List V} {ds : List PyData} {i : Nat} {d : PyData}, RpAll K H vs ds → ds[i]? = some d → ∃ v, vs[i]? = some v ∧ Rp K H v d
  | _, _, _, _, .nil, e => by simp at e
  | _, _, 0, _, .cons r _, e => by simp at e; subst e; exact ⟨_, rfl, r⟩
  | _, _, i + 1, _, .cons _ t, e => by
    obtain ⟨v, h1, h2⟩ := RpAll.get (i := i) t (by simpa using e)
    exact ⟨v, by simpa using h1, h2⟩
theorem RpAll.getV : ∀ {vs : List V} {ds : List PyData} {i : Nat} {v : V}, RpAll K H vs ds → vs[i]? = some v → ∃ d, ds[i]? = some d ∧ Rp K H v d
  | _, _, _, _, .nil, e => by simp at e
  | _, _, 0, _, .cons r _, e => by simp at e; subst e; exact ⟨_, rfl, r⟩
  | _, _, i + 1, _, .cons _ t, e => by
    obtain ⟨v, h1, h2⟩ := RpAll.getV (i := i) t (by simpa using e)
    exact ⟨v, by simpa using h1, h2⟩
theorem RpAll.append : ∀ {vs vs' : List V} {ds ds' : List PyData}, RpAll K H vs ds → RpAll K H vs' ds' → RpAll K H (vs ++ vs') (ds ++ ds')
  | _, _, _, _, .nil, h => h
  | _, _, _, _, .cons r t, h => .cons r (RpAll.append t h)
theorem RpAll.one {v : V} {d : PyData} (h : Rp K H v d) : RpAll K H [v] [d] := .cons h .nil
theorem RpAll.set : ∀ {vs : List V} {ds : List PyData} (i : Nat) {v : V} {d : PyData}, RpAll K H vs ds → Rp K H v d → RpAll K H (vs.set i v) (ds.set i d)
  | _, _, _, _, _, .nil, _ => .nil
  | _, _, 0, _, _, .cons _ t, r => .cons r t
  | _, _, i + 1, _, _, .cons q t, r => .cons q (RpAll.set i t r)
theorem RpAll.take : ∀ {vs : List V} {ds : List PyData} (n : Nat), RpAll K H vs ds → RpAll K H (vs.take n) (ds.take n)
  | _, _, 0, _ => .nil
  | _, _, _ + 1, .nil => .nil
  | _, _, n + 1, .cons r t => .cons r (RpAll.take n t)
theorem RpAll.drop : ∀ {vs : List V} {ds : List PyData} (n : Nat), RpAll K H vs ds → RpAll K H (vs.drop n) (ds.drop n)
  | _, _, 0, h => h
  | _, _, _ + 1, .nil => .nil
  | _, _, n + 1, .cons r t => RpAll.drop n t
theorem RpAll.dropLast : ∀ {vs : List V} {ds : List PyData}, RpAll K H vs ds → RpAll K H vs.dropLast ds.dropLast
  | _, _, .nil => .nil
  | _, _, .cons _ .nil => .nil
  | _, _, .cons r (.cons q t) => .cons r (RpAll.dropLast (.cons q t))
theorem RpAll.reverse {vs : List V} {ds : List PyData} (h : RpAll K H vs ds) : RpAll K H vs.reverse ds.reverse := by
  induction h using RpAll.rec (motive_1 := fun _ _ _ => True) (motive_3 := fun _ _ _ => True) with
  | nil => exact .nil
  | cons r t _ ih => rw [List.reverse_cons, List.reverse_cons]; exact ih.append (.one r)
  | _ => trivial
theorem RpAll.ints : ∀ (ns : List Int), RpAll K H (ns.map V.int) (ns.map PyData.int)
  | [] => .nil
  | n :: ns => .cons (.int n) (RpAll.ints ns)
theorem RpAll.of_ints : ∀ {ns : List Int} {vs : List V}, RpAll K H vs (ns.map PyData.int) → vs = ns.map V.int
  | [], _, .nil => rfl
  | n :: ns, _, .cons (.int _) t => congrArg (V.int n :: ·) (RpAll.of_ints t)
theorem RpAll.strs : ∀ (ns : List Str), RpAll K H (ns.map V.str) (ns.map PyData.str)
  | [] => .nil
  | n :: ns => .cons (.str n) (RpAll.strs ns)
theorem RpAll.of_strs : ∀ {ns : List Str} {vs : List V}, RpAll K H vs (ns.map PyData.str) → vs = ns.map V.str
  | [], _, .nil => rfl
  | n :: ns, _, .cons (.str _) t => congrArg (V.str n :: ·) (RpAll.of_strs t)
theorem RpAll.of_bls : ∀ {ns : List Bool} {vs : List V}, RpAll K H vs (ns.map PyData.bool) → vs = ns.map V.bl
  | [], _, .nil => rfl
  | n :: ns, _, .cons (.bl _) t => congrArg (V.bl n :: ·) (RpAll.of_bls t)
theorem RpKV.length : ∀ {vs : List (Key × V)} {ds : List (PyData × PyData)}, RpKV K H vs ds → vs.length = ds.length
  | _, _, .nil => rfl
  | _, _, .cons _ t => congrArg (· + 1) (RpKV.length t)
end

/-! ## data of Lean as data of Python -/
class Emb (α : Type) where
  emb : α → PyData
open Emb
instance : Emb Int := ⟨PyData.int⟩
instance : Emb Bool := ⟨PyData.bool⟩
instance : Emb Str := ⟨PyData.str⟩
instance : Emb Unit := ⟨fun _ => PyData.none⟩
instance : Emb PyData := ⟨fun d => d⟩
instance {α : Type} [Emb α] : Emb (List α) := ⟨fun xs => PyData.list (xs.map emb)⟩
instance {α : Type} [Emb α] : Emb (Option α) := ⟨fun o => match o with | none => PyData.none | some x => emb x⟩
structure T1 (α : Type) where
  p0 : α
  deriving DecidableEq
structure T2 (α β : Type) where
  p0 : α
  p1 : β
  deriving DecidableEq
structure T3 (α β γ : Type) where
  p0 : α
  p1 : β
  p2 : γ
  deriving DecidableEq
structure T4 (α β γ δ : Type) where
  p0 : α
  p1 : β
  p2 : γ
  p3 : δ
  deriving DecidableEq
structure T5 (α β γ δ ε : Type) where
  p0 : α
  p1 : β
  p2 : γ
  p3 : δ
  p4 : ε
  deriving DecidableEq
structure Tl (α : Type) where
  l : List α
/-- a dict -/
structure Dic (κ α : Type) where
  kvs : List (κ × α)
section
variable {α β γ δ ε κ : Type} [Emb α] [Emb β] [Emb γ] [Emb δ] [Emb ε] [Emb κ]
instance : Emb (T1 α) := ⟨fun t => PyData.tuple [emb t.p0]⟩
instance : Emb (T2 α β) := ⟨fun t => PyData.tuple [emb t.p0, emb t.p1]⟩
instance : Emb (T3 α β γ) := ⟨fun t => PyData.tuple [emb t.p0, emb t.p1, emb t.p2]⟩
instance : Emb (T4 α β γ δ) := ⟨fun t => PyData.tuple [emb t.p0, emb t.p1, emb t.p2, emb t.p3]⟩
instance : Emb (T5 α β γ δ ε) := ⟨fun t => PyData.tuple [emb t.p0, emb t.p1, emb t.p2, emb t.p3, emb t.p4]⟩
instance : Emb (Tl α) := ⟨fun t => PyData.tuple (t.l.map emb)⟩
instance : Emb (Dic κ α) := ⟨fun t => PyData.dict (t.kvs.map fun p => (emb p.1, emb p.2))⟩
end
/-- an own exception: its class by its number, its one argument -/
structure Exn where
  c : Nat
  a : PyData

/-- what a body leans on: what stood at its entry (h; for good: t), and what has come to stand for good (s) -/
structure Bs where
  h : Hp
  t : Hp
  s : Hp
structure Gr (B : List Addr) (b : Bs) (w' : Wl) : Prop where
  h : ∀ a o, a ∉ B → b.h a = some o → w'.h a = some o
  s : Ex b.s w'.s
  own : ∀ a, b.h a ≠ none → b.t a = none → w'.s a = none
  dom : ∀ a, b.h a ≠ none → w'.h a ≠ none
theorem Gr.trans {B : List Addr} {b : Bs} {w1 w2 : Wl} (a : Gr B b w1) (g : Grow [] w1 w2) : Gr B b w2 :=
  ⟨fun x o hx e => g.h x o (by simp) (a.h x o hx e), a.s.trans g.s, fun x h1 h2 => g.own x (a.dom x h1) (a.own x h1 h2), fun x e => g.dom x (a.dom x e)⟩
/-! ## slots -/
inductive FD where
  | st (d : PyData)
  | ol (ds : List PyData)
inductive OD where
  | lst (ds : List PyData)
  | dic (kvs : List (PyData × PyData))
  | mat (rows : List (List PyData))
  | ins (C : Addr) (fs : List (Str × FD))
inductive Sl where
  | junk
  | dat (d : PyData)
  | own (o : OD)
  | bor (o : OD)
abbrev Evm := List Sl
section
variable {K : PySem.W.Frag} {w w' : Wl} {w0 : Bs} {B : List Addr}
inductive RowsOk (K : PySem.W.Frag) (w : Wl) : List Addr → List (List PyData) → Prop
  | nil : RowsOk K w [] []
  | cons {p : Addr} {ps : List Addr} {vs : List V} {ds : List PyData} {rows : List (List PyData)} : w.h p = some (.lst vs) → RpAll K w.s vs ds → RowsOk K w ps rows → RowsOk K w (p :: ps) (ds :: rows)
inductive FldsOk (K : PySem.W.Frag) (w : Wl) : List (Str × V) → List (Str × FD) → List Addr → Prop
  | nil : FldsOk K w [] [] []
  | st {f : Str} {v : V} {d : PyData} {fvs : List (Str × V)} {fs : List (Str × FD)} {fq : List Addr} : Rp K w.s v d → FldsOk K w fvs fs fq → FldsOk K w ((f, v) :: fvs) ((f, .st d) :: fs) fq
  | ol {f : Str} {q : Addr} {vs : List V} {ds : List PyData} {fvs : List (Str × V)} {fs : List (Str × FD)} {fq : List Addr} : w.h q = some (.lst vs) → RpAll K w.s vs ds → FldsOk K w fvs fs fq →
      FldsOk K w ((f, .ref q) :: fvs) ((f, .ol ds) :: fs) (q :: fq)
def OwnOk (K : PySem.W.Frag) (w : Wl) (v : V) (o : OD) (fp : List Addr) : Prop :=
  match o with
  | .lst ds => ∃ p vs, v = .ref p ∧ fp = [p] ∧ w.h p = some (.lst vs) ∧ RpAll K w.s vs ds
  | .dic kvs => ∃ p kv, v = .ref p ∧ fp = [p] ∧ w.h p = some (.dK kv) ∧ RpKV K w.s kv kvs
  | .mat rows => ∃ r ps, v = .ref r ∧ fp = r :: ps ∧ w.h r = some (.lst (ps.map V.ref)) ∧ RowsOk K w ps rows
  | .ins C fs => ∃ p dx fvs fq, v = .ref p ∧ fp = p :: dx :: fq ∧ w.h p = some (.ins C dx fvs) ∧ w.h dx = some (.own p) ∧ FldsOk K w fvs fs fq
/-- what a slot holds; fp: the places that it alone may change -/
def SlOk (K : PySem.W.Frag) (B : List Addr) (w0 : Bs) (w : Wl) (x : Option V) (e : Sl) (fp : List Addr) : Prop :=
  match e with
  | .junk => fp = []
  | .dat d => fp = [] ∧ ∃ v, x = some v ∧ Rp K w.s v d
  | .own o => fp.Nodup ∧ (∀ a ∈ fp, w.s a = none ∧ w.h a ≠ none ∧ w0.h a = none) ∧ ∃ v, x = some v ∧ OwnOk K w v o fp
  | .bor o => fp.Nodup ∧ (∀ a ∈ fp, w.s a = none ∧ w.h a ≠ none ∧ (w0.h a = none ∨ a ∈ B)) ∧ ∃ v, x = some v ∧ OwnOk K w v o fp
structure Sat (K : PySem.W.Frag) (B : List Addr) (w0 : Bs) (w : Wl) (σ : St) (env : Evm) : Prop where
  grow : Gr B w0 w
  len : σ.length = env.length
  sl : ∃ fps : Nat → List Addr, (∀ i, SlOk K B w0 w (σ.getD i none) (env.getD i .junk) (fps i)) ∧ ∀ i j a, i ≠ j → a ∈ fps i → a ∉ fps j

theorem exh (g : Grow [] w w') : Ex w.h w'.h := fun a o e => g.h a o (by simp) e
theorem RowsOk.mono (g : Grow [] w w') : ∀ {ps : List Addr} {rows : List (List PyData)}, RowsOk K w ps rows → RowsOk K w' ps rows
  | _, _, .nil => .nil
  | _, _, .cons h r t => .cons (exh g _ _ h) (r.mono g.s) (RowsOk.mono g t)
theorem FldsOk.mono (g : Grow [] w w') : ∀ {a : List (Str × V)} {b : List (Str × FD)} {c : List Addr}, FldsOk K w a b c → FldsOk K w' a b c
  | _, _, _, .nil => .nil
  | _, _, _, .st r t => .st (r.mono g.s) (FldsOk.mono g t)
  | _, _, _, .ol h r t => .ol (exh g _ _ h) (r.mono g.s) (FldsOk.mono g t)
theorem OwnOk.mono (g : Grow [] w w') {v : V} {o : OD} {fp : List Addr} (h : OwnOk K w v o fp) : OwnOk K w' v o fp := by
  cases o with
  | lst ds => obtain ⟨p, vs, e1, e2, e3, e4⟩ := h; exact ⟨p, vs, e1, e2, exh g _ _ e3, e4.mono g.s⟩
  | dic kvs => obtain ⟨p, vs, e1, e2, e3, e4⟩ := h; exact ⟨p, vs, e1, e2, exh g _ _ e3, e4.mono g.s⟩
  | mat rows => obtain ⟨p, vs, e1, e2, e3, e4⟩ := h; exact ⟨p, vs, e1, e2, exh g _ _ e3, e4.mono g⟩
  | ins C fs => obtain ⟨p, dx, fvs, fq, e1, e2, e3, e4, e5⟩ := h; exact ⟨p, dx, fvs, fq, e1, e2, exh g _ _ e3, exh g _ _ e4, e5.mono g⟩
theorem SlOk.mono (g : Grow [] w w') {x : Option V} {e : Sl} {fp : List Addr} (h : SlOk K B w0 w x e fp) : SlOk K B w0 w' x e fp := by
  cases e with
  | junk => exact h
  | dat d => obtain ⟨e1, v, e2, e3⟩ := h; exact ⟨e1, v, e2, e3.mono g.s⟩
  | own o =>
    obtain ⟨n, a, v, e2, e3⟩ := h
    exact ⟨n, fun b hb => ⟨g.own b (a b hb).2.1 (a b hb).1, g.dom b (a b hb).2.1, (a b hb).2.2⟩, v, e2, e3.mono g⟩
  | bor o =>
    obtain ⟨n, a, v, e2, e3⟩ := h
    exact ⟨n, fun b hb => ⟨g.own b (a b hb).2.1 (a b hb).1, g.dom b (a b hb).2.1, (a b hb).2.2⟩, v, e2, e3.mono g⟩
theorem Sat.mono {σ : St} {env : Evm} (h : Sat K B w0 w σ env) (g : Grow [] w w') : Sat K B w0 w' σ env := by
  obtain ⟨a, b, fps, c, d⟩ := h
  exact ⟨a.trans g, b, fps, fun i => (c i).mono g, d⟩
theorem getD_set {α : Type} (l : List α) (i j : Nat) (x d : α) (h : i < l.length) : (l.set i x).getD j d = if j = i then x else l.getD j d := by
  rw [List.getD_eq_getElem?_getD, List.getElem?_set, List.getD_eq_getElem?_getD]
  by_cases e : i = j
  · subst e; rw [if_pos rfl, if_pos rfl, if_pos h]; rfl
  · rw [if_neg e, if_neg (fun q => e q.symm)]
structure SatF (K : PySem.W.Frag) (B : List Addr) (w0 : Bs) (w : Wl) (σ : L2.St) (env : Evm) (fps : Nat → List Addr) : Prop where
  grow : Gr B w0 w
  len : σ.length = env.length
  sl : ∀ i, SlOk K B w0 w (σ.getD i none) (env.getD i .junk) (fps i)
  dj : ∀ i j a, i ≠ j → a ∈ fps i → a ∉ fps j
theorem Sat.f {σ : L2.St} {env : Evm} (h : Sat K B w0 w σ env) : ∃ fps, SatF K B w0 w σ env fps := let ⟨a, b, fps, c, d⟩ := h; ⟨fps, a, b, c, d⟩
theorem SatF.sat {σ : L2.St} {env : Evm} {fps : Nat → List Addr} (h : SatF K B w0 w σ env fps) : Sat K B w0 w σ env := ⟨h.grow, h.len, fps, h.sl, h.dj⟩
theorem SatF.mono {σ : L2.St} {env : Evm} {fps : Nat → List Addr} (h : SatF K B w0 w σ env fps) (g : Grow [] w w') : SatF K B w0 w' σ env fps := ⟨h.grow.trans g, h.len, fun i => (h.sl i).mono g, h.dj⟩
theorem SatF.put {σ : L2.St} {env : Evm} {fps : Nat → List Addr} {i : Nat} {x : Option V} {e : Sl} {fp : List Addr} (h : SatF K B w0 w σ env fps) (hi : i < env.length) (he : SlOk K B w0 w x e fp)
    (hfp : ∀ a ∈ fp, ∀ j, j ≠ i → a ∉ fps j) : SatF K B w0 w (σ.set i x) (env.set i e) (fun j => if j = i then fp else fps j) := by
  obtain ⟨a, b, c, d⟩ := h
  refine ⟨a, by rw [List.length_set, List.length_set, b], fun j => ?_, fun j k z hjk hz => ?_⟩
  · rw [getD_set _ _ _ _ _ (by omega), getD_set _ _ _ _ _ hi]
    by_cases e : j = i
    · rw [if_pos e, if_pos e, if_pos e]; exact he
    · rw [if_neg e, if_neg e, if_neg e]; exact c j
  · have hz : z ∈ (if j = i then fp else fps j) := hz
    show z ∉ (if k = i then fp else fps k)
    by_cases e1 : j = i
    · rw [if_pos e1] at hz
      have e2 : k ≠ i := fun q => hjk (e1.trans q.symm)
      rw [if_neg e2]
      exact hfp z hz k e2
    · rw [if_neg e1] at hz
      by_cases e2 : k = i
      · rw [if_pos e2]; exact fun q => hfp z q j e1 hz
      · rw [if_neg e2]; exact d j k z hjk hz
/-- what is slot j's own was there -/
theorem SatF.there {σ : L2.St} {env : Evm} {fps : Nat → List Addr} (h : SatF K B w0 w σ env fps) {j : Nat} {a : Addr} (ha : a ∈ fps j) : w.s a = none ∧ w.h a ≠ none := by
  have c := h.sl j
  cases e : env.getD j .junk with
  | junk => rw [e] at c; rw [show fps j = [] from c] at ha; cases ha
  | dat d => rw [e] at c; rw [show fps j = [] from c.1] at ha; cases ha
  | own o => rw [e] at c; exact ⟨(c.2.1 a ha).1, (c.2.1 a ha).2.1⟩
  | bor o => rw [e] at c; exact ⟨(c.2.1 a ha).1, (c.2.1 a ha).2.1⟩
theorem Sat.dat {σ : St} {env : Evm} {i : Nat} {v : V} {d : PyData} (h : Sat K B w0 w σ env) (hi : i < env.length) (r : Rp K w.s v d) : Sat K B w0 w (σ.set i (some v)) (env.set i (.dat d)) :=
  let ⟨_, f⟩ := h.f; (f.put (e := .dat d) hi (fp := []) ⟨rfl, v, rfl, r⟩ (fun _ ha => nomatch ha)).sat
theorem Sat.junk {σ : St} {env : Evm} {i : Nat} {x : Option V} (h : Sat K B w0 w σ env) (hi : i < env.length) : Sat K B w0 w (σ.set i x) (env.set i .junk) :=
  let ⟨_, f⟩ := h.f; (f.put (e := .junk) hi (fp := []) (show ([] : List Addr) = [] from rfl) (fun _ ha => nomatch ha)).sat
/-- what is told of an own thing leans on its own places alone -/
theorem RowsOk.frame : ∀ {ps : List Addr} {rows : List (List PyData)}, RowsOk K w ps rows → (∀ a ∈ ps, w'.h a = w.h a) → Ex w.s w'.s → RowsOk K w' ps rows
  | _, _, .nil, _, _ => .nil
  | _, _, .cons h r t, f, e => .cons ((f _ List.mem_cons_self).trans h) (r.mono e) (RowsOk.frame t (fun a ha => f a (List.mem_cons_of_mem _ ha)) e)
theorem FldsOk.frame : ∀ {a : List (Str × V)} {b : List (Str × FD)} {c : List Addr}, FldsOk K w a b c → (∀ x ∈ c, w'.h x = w.h x) → Ex w.s w'.s → FldsOk K w' a b c
  | _, _, _, .nil, _, _ => .nil
  | _, _, _, .st r t, f, e => .st (r.mono e) (FldsOk.frame t f e)
  | _, _, _, .ol h r t, f, e => .ol ((f _ List.mem_cons_self).trans h) (r.mono e) (FldsOk.frame t (fun a ha => f a (List.mem_cons_of_mem _ ha)) e)
theorem OwnOk.frame {v : V} {o : OD} {fp : List Addr} (h : OwnOk K w v o fp) (f : ∀ a ∈ fp, w'.h a = w.h a) (e : Ex w.s w'.s) : OwnOk K w' v o fp := by
  cases o with
  | lst ds => obtain ⟨p, vs, rfl, rfl, e3, e4⟩ := h; exact ⟨p, vs, rfl, rfl, (f p List.mem_cons_self).trans e3, e4.mono e⟩
  | dic kvs => obtain ⟨p, vs, rfl, rfl, e3, e4⟩ := h; exact ⟨p, vs, rfl, rfl, (f p List.mem_cons_self).trans e3, e4.mono e⟩
  | mat rows => obtain ⟨p, ps, rfl, rfl, e3, e4⟩ := h; exact ⟨p, ps, rfl, rfl, (f p List.mem_cons_self).trans e3, e4.frame (fun a ha => f a (List.mem_cons_of_mem _ ha)) e⟩
  | ins C fs =>
    obtain ⟨p, dx, fvs, fq, rfl, rfl, e3, e4, e5⟩ := h
    exact ⟨p, dx, fvs, fq, rfl, rfl, (f p List.mem_cons_self).trans e3, (f dx (List.mem_cons_of_mem _ List.mem_cons_self)).trans e4, e5.frame (fun a ha => f a (List.mem_cons_of_mem _ (List.mem_cons_of_mem _ ha))) e⟩
theorem SlOk.frame {x : Option V} {e : Sl} {fp : List Addr} (h : SlOk K B w0 w x e fp) (f : ∀ a ∈ fp, w'.h a = w.h a ∧ w'.s a = w.s a) (ex : Ex w.s w'.s) : SlOk K B w0 w' x e fp := by
  cases e with
  | junk => exact h
  | dat d => obtain ⟨e1, v, e2, e3⟩ := h; exact ⟨e1, v, e2, e3.mono ex⟩
  | own o =>
    obtain ⟨n, a, v, e2, e3⟩ := h
    exact ⟨n, fun b hb => ⟨(f b hb).2.trans (a b hb).1, by rw [(f b hb).1]; exact (a b hb).2.1, (a b hb).2.2⟩, v, e2, e3.frame (fun b hb => (f b hb).1) ex⟩
  | bor o =>
    obtain ⟨n, a, v, e2, e3⟩ := h
    exact ⟨n, fun b hb => ⟨(f b hb).2.trans (a b hb).1, by rw [(f b hb).1]; exact (a b hb).2.1, (a b hb).2.2⟩, v, e2, e3.frame (fun b hb => (f b hb).1) ex⟩
/-- from w to w' only places of slot i's own are touched, and it holds e then -/
theorem SatF.turn {σ : L2.St} {env : Evm} {fps : Nat → List Addr} {i : Nat} {x : Option V} {e : Sl} {fp : List Addr} (h : SatF K B w0 w σ env fps) (hi : i < env.length) (g : Gr B w0 w') (ex : Ex w.s w'.s)
    (f : ∀ j, j ≠ i → ∀ a ∈ fps j, w'.h a = w.h a ∧ w'.s a = w.s a) (he : SlOk K B w0 w' x e fp) (hfp : ∀ a ∈ fp, ∀ j, j ≠ i → a ∉ fps j) : SatF K B w0 w' (σ.set i x) (env.set i e) (fun j => if j = i then fp else fps j) := by
  obtain ⟨_, b, c, d⟩ := h
  refine ⟨g, by rw [List.length_set, List.length_set, b], fun j => ?_, fun j k z hjk hz => ?_⟩
  · rw [getD_set _ _ _ _ _ (by omega), getD_set _ _ _ _ _ hi]
    by_cases e : j = i
    · rw [if_pos e, if_pos e, if_pos e]; exact he
    · rw [if_neg e, if_neg e, if_neg e]; exact (c j).frame (f j e) ex
  · have hz : z ∈ (if j = i then fp else fps j) := hz
    show z ∉ (if k = i then fp else fps k)
    by_cases e1 : j = i
    · rw [if_pos e1] at hz
      have e2 : k ≠ i := fun q => hjk (e1.trans q.symm)
      rw [if_neg e2]
      exact hfp z hz k e2
    · rw [if_neg e1] at hz
      by_cases e2 : k = i
      · rw [if_pos e2]; exact fun q => hfp z q j e1 hz
      · rw [if_neg e2]; exact d j k z hjk hz
/-- the second knows no more than the first -/
def Le : Evm → Evm → Prop
  | [], [] => True
  | e :: es, e' :: es' => (e' = .junk ∨ e' = e) ∧ Le es es'
  | _, _ => False
theorem Le.refl : ∀ e : Evm, Le e e
  | [] => trivial
  | _ :: es => ⟨.inr rfl, Le.refl es⟩
theorem Le.trans : ∀ {a b c : Evm}, Le a b → Le b c → Le a c
  | [], [], [], _, _ => trivial
  | x :: a, y :: b, z :: c, ⟨h1, h2⟩, ⟨h3, h4⟩ => ⟨by
      rcases h3 with h3 | h3
      · exact .inl h3
      · rw [h3]; exact h1, Le.trans h2 h4⟩
theorem Le.length : ∀ {a b : Evm}, Le a b → a.length = b.length
  | [], [], _ => rfl
  | _ :: a, _ :: b, h => congrArg (· + 1) (Le.length h.2)
theorem Le.get : ∀ {a b : Evm}, Le a b → ∀ i, b.getD i .junk = .junk ∨ b.getD i .junk = a.getD i .junk
  | [], [], _, _ => .inl rfl
  | _ :: _, _ :: _, h, 0 => h.1
  | _ :: a, _ :: b, h, i + 1 => Le.get (a := a) (b := b) h.2 i
open Classical in
theorem Sat.weak {σ : St} {env env' : Evm} (h : Sat K B w0 w σ env) (l : Le env env') : Sat K B w0 w σ env' := by
  obtain ⟨a, b, fps, c, d⟩ := h
  refine ⟨a, b.trans l.length, fun i => if env'.getD i .junk = env.getD i .junk then fps i else [], fun i => ?_, fun i j z hij hz => ?_⟩
  · dsimp only
    rcases l.get i with e | e
    · by_cases q : env'.getD i .junk = env.getD i .junk
      · rw [if_pos q, q]; exact c i
      · rw [if_neg q, e]; exact rfl
    · rw [if_pos e, e]; exact c i
  · dsimp only at hz ⊢
    by_cases q : env'.getD i .junk = env.getD i .junk
    · rw [if_pos q] at hz
      by_cases q' : env'.getD j .junk = env.getD j .junk
      · rw [if_pos q']; exact d i j z hij hz
      · rw [if_neg q']; simp
    · rw [if_neg q] at hz; simp at hz
theorem Sat.get {σ : St} {env : Evm} {i : Nat} {d : PyData} (h : Sat K B w0 w σ env) (he : env[i]? = some (.dat d)) : ∃ v, σ[i]? = some (some v) ∧ Rp K w.s v d := by
  obtain ⟨a, b, fps, c, _⟩ := h
  have q := c i
  rw [List.getD_eq_getElem?_getD, List.getD_eq_getElem?_getD, he] at q
  obtain ⟨_, v, e, r⟩ := q
  have hl : i < σ.length := by rw [b]; exact (List.getElem?_eq_some_iff.mp he).1
  refine ⟨v, ?_, r⟩
  rw [List.getElem?_eq_getElem hl] at e ⊢
  exact congrArg some e
theorem Sat.getO {σ : St} {env : Evm} {i : Nat} {o : OD} (h : Sat K B w0 w σ env) (he : env[i]? = some (.own o) ∨ env[i]? = some (.bor o)) : ∃ v fp, σ[i]? = some (some v) ∧ OwnOk K w v o fp := by
  obtain ⟨a, b, fps, c, _⟩ := h
  have q := c i
  have hl : i < σ.length := by rw [b]; rcases he with he | he <;> exact (List.getElem?_eq_some_iff.mp he).1
  rcases he with he | he <;>
  · rw [List.getD_eq_getElem?_getD, List.getD_eq_getElem?_getD, he] at q
    obtain ⟨_, _, v, e, r⟩ := q
    refine ⟨v, fps i, ?_, r⟩
    rw [List.getElem?_eq_getElem hl] at e ⊢
    exact congrArg some e
end
end Fw


namespace Fw
open PySem PySem.Spec L2 Emb
/-! ## worlds that grow -/
section
variable {K : PySem.W.Frag} {w w' : Wl} {w0 : Bs} {B : List Addr} {p : Addr} {o : HO}
def Wl.new (w : Wl) (p : Addr) (o : HO) (hp : w.h p = none) : Wl := ⟨w.s, upd w.h p o, fun a u e => by
  rw [upd_ne (ne_of_none (w.le a u e) hp)]
  exact w.le a u e⟩
theorem grow_new (hp : w.h p = none) : Grow [] w (w.new p o hp) := by
  refine ⟨fun a u _ e => ?_, Ex.refl _, fun a _ e => e, fun a e => ?_⟩
  · show upd w.h p o a = some u
    rw [upd_ne (ne_of_none e hp)]; exact e
  · show upd w.h p o a ≠ none
    intro q
    by_cases c : a = p
    · exact e (c ▸ hp)
    · rw [upd_ne c] at q; exact e q
theorem s_none (hp : w.h p = none) : w.s p = none := by
  cases e : w.s p with
  | none => rfl
  | some u => rw [w.le p u e] at hp; cases hp
def Wl.fix (w : Wl) (p : Addr) (o : HO) (h : w.h p = some o) : Wl := ⟨upd w.s p o, w.h, fun a u e => by
  by_cases c : a = p
  · subst c; rw [upd_same] at e; rw [h]; exact e
  · rw [upd_ne c] at e; exact w.le a u e⟩
theorem ex_fix (h : w.h p = some o) : Ex w.s (w.fix p o h).s := fun a u e => by
  show upd w.s p o a = some u
  by_cases c : a = p
  · subst c; rw [upd_same]; rw [w.le a u e] at h; exact h.symm
  · rw [upd_ne c]; exact e
theorem fix_same (h : w.h p = some o) : (w.fix p o h).s p = some o := upd_same
theorem grow_fix (g : Grow [] w w') (hp : w.h p = none) (h : w'.h p = some o) : Grow [] w (w'.fix p o h) := by
  refine ⟨fun a u hb e => g.h a u hb e, g.s.trans (ex_fix h), fun a e1 e2 => ?_, fun a e => g.dom a e⟩
  show upd w'.s p o a = none
  have c : a ≠ p := fun q => e1 (q ▸ hp)
  rw [upd_ne c]; exact g.own a e1 e2
/-- a new list for good -/
theorem rp_newL {vs : List V} {ds : List PyData} (hp : w.h p = none) (r : RpAll K w.s vs ds) :
    ∃ w' : Wl, w'.h = upd w.h p (.lst vs) ∧ Grow [] w w' ∧ Rp K w'.s (.ref p) (.list ds) := by
  have e : (w.new p (.lst vs) hp).h p = some (.lst vs) := upd_same
  have g := grow_fix (grow_new (o := .lst vs) hp) hp e
  exact ⟨(w.new p (.lst vs) hp).fix p (.lst vs) e, rfl, g, .lst upd_same (r.mono g.s)⟩
theorem rp_newT {vs : List V} {ds : List PyData} (hp : w.h p = none) (r : RpAll K w.s vs ds) :
    ∃ w' : Wl, w'.h = upd w.h p (.tup vs) ∧ Grow [] w w' ∧ Rp K w'.s (.ref p) (.tuple ds) := by
  have e : (w.new p (.tup vs) hp).h p = some (.tup vs) := upd_same
  have g := grow_fix (grow_new (o := .tup vs) hp) hp e
  exact ⟨(w.new p (.tup vs) hp).fix p (.tup vs) e, rfl, g, .tup (Or.inl (Or.inl upd_same)) (r.mono g.s)⟩
end
/-! ## what evaluates to what -/
section
variable (K : PySem.W.Frag)
def EvE (te : TE) (env : Evm) (d : PyData) : Prop := ∀ B w0 w σ, Sat K B w0 w σ env → ∀ Q : VK, (∀ v w', Grow [] w w' → Rp K w'.s v d → Q v w'.h) → te σ w.h Q
def EvT (tt : TT) (env : Evm) (b : Bool) : Prop := ∀ B w0 w σ, Sat K B w0 w σ env → ∀ Q : Bool → Hp → Prop, (∀ w', Grow [] w w' → Q b w'.h) → tt σ w.h Q
def EvA (ta : TA) (env : Evm) (ds : List PyData) : Prop := ∀ B w0 w σ, Sat K B w0 w σ env → ∀ Q : List V → Hp → Prop, (∀ vs w', Grow [] w w' → RpAll K w'.s vs ds → Q vs w'.h) → ta σ w.h Q
/-- a new list -/
def EvN (te : TE) (env : Evm) (ds : List PyData) : Prop := ∀ B w0 w σ, Sat K B w0 w σ env → ∀ Q : VK,
  (∀ p vs w', w.h p = none → Grow [] w w' → w'.h p = some (.lst vs) → w'.s p = none → RpAll K w'.s vs ds → Q (.ref p) w'.h) → te σ w.h Q
def EvO (to : TO) (env : Evm) (o : Option Int) : Prop := ∀ B w0 w σ, Sat K B w0 w σ env → ∀ Q : Option Int → Hp → Prop, (∀ w', Grow [] w w' → Q o w'.h) → to σ w.h Q
/-- a two-place operation on data; a one-place one; a call on data; one that makes a new list -/
def RV (r : R2) (x y z : PyData) : Prop := ∀ w u v, Rp K w.s u x → Rp K w.s v y → ∀ Q : VK, (∀ v' w', Grow [] w w' → Rp K w'.s v' z → Q v' w'.h) → r u v w.h Q
def RU (r : V → Hp → VK → Prop) (x z : PyData) : Prop := ∀ w u, Rp K w.s u x → ∀ Q : VK, (∀ v' w', Grow [] w w' → Rp K w'.s v' z → Q v' w'.h) → r u w.h Q
def RC (r : List V → Hp → VK → Prop) (ds : List PyData) (z : PyData) : Prop := ∀ w us, RpAll K w.s us ds → ∀ Q : VK, (∀ v' w', Grow [] w w' → Rp K w'.s v' z → Q v' w'.h) → r us w.h Q
def RCN (r : List V → Hp → VK → Prop) (ds : List PyData) (zs : List PyData) : Prop := ∀ w us, RpAll K w.s us ds → ∀ Q : VK,
  (∀ p vs w', w.h p = none → Grow [] w w' → w'.h p = some (.lst vs) → w'.s p = none → RpAll K w'.s vs zs → Q (.ref p) w'.h) → r us w.h Q
end
section
variable {K : PySem.W.Frag} {env : Evm} {te ta tb tc : TE} {x y z d : PyData} {r : R2} {t u : TT} {a b : Bool}
theorem EvN.e {ds : List PyData} (h : EvN K te env ds) : EvE K te env (.list ds) := fun B w0 w σ s Q q =>
  h B w0 w σ s Q fun p vs w' hp g e _ r => q (.ref p) (w'.fix p _ e) (grow_fix g hp e) (.lst (fix_same e) (r.mono (ex_fix e)))
theorem ev_var {i : Nat} (h : env[i]? = some (.dat d)) : EvE K (tVar i) env d := fun B w0 w σ s Q q => by
  obtain ⟨v, e, r⟩ := s.get h
  exact ⟨v, e, q v w (Grow.refl _ _) r⟩
theorem ev_c {v : V} (h : ∀ H, Rp K H v d) : EvE K (tC v) env d := fun B w0 w σ s Q q => q v w (Grow.refl _ _) (h _)
theorem ev_op (ha : EvE K ta env x) (hb : EvE K tb env y) (hr : RV K r x y z) : EvE K (tOp r ta tb) env z := fun B w0 w σ s Q q =>
  ha B w0 w σ s _ fun v w1 g1 r1 => hb B w0 w1 σ (s.mono g1) _ fun v2 w2 g2 r2 => hr w2 _ _ (r1.mono g2.s) r2 _ fun v3 w3 g3 r3 => q v3 w3 ((g1.trans g2).trans g3) r3
theorem ev_un {r : V → Hp → VK → Prop} (ha : EvE K ta env x) (hr : RU K r x z) : EvE K (tUn r ta) env z := fun B w0 w σ s Q q =>
  ha B w0 w σ s _ fun v w1 g1 r1 => hr w1 _ r1 _ fun v3 w3 g3 r3 => q v3 w3 (g1.trans g3) r3
theorem ev_CB {r : List V → Hp → VK → Prop} {ds : List PyData} {t : TA} (ha : EvA K t env ds) (hr : RC K r ds z) : EvE K (tCB r t) env z := fun B w0 w σ s Q q =>
  ha B w0 w σ s _ fun v w1 g1 r1 => hr w1 _ r1 _ fun v3 w3 g3 r3 => q v3 w3 (g1.trans g3) r3
theorem ev_CBN {r : List V → Hp → VK → Prop} {ds zs : List PyData} {t : TA} (ha : EvA K t env ds) (hr : RCN K r ds zs) : EvN K (tCB r t) env zs := fun B w0 w σ s Q q =>
  ha B w0 w σ s _ fun v w1 g1 r1 => hr w1 _ r1 _ fun p vs w3 hp g3 e1 e2 r3 => q p vs w3 (by
    cases e : w.h p with
    | none => rfl
    | some o => rw [exh g1 _ _ e] at hp; cases hp) (g1.trans g3) e1 e2 r3
theorem et_test (h : EvE K te env (.bool b)) : EvT K (tTest te) env b := fun B w0 w σ s Q q => h B w0 w σ s _ fun v w1 g1 r1 => by
  cases r1
  exact ⟨b, rfl, q w1 g1⟩
theorem et_B (h : EvE K te env (.bool b)) : EvT K (tB te) env b := et_test h
theorem et_and (h1 : EvT K t env a) (h2 : a = true → EvT K u env b) : EvT K (tAnd t u) env (a && b) := fun B w0 w σ s Q q => h1 B w0 w σ s _ fun w1 g1 => by
  cases a with
  | true => exact h2 rfl B w0 w1 σ (s.mono g1) Q fun w2 g2 => q w2 (g1.trans g2)
  | false => exact q w1 g1
theorem et_or (h1 : EvT K t env a) (h2 : a = false → EvT K u env b) : EvT K (tOr t u) env (a || b) := fun B w0 w σ s Q q => h1 B w0 w σ s _ fun w1 g1 => by
  cases a with
  | true => exact q w1 g1
  | false => exact h2 rfl B w0 w1 σ (s.mono g1) Q fun w2 g2 => q w2 (g1.trans g2)
theorem et_not (h1 : EvT K t env a) : EvT K (tNot t) env (!a) := fun B w0 w σ s Q q => h1 B w0 w σ s _ fun w1 g1 => q w1 g1
theorem ev_andV (h1 : EvE K ta env (.bool a)) (h2 : a = true → EvE K tb env (.bool b)) : EvE K (tAndV ta tb) env (.bool (a && b)) := fun B w0 w σ s Q q => h1 B w0 w σ s _ fun v w1 g1 r1 => by
  cases r1
  refine ⟨a, rfl, ?_⟩
  cases a with
  | true => exact h2 rfl B w0 w1 σ (s.mono g1) Q fun v w2 g2 r => q v w2 (g1.trans g2) r
  | false => exact q _ w1 g1 (.bl _)
theorem ev_orV (h1 : EvE K ta env (.bool a)) (h2 : a = false → EvE K tb env (.bool b)) : EvE K (tOrV ta tb) env (.bool (a || b)) := fun B w0 w σ s Q q => h1 B w0 w σ s _ fun v w1 g1 r1 => by
  cases r1
  refine ⟨a, rfl, ?_⟩
  cases a with
  | true => exact q _ w1 g1 (.bl _)
  | false => exact h2 rfl B w0 w1 σ (s.mono g1) Q fun v w2 g2 r => q v w2 (g1.trans g2) r
theorem ev_notV (h1 : EvE K ta env (.bool a)) : EvE K (tNotV ta) env (.bool (!a)) := fun B w0 w σ s Q q => h1 B w0 w σ s _ fun v w1 g1 r1 => by
  cases r1
  exact ⟨a, rfl, q _ w1 g1 (.bl _)⟩
theorem ev_if {c : Bool} (h : EvT K t env c) (h1 : c = true → EvE K ta env d) (h2 : c = false → EvE K tb env d) : EvE K (tIf t ta tb) env d := fun B w0 w σ s Q q => h B w0 w σ s _ fun w1 g1 => by
  cases c with
  | true => exact h1 rfl B w0 w1 σ (s.mono g1) Q fun v w2 g2 r => q v w2 (g1.trans g2) r
  | false => exact h2 rfl B w0 w1 σ (s.mono g1) Q fun v w2 g2 r => q v w2 (g1.trans g2) r
theorem ev_ifN {c : Bool} {ds : List PyData} (h : EvT K t env c) (h1 : c = true → EvN K ta env ds) (h2 : c = false → EvN K tb env ds) : EvN K (tIf t ta tb) env ds := fun B w0 w σ s Q q => h B w0 w σ s _ fun w1 g1 => by
  have bk : ∀ {p : Addr}, w1.h p = none → w.h p = none := fun {p} hp => by
    cases e : w.h p with
    | none => rfl
    | some o => rw [exh g1 _ _ e] at hp; cases hp
  cases c with
  | true => exact h1 rfl B w0 w1 σ (s.mono g1) Q fun p vs w2 hp g2 e1 e2 r => q p vs w2 (bk hp) (g1.trans g2) e1 e2 r
  | false => exact h2 rfl B w0 w1 σ (s.mono g1) Q fun p vs w2 hp g2 e1 e2 r => q p vs w2 (bk hp) (g1.trans g2) e1 e2 r
theorem ea_nil : EvA K tNil env [] := fun B w0 w σ s Q q => q [] w (Grow.refl _ _) .nil
theorem ea_cons {tr : TA} {ds : List PyData} (h : EvE K ta env x) (hr : EvA K tr env ds) : EvA K (tCons ta tr) env (x :: ds) := fun B w0 w σ s Q q =>
  h B w0 w σ s _ fun v w1 g1 r1 => hr B w0 w1 σ (s.mono g1) _ fun vs w2 g2 r2 => q (v :: vs) w2 (g1.trans g2) (.cons (r1.mono g2.s) r2)
theorem ev_tup {ta : TA} {ds : List PyData} (h : EvA K ta env ds) (hl : ds.length ≤ sizeLine) : EvE K (tTup ta) env (.tuple ds) := fun B w0 w σ s Q q =>
  h B w0 w σ s _ fun vs w1 g1 r1 => ⟨by rw [r1.length]; exact hl, fun p hp => by
    obtain ⟨w2, e2, g2, r2⟩ := rp_newT hp r1
    rw [← e2]
    exact q _ w2 (g1.trans g2) r2⟩
theorem en_lst {ta : TA} {ds : List PyData} (h : EvA K ta env ds) (hl : ds.length ≤ sizeLine) : EvN K (tLst ta) env ds := fun B w0 w σ s Q q =>
  h B w0 w σ s _ fun vs w1 g1 r1 => ⟨by rw [r1.length]; exact hl, fun p hp => q p vs (w1.new p (.lst vs) hp) (by
    cases e : w.h p with
    | none => rfl
    | some o => rw [exh g1 _ _ e] at hp; cases hp) (g1.trans (grow_new hp)) upd_same (s_none (w := w1) hp) r1⟩
theorem eo_none : EvO K tNoPart env none := fun B w0 w σ s Q q => q w (Grow.refl _ _)
theorem eo_some {i : Int} (h : EvE K te env (.int i)) : EvO K (tPart te) env (some i) := fun B w0 w σ s Q q => h B w0 w σ s _ fun v w1 g1 r1 => by
  cases r1
  exact ⟨i, rfl, q w1 g1⟩
end
/-! ## the static part of a context -/
structure Gc where
  P : Program
  w : World
  K : PySem.W.Frag
  mg : Str → Option Value
  base : Heap
  ct : Nat → Addr × Option Str
structure Sc extends Gc where
  N : List Str
  sc : Scope
  calm : Bool
  lvl : Nat
structure Dyn (S : Sc) (X : Cx) : Prop where
  P : X.prog = S.P
  w : X.w = S.w
  K : X.K = S.K
  mg : X.mg = S.mg
  base : X.base = S.base
  N : X.N = S.N
  sc : X.env.scope = S.sc
  calm : X.calm = S.calm
  room : S.calm = true → Room S.lvl X.A
  un : X.A.units + 64 < cLine
abbrev RelC (mg : Str → Option Value) (x : Str) (v : V) : Prop := ∃ u, mg x = some u ∧ RelV v u
def XE (S : Sc) (e : Expr) (env : Evm) (d : PyData) : Prop := ∃ t, (∀ X, Dyn S X → PE X e t) ∧ EvE S.K t env d
def XT (S : Sc) (e : Expr) (env : Evm) (b : Bool) : Prop := ∃ t, (∀ X, Dyn S X → PT X e t) ∧ EvT S.K t env b
def XW (S : Sc) (e : Expr) (env : Evm) (b : Bool) : Prop := ∃ t, (∀ X, Dyn S X → PW X e t) ∧ EvT S.K t env b
def XA (S : Sc) (es : List Expr) (env : Evm) (ds : List PyData) : Prop := ∃ t, (∀ X, Dyn S X → PA X es t) ∧ EvA S.K t env ds
def XN (S : Sc) (e : Expr) (env : Evm) (ds : List PyData) : Prop := ∃ t, (∀ X, Dyn S X → PE X e t) ∧ EvN S.K t env ds
def XO (S : Sc) (e : Option Expr) (env : Evm) (o : Option Int) : Prop := ∃ t, (∀ X, Dyn S X → PO X e t) ∧ EvO S.K t env o
section
variable {S : Sc} {env : Evm} {e a b c : Expr} {d x y z : PyData} {pos p : Pos} {i j : Int} {s : Str}
theorem XN.xe {ds : List PyData} (h : XN S a env ds) : XE S a env (.list ds) := let ⟨t, p, q⟩ := h; ⟨t, p, q.e⟩
theorem XE.to (h : XE S e env d) (q : d = x) : XE S e env x := q ▸ h
theorem XT.to {b c : Bool} (h : XT S e env b) (q : b = c) : XT S e env c := q ▸ h
theorem xe_var (i : Nat) {x : Str} (hN : S.N[i]? = some x := by rfl) (hv : Vis S.sc x := by first | exact Or.inl rfl | exact Or.inr (Or.inl rfl) | exact Or.inr (Or.inr rfl)) (he : env[i]? = some (.dat d) := by rfl)
    (h1 : (x == ("__debug__" : Str)) = false := by decide) (h2 : (x == ("__classdict__" : Str)) = false := by decide) : XE S (.Name x pos) env d :=
  ⟨tVar i, fun X D => pe_var (by rw [D.N]; exact hN) (by rw [D.sc]; exact hv) h1 h2, ev_var he⟩
theorem xe_int {k} : XE S (.Constant (.int i) k pos) env (.int i) := ⟨_, fun X D => pe_int, ev_c fun _ => .int i⟩
theorem xe_bl {k} {b : Bool} : XE S (.Constant (.bool b) k pos) env (.bool b) := ⟨_, fun X D => pe_bl, ev_c fun _ => .bl b⟩
theorem xe_non {k} : XE S (.Constant .none k pos) env .none := ⟨_, fun X D => pe_non, ev_c fun _ => .non⟩
theorem xe_str {k} : XE S (.Constant (.str s) k pos) env (.str s) := ⟨_, fun X D => pe_str, ev_c fun _ => .str s⟩
def Glo (S : Sc) (x : Str) : Prop := S.sc.names.lookup x = some .globalImplicit
theorem Glo.gl {x : Str} {X : Cx} (h : Glo S x) (D : Dyn S X) : Gl X x := by
  show X.env.scope.names.lookup x = _
  rw [D.sc]; exact h
theorem xe_glob {v : V} {x : Str} (hm : RelC S.mg x v) (r : ∀ H, Rp S.K H v d) (hg : Glo S x := by rfl) (hd : (x == ("__debug__" : Str)) = false := by decide) : XE S (.Name x pos) env d := by
  obtain ⟨u, h1, h2⟩ := hm
  exact ⟨_, fun X D => pe_glob (hg.gl D) (by rw [D.mg]; exact h1) h2 hd, ev_c r⟩
theorem xe_globI {x : Str} (hm : RelC S.mg x (.int i)) (hg : Glo S x := by rfl) (hd : (x == ("__debug__" : Str)) = false := by decide) : XE S (.Name x pos) env (.int i) := xe_glob hm (fun _ => .int i) hg hd
theorem xe_globS {x : Str} (hm : RelC S.mg x (.str s)) (hg : Glo S x := by rfl) (hd : (x == ("__debug__" : Str)) = false := by decide) : XE S (.Name x pos) env (.str s) := xe_glob hm (fun _ => .str s) hg hd
/-! operators -/
theorem xe_op {op : Operator} {r : R2} (ho : ∀ X, Dyn S X → OpR X (binaryOp op) r) (hr : RV S.K r x y z) (ha : XE S a env x) (hb : XE S b env y) : XE S (.BinOp a op b pos) env z := by
  obtain ⟨ta, pa, ea⟩ := ha
  obtain ⟨tb, pb, eb⟩ := hb
  exact ⟨tOp r ta tb, fun X D => pe_op (ho X D) (pa X D) (pb X D), ev_op ea eb hr⟩
theorem xe_un {op : UnaryOp} {r : V → Hp → VK → Prop} (ho : ∀ X, Dyn S X → UnR X (unaryOp op) r) (hr : RU S.K r x z) (ha : XE S a env x) : XE S (.UnaryOp op a pos) env z := by
  obtain ⟨ta, pa, ea⟩ := ha
  exact ⟨tUn r ta, fun X D => pe_un (ho X D) (pa X D), ev_un ea hr⟩
end
section
variable {K : PySem.W.Frag} {i j : Int}
theorem rv_I0 {g : Int → Int → Int} : RV K (rI0 fun i j => .int (g i j)) (.int i) (.int j) (.int (g i j)) := fun w u v r1 r2 Q q => by
  cases r1; cases r2
  exact ⟨i, j, rfl, rfl, q _ w (Grow.refl _ _) (.int _)⟩
theorem rv_B0 {g : Int → Int → Bool} : RV K (rI0 fun i j => .bl (g i j)) (.int i) (.int j) (.bool (g i j)) := fun w u v r1 r2 Q q => by
  cases r1; cases r2
  exact ⟨i, j, rfl, rfl, q _ w (Grow.refl _ _) (.bl _)⟩
theorem rv_I {C : Int → Int → Prop} {g : Int → Int → Int} (hc : C i j) : RV K (rI C fun i j => .int (g i j)) (.int i) (.int j) (.int (g i j)) := fun w u v r1 r2 Q q => by
  cases r1; cases r2
  exact ⟨i, j, rfl, rfl, hc, q _ w (Grow.refl _ _) (.int _)⟩
theorem ru_I {g : Int → Int} : RU K (rU fun i => .int (g i)) (.int i) (.int (g i)) := fun w u r1 Q q => by
  cases r1
  exact ⟨i, rfl, q _ w (Grow.refl _ _) (.int _)⟩
end
section
variable {S : Sc} {env : Evm} {e a b c : Expr} {d x y z : PyData} {pos p : Pos} {i j : Int} {s s' : Str}
theorem xe_add (ha : XE S a env (.int i)) (hb : XE S b env (.int j)) : XE S (.BinOp a .Add b pos) env (.int (i + j)) := xe_op (fun _ _ => op_add) rv_I0 ha hb
theorem xe_sub (ha : XE S a env (.int i)) (hb : XE S b env (.int j)) : XE S (.BinOp a .Sub b pos) env (.int (i - j)) := xe_op (fun _ _ => op_sub) rv_I0 ha hb
theorem xe_mul (h : CMul i j) (ha : XE S a env (.int i)) (hb : XE S b env (.int j)) : XE S (.BinOp a .Mult b pos) env (.int (i * j)) := xe_op (fun _ _ => op_mul) (rv_I h) ha hb
theorem xe_div (h : CDiv i j) (ha : XE S a env (.int i)) (hb : XE S b env (.int j)) : XE S (.BinOp a .FloorDiv b pos) env (.int (i / j)) := xe_op (fun _ _ => op_fdiv) (rv_I h) ha hb
theorem xe_mod (h : 0 < j) (ha : XE S a env (.int i)) (hb : XE S b env (.int j)) : XE S (.BinOp a .Mod b pos) env (.int (i % j)) := xe_op (fun _ _ => op_mod) (rv_I (C := fun _ j => 0 < j) h) ha hb
theorem xe_pow (h : CPow i j) (ha : XE S a env (.int i)) (hb : XE S b env (.int j)) : XE S (.BinOp a .Pow b pos) env (.int (i ^ j.toNat)) := xe_op (fun _ _ => op_pow) (rv_I (g := fun i j => i ^ j.toNat) h) ha hb
theorem xe_neg (ha : XE S a env (.int i)) : XE S (.UnaryOp .USub a pos) env (.int (-i)) := xe_un (fun _ _ => un_neg) ru_I ha
theorem rv_cat {K : PySem.W.Frag} (h : s.length + s'.length ≤ sizeLine) : RV K (fun x y H Q => ∃ i j, x = .str i ∧ y = .str j ∧ i.length + j.length ≤ sizeLine ∧ Q (.str (i ++ j)) H) (.str s) (.str s') (.str (s ++ s')) := fun w u v r1 r2 Q q => by
  cases r1; cases r2
  exact ⟨_, _, rfl, rfl, h, q _ w (Grow.refl _ _) (.str _)⟩
theorem xe_cat (h : s.length + s'.length ≤ sizeLine) (ha : XE S a env (.str s)) (hb : XE S b env (.str s')) : XE S (.BinOp a .Add b pos) env (.str (s ++ s')) := xe_op (fun _ _ => op_add_str) (rv_cat h) ha hb
/-! comparisons -/
theorem xe_cmp {op : CmpOp} {r : R2} (ho : ∀ X, Dyn S X → OpR X (compareOp op) r) (hr : RV S.K r x y z) (hm : behindInMarks op b = false) (ha : XE S a env x) (hb : XE S b env y) : XE S (.Compare a [op] [b] pos) env z := by
  obtain ⟨ta, pa, ea⟩ := ha
  obtain ⟨tb, pb, eb⟩ := hb
  exact ⟨tOp r ta tb, fun X D => pe_cmpR (ho X D) (pa X D) (pb X D) hm, ev_op ea eb hr⟩
theorem xt_cmp {op : CmpOp} {r : R2} {k : Bool} (ho : ∀ X, Dyn S X → OpR X (compareOp op) r) (hr : RV S.K r x y (.bool k)) (hm : behindInMarks op b = false) (ha : XE S a env x) (hb : XE S b env y) : XT S (.Compare a [op] [b] pos) env k := by
  obtain ⟨ta, pa, ea⟩ := ha
  obtain ⟨tb, pb, eb⟩ := hb
  exact ⟨tTest (tOp r ta tb), fun X D => pt_cmpR (ho X D) (pa X D) (pb X D) hm, et_test (ev_op ea eb hr)⟩
theorem xe_lt (ha : XE S a env (.int i)) (hb : XE S b env (.int j)) : XE S (.Compare a [.Lt] [b] pos) env (.bool (decide (i < j))) := xe_cmp (fun _ _ => op_lt) rv_B0 (nomark _) ha hb
theorem xe_le (ha : XE S a env (.int i)) (hb : XE S b env (.int j)) : XE S (.Compare a [.LtE] [b] pos) env (.bool (decide (i ≤ j))) := xe_cmp (fun _ _ => op_le) rv_B0 (nomark _) ha hb
theorem xe_gt (ha : XE S a env (.int i)) (hb : XE S b env (.int j)) : XE S (.Compare a [.Gt] [b] pos) env (.bool (decide (j < i))) := xe_cmp (fun _ _ => op_gt) (rv_B0 (g := fun i j => decide (j < i))) (nomark _) ha hb
theorem xe_ge (ha : XE S a env (.int i)) (hb : XE S b env (.int j)) : XE S (.Compare a [.GtE] [b] pos) env (.bool (decide (j ≤ i))) := xe_cmp (fun _ _ => op_ge) (rv_B0 (g := fun i j => decide (j ≤ i))) (nomark _) ha hb
theorem xt_lt (ha : XE S a env (.int i)) (hb : XE S b env (.int j)) : XT S (.Compare a [.Lt] [b] pos) env (decide (i < j)) := xt_cmp (fun _ _ => op_lt) rv_B0 (nomark _) ha hb
theorem xt_le (ha : XE S a env (.int i)) (hb : XE S b env (.int j)) : XT S (.Compare a [.LtE] [b] pos) env (decide (i ≤ j)) := xt_cmp (fun _ _ => op_le) rv_B0 (nomark _) ha hb
theorem xt_gt (ha : XE S a env (.int i)) (hb : XE S b env (.int j)) : XT S (.Compare a [.Gt] [b] pos) env (decide (j < i)) := xt_cmp (fun _ _ => op_gt) (rv_B0 (g := fun i j => decide (j < i))) (nomark _) ha hb
theorem xt_ge (ha : XE S a env (.int i)) (hb : XE S b env (.int j)) : XT S (.Compare a [.GtE] [b] pos) env (decide (j ≤ i)) := xt_cmp (fun _ _ => op_ge) (rv_B0 (g := fun i j => decide (j ≤ i))) (nomark _) ha hb
/-- == of any data that == can be asked of -/
theorem rv_eqD {K : PySem.W.Frag} (h1 : SeqAt.shaped x = true) (h2 : SeqAt.shaped y = true) : RV K (rEqD K) x y (.bool (PyData.eqv x y)) := fun w u v r1 r2 Q q =>
  ⟨x, y, (r1.mono w.le).dp (SeqAt.canLay_of_shaped h1), (r2.mono w.le).dp (SeqAt.canLay_of_shaped h2), h1, h2, q _ w (Grow.refl _ _) (.bl _)⟩
end
end Fw


namespace Fw
open PySem PySem.Spec L2 Emb
section
variable {K : PySem.W.Frag} {i j : Int} {s s' : Str} {x y z d : PyData} {a b : Bool}
theorem rv_eqI : RV K rEq (.int i) (.int j) (.bool (decide (i = j))) := fun w u v r1 r2 Q q => by
  cases r1; cases r2
  exact ⟨rfl, q _ w (Grow.refl _ _) (by rw [show decide (V.int i = V.int j) = decide (i = j) by simp]; exact .bl _)⟩
theorem rv_neI : RV K rNe (.int i) (.int j) (.bool (!decide (i = j))) := fun w u v r1 r2 Q q => by
  cases r1; cases r2
  exact ⟨rfl, q _ w (Grow.refl _ _) (by rw [show decide (V.int i = V.int j) = decide (i = j) by simp]; exact .bl _)⟩
theorem rv_eqS : RV K rEq (.str s) (.str s') (.bool (decide (s = s'))) := fun w u v r1 r2 Q q => by
  cases r1; cases r2
  exact ⟨rfl, q _ w (Grow.refl _ _) (by rw [show decide (V.str s = V.str s') = decide (s = s') by simp]; exact .bl _)⟩
theorem rv_neS : RV K rNe (.str s) (.str s') (.bool (!decide (s = s'))) := fun w u v r1 r2 Q q => by
  cases r1; cases r2
  exact ⟨rfl, q _ w (Grow.refl _ _) (by rw [show decide (V.str s = V.str s') = decide (s = s') by simp]; exact .bl _)⟩
theorem rv_eqB : RV K rEq (.bool a) (.bool b) (.bool (decide (a = b))) := fun w u v r1 r2 Q q => by
  cases r1; cases r2
  exact ⟨rfl, q _ w (Grow.refl _ _) (by rw [show decide (V.bl a = V.bl b) = decide (a = b) by simp]; exact .bl _)⟩
theorem rv_neB : RV K rNe (.bool a) (.bool b) (.bool (!decide (a = b))) := fun w u v r1 r2 Q q => by
  cases r1; cases r2
  exact ⟨rfl, q _ w (Grow.refl _ _) (by rw [show decide (V.bl a = V.bl b) = decide (a = b) by simp]; exact .bl _)⟩
theorem rv_neD (h1 : SeqAt.shaped x = true) (h2 : SeqAt.shaped y = true) : RV K (rNeD K) x y (.bool (!PyData.eqv x y)) := fun w u v r1 r2 Q q =>
  ⟨x, y, (r1.mono w.le).dp (SeqAt.canLay_of_shaped h1), (r2.mono w.le).dp (SeqAt.canLay_of_shaped h2), h1, h2, q _ w (Grow.refl _ _) (.bl _)⟩
def isN : PyData → Bool
  | .none => true
  | _ => false
theorem isN_of {H : Hp} {v : V} (r : Rp K H v d) : decide (v = .non) = isN d := by cases r <;> rfl
theorem rv_isN : RV K (fun x y H Q => y = .non ∧ Q (.bl (decide (x = .non))) H) d .none (.bool (isN d)) := fun w u v r1 r2 Q q => by
  cases r2
  exact ⟨rfl, by rw [isN_of r1]; exact q _ w (Grow.refl _ _) (.bl _)⟩
theorem rv_notN : RV K (fun x y H Q => y = .non ∧ Q (.bl (!decide (x = .non))) H) d .none (.bool (!isN d)) := fun w u v r1 r2 Q q => by
  cases r2
  exact ⟨rfl, by rw [isN_of r1]; exact q _ w (Grow.refl _ _) (.bl _)⟩
/-- one sign -/
def sg (c : Nat) : Str := ⟨#[c]⟩
theorem rv_inS {c : Nat} : RV K (fun x y H Q => ∃ (c : Nat) (z : Str), x = .str ⟨#[c]⟩ ∧ y = .str z ∧ Q (.bl (decide (c ∈ z.cps.toList))) H) (.str (sg c)) (.str s) (.bool (decide (c ∈ s.cps.toList))) := fun w u v r1 r2 Q q => by
  cases r1; cases r2
  exact ⟨c, s, rfl, rfl, q _ w (Grow.refl _ _) (.bl _)⟩
theorem rv_notInS {c : Nat} : RV K (fun x y H Q => ∃ (c : Nat) (z : Str), x = .str ⟨#[c]⟩ ∧ y = .str z ∧ Q (.bl (!decide (c ∈ z.cps.toList))) H) (.str (sg c)) (.str s) (.bool (!decide (c ∈ s.cps.toList))) := fun w u v r1 r2 Q q => by
  cases r1; cases r2
  exact ⟨c, s, rfl, rfl, q _ w (Grow.refl _ _) (.bl _)⟩
/-- flat data -/
def flatD : PyData → Bool
  | .none => true
  | .bool _ => true
  | .int _ => true
  | .str _ => true
  | _ => false
theorem flat_of {H : Hp} {v : V} (r : Rp K H v d) : flatV v = flatD d := by cases r <;> rfl
theorem eqV_of {H : Hp} {u v : V} (r : Rp K H u x) (r' : Rp K H v y) (h : flatD x = true) : eqV u v = PyData.eqv x y := by
  cases r <;> cases r' <;> first | rfl | (cases h; done) | skip
theorem flats_of {H : Hp} : ∀ {vs : List V} {ds : List PyData}, RpAll K H vs ds → vs.all flatV = ds.all flatD
  | _, _, .nil => rfl
  | _, _, .cons r t => by rw [List.all_cons, List.all_cons, flat_of r, flats_of t]
def inD (x : PyData) (ds : List PyData) : Bool := ds.any fun y => PyData.eqv y x
theorem inV_of {H : Hp} {u : V} (r : Rp K H u x) : ∀ {vs : List V} {ds : List PyData}, RpAll K H vs ds → ds.all flatD = true → inV u vs = inD x ds
  | _, _, .nil, _ => rfl
  | v :: vs, d :: ds, .cons r' t, h => by
    rw [List.all_cons, Bool.and_eq_true] at h
    have ih := inV_of r t h.2
    show (eqV v u || inV u vs) = (PyData.eqv d x || inD x ds)
    rw [eqV_of r' r h.1, ih]
theorem rv_inD {neg : Bool} {ds : List PyData} (hy : y = .list ds ∨ y = .tuple ds) (hx : flatD x = true) (ha : ds.all flatD = true) : RV K (rIn K neg) x y (.bool (if neg then !inD x ds else inD x ds)) := fun w u v r1 r2 Q q => by
  have r1' := r1.mono w.le
  have r2' := r2.mono w.le
  rcases hy with rfl | rfl
  · cases r2' with
    | lst h t => exact ⟨_, _, rfl, .inl (SqL.of h), (flat_of r1').trans hx, (flats_of t).trans ha, by rw [inV_of r1' t ha]; exact q _ w (Grow.refl _ _) (.bl _)⟩
  · cases r2' with
    | tup h t => exact ⟨_, _, rfl, .inr h, (flat_of r1').trans hx, (flats_of t).trans ha, by rw [inV_of r1' t ha]; exact q _ w (Grow.refl _ _) (.bl _)⟩
theorem ints_inj : ∀ {ns ms : List Int}, ns.map PyData.int = ms.map PyData.int → ns = ms
  | [], [], _ => rfl
  | [], _ :: _, h => by cases h
  | _ :: _, [], h => by cases h
  | n :: ns, m :: ms, h => by
    rw [List.map_cons, List.map_cons] at h
    injection h with h1 h2
    injection h1 with h1
    rw [h1, ints_inj h2]
theorem rp_scr {H : Hp} {v : V} {ns : List Int} (r : Rp K H v (scrD ns)) : ∃ a, v = .ref a ∧ SqL K H a (ns.map V.int) := by
  generalize e : scrD ns = d at r
  cases r with
  | @dct a kvs ds h t =>
    have e2 : [(PyData.none, PyData.list (ns.map PyData.int))] = ds := by injection e
    clear e
    revert e2
    cases t with
    | nil => intro e2; cases e2
    | @cons k _ _ _ _ r t =>
      intro e2
      injection e2 with e3 _
      injection e3 with e4 _
      cases k <;> cases e4
  | scr h =>
    injection e with e
    injection e with e _
    injection e with _ e
    injection e with e
    rw [ints_inj e]
    exact ⟨_, rfl, h⟩
  | _ => cases e
/-! index -/
theorem rv_ixL {ds : List PyData} (ha : atI ds i = some d) : RV K (rIxL K) (.list ds) (.int i) d := fun w u v r1 r2 Q q => by
  cases r2
  cases r1 with
  | lst h t =>
    unfold atI at ha
    rw [← t.length] at ha
    cases e : ixN (List.length _) i with
    | none => rw [e] at ha; cases ha
    | some k =>
      rw [e] at ha
      obtain ⟨v, hv, r⟩ := t.get ha
      exact ⟨_, _, i, v, rfl, rfl, SqL.of (w.le _ _ h), by unfold atI; rw [e]; exact hv, q v w (Grow.refl _ _) r⟩
theorem rv_ixT {ds : List PyData} (ha : atI ds i = some d) : RV K (rIxT K) (.tuple ds) (.int i) d := fun w u v r1 r2 Q q => by
  cases r2
  cases r1 with
  | tup h t =>
    unfold atI at ha
    rw [← t.length] at ha
    cases e : ixN (List.length _) i with
    | none => rw [e] at ha; cases ha
    | some k =>
      rw [e] at ha
      obtain ⟨v, hv, r⟩ := t.get ha
      exact ⟨_, _, i, v, rfl, rfl, ex_sqT w.le h, by unfold atI; rw [e]; exact hv, q v w (Grow.refl _ _) r⟩
theorem rv_ixScr {ns : List Int} (ha : atI ns i = some j) : RV K (rIxL K) (scrD ns) (.int i) (.int j) := fun w u v r1 r2 Q q => by
  cases r2
  obtain ⟨p, rfl, h⟩ := rp_scr r1
  refine ⟨_, _, i, .int j, rfl, rfl, ex_sqL w.le h, ?_, q _ w (Grow.refl _ _) (.int _)⟩
  unfold atI at ha ⊢
  rw [List.length_map]
  cases e : ixN ns.length i with
  | none => rw [e] at ha; cases ha
  | some k =>
    rw [e] at ha
    show (ns.map V.int)[k]? = _
    have ha : ns[k]? = some j := ha
    rw [List.getElem?_map, ha]
    rfl
theorem rv_ixS {c : Nat} (hl : s.length ≤ sizeLine) (ha : atI s.cps.toList i = some c) : RV K rIxS (.str s) (.int i) (.str (sg c)) := fun w u v r1 r2 Q q => by
  cases r1; cases r2
  exact ⟨_, i, c, rfl, rfl, hl, ha, q _ w (Grow.refl _ _) (.str _)⟩
/-! built-in calls -/
def rLen (K : PySem.W.Frag) : List V → Hp → VK → Prop := fun xs H Q => ∃ x n, xs = [x] ∧ LenV K x H n ∧ Q (.int n) H
def lenD : PyData → Nat
  | .str s => s.length
  | .list ds => ds.length
  | .tuple ds => ds.length
  | _ => 0
theorem rc_lenS (h : s.length ≤ sizeLine) : RC K (rLen K) [.str s] (.int s.length) := fun w us r Q q => by
  cases r with
  | cons r t => cases t; cases r; exact ⟨_, _, rfl, ⟨h, rfl⟩, q _ w (Grow.refl _ _) (.int _)⟩
theorem rc_lenL {ds : List PyData} : RC K (rLen K) [.list ds] (.int ds.length) := fun w us r Q q => by
  cases r with
  | cons r t =>
    cases t
    cases r with
    | lst h t => exact ⟨_, _, rfl, .inl ⟨_, SqL.of (w.le _ _ h), rfl⟩, by rw [t.length]; exact q _ w (Grow.refl _ _) (.int _)⟩
theorem rc_lenT {ds : List PyData} : RC K (rLen K) [.tuple ds] (.int ds.length) := fun w us r Q q => by
  cases r with
  | cons r t =>
    cases t
    cases r with
    | tup h t => exact ⟨_, _, rfl, .inr ⟨_, ex_sqT w.le h, rfl⟩, by rw [t.length]; exact q _ w (Grow.refl _ _) (.int _)⟩
theorem rc_lenScr {ns : List Int} : RC K (rLen K) [scrD ns] (.int ns.length) := fun w us r Q q => by
  cases r with
  | cons r t =>
    cases t
    obtain ⟨p, rfl, h⟩ := rp_scr r
    exact ⟨_, _, rfl, .inl ⟨_, ex_sqL w.le h, rfl⟩, by rw [List.length_map]; exact q _ w (Grow.refl _ _) (.int _)⟩
theorem rp_list {H : Hp} {v : V} {ds : List PyData} (r : Rp K H v (.list ds)) : ∃ a vs, v = .ref a ∧ H a = some (.lst vs) ∧ RpAll K H vs ds := by
  cases r with
  | lst h t => exact ⟨_, _, rfl, h, t⟩
theorem rpA1 {H : Hp} {us : List V} (r : RpAll K H us [x]) : ∃ v, us = [v] ∧ Rp K H v x := by
  cases r with
  | cons r t => cases t; exact ⟨_, rfl, r⟩
theorem rpA2 {H : Hp} {us : List V} (r : RpAll K H us [x, y]) : ∃ v u, us = [v, u] ∧ Rp K H v x ∧ Rp K H u y := by
  cases r with
  | cons r t => cases t with
    | cons r' t => cases t; exact ⟨_, _, rfl, r, r'⟩
theorem rpA3 {H : Hp} {us : List V} (r : RpAll K H us [x, y, z]) : ∃ v u t, us = [v, u, t] ∧ Rp K H v x ∧ Rp K H u y ∧ Rp K H t z := by
  cases r with
  | cons r t => cases t with
    | cons r' t => cases t with
      | cons r'' t => cases t; exact ⟨_, _, _, rfl, r, r', r''⟩
theorem rc_all {bs : List Bool} : RC K (rAll K) [.list (bs.map .bool)] (.bool (bs.all id)) := fun w us r Q q => by
  obtain ⟨v, rfl, r1⟩ := rpA1 r
  obtain ⟨a, vs, rfl, h, t⟩ := rp_list r1
  rw [t.of_bls] at h
  exact ⟨a, bs, rfl, SqL.of (w.le _ _ h), q _ w (Grow.refl _ _) (.bl _)⟩
theorem rc_any {bs : List Bool} : RC K (rAny K) [.list (bs.map .bool)] (.bool (bs.any id)) := fun w us r Q q => by
  obtain ⟨v, rfl, r1⟩ := rpA1 r
  obtain ⟨a, vs, rfl, h, t⟩ := rp_list r1
  rw [t.of_bls] at h
  exact ⟨a, bs, rfl, SqL.of (w.le _ _ h), q _ w (Grow.refl _ _) (.bl _)⟩
theorem rc_sum {ns : List Int} : RC K (rSum K) [.list (ns.map .int)] (.int ns.sum) := fun w us r Q q => by
  obtain ⟨v, rfl, r1⟩ := rpA1 r
  obtain ⟨a, vs, rfl, h, t⟩ := rp_list r1
  rw [t.of_ints] at h
  exact ⟨a, ns, rfl, SqL.of (w.le _ _ h), q _ w (Grow.refl _ _) (.int _)⟩
/-- the least, the greatest of a list -/
def lmin : List Int → Int
  | [] => 0
  | x :: xs => xs.foldl min x
def lmax : List Int → Int
  | [] => 0
  | x :: xs => xs.foldl max x
theorem foldl_min_le : ∀ (xs : List Int) (a : Int), xs.foldl min a ≤ a ∧ (∀ y ∈ xs, xs.foldl min a ≤ y) ∧ (xs.foldl min a = a ∨ xs.foldl min a ∈ xs)
  | [], a => ⟨Int.le_refl _, (fun _ h => nomatch h), .inl rfl⟩
  | x :: xs, a => by
    obtain ⟨h1, h2, h3⟩ := foldl_min_le xs (min a x)
    rw [List.foldl_cons]
    refine ⟨by omega, fun y hy => ?_, ?_⟩
    · rcases List.mem_cons.mp hy with rfl | hy
      · omega
      · exact h2 y hy
    · rcases h3 with h3 | h3
      · rw [h3]
        by_cases c : a ≤ x
        · exact .inl (by omega)
        · exact .inr (by rw [show min a x = x by omega]; exact List.mem_cons_self)
      · exact .inr (List.mem_cons_of_mem _ h3)
theorem foldl_max_le : ∀ (xs : List Int) (a : Int), a ≤ xs.foldl max a ∧ (∀ y ∈ xs, y ≤ xs.foldl max a) ∧ (xs.foldl max a = a ∨ xs.foldl max a ∈ xs)
  | [], a => ⟨Int.le_refl _, (fun _ h => nomatch h), .inl rfl⟩
  | x :: xs, a => by
    obtain ⟨h1, h2, h3⟩ := foldl_max_le xs (max a x)
    rw [List.foldl_cons]
    refine ⟨by omega, fun y hy => ?_, ?_⟩
    · rcases List.mem_cons.mp hy with rfl | hy
      · omega
      · exact h2 y hy
    · rcases h3 with h3 | h3
      · rw [h3]
        by_cases c : x ≤ a
        · exact .inl (by omega)
        · exact .inr (by rw [show max a x = x by omega]; exact List.mem_cons_self)
      · exact .inr (List.mem_cons_of_mem _ h3)
theorem lmin_mem {ns : List Int} (h : ns ≠ []) : lmin ns ∈ ns := by
  cases ns with
  | nil => exact absurd rfl h
  | cons x xs =>
    rcases (foldl_min_le xs x).2.2 with e | e
    · exact List.mem_cons.mpr (.inl e)
    · exact List.mem_cons_of_mem _ e
theorem lmin_le {ns : List Int} {y : Int} (h : y ∈ ns) : lmin ns ≤ y := by
  cases ns with
  | nil => cases h
  | cons x xs =>
    rcases List.mem_cons.mp h with rfl | h
    · exact (foldl_min_le xs _).1
    · exact (foldl_min_le xs x).2.1 y h
theorem lmax_mem {ns : List Int} (h : ns ≠ []) : lmax ns ∈ ns := by
  cases ns with
  | nil => exact absurd rfl h
  | cons x xs =>
    rcases (foldl_max_le xs x).2.2 with e | e
    · exact List.mem_cons.mpr (.inl e)
    · exact List.mem_cons_of_mem _ e
theorem le_lmax {ns : List Int} {y : Int} (h : y ∈ ns) : y ≤ lmax ns := by
  cases ns with
  | nil => cases h
  | cons x xs =>
    rcases List.mem_cons.mp h with rfl | h
    · exact (foldl_max_le xs _).1
    · exact (foldl_max_le xs x).2.1 y h
theorem rc_min {ns : List Int} (hn : ns ≠ []) : RC K (rMin K) [.list (ns.map .int)] (.int (lmin ns)) := fun w us r Q q => by
  obtain ⟨v, rfl, r1⟩ := rpA1 r
  obtain ⟨a, vs, rfl, h, t⟩ := rp_list r1
  rw [t.of_ints] at h
  refine ⟨a, ns, rfl, SqL.of (w.le _ _ h), List.length_pos_iff.mpr hn, fun m h1 h2 => ?_⟩
  have e : m = lmin ns := Int.le_antisymm (h2 _ (lmin_mem hn)) (lmin_le h1)
  rw [e]; exact q _ w (Grow.refl _ _) (.int _)
theorem rc_max {ns : List Int} (hn : ns ≠ []) : RC K (rMax K) [.list (ns.map .int)] (.int (lmax ns)) := fun w us r Q q => by
  obtain ⟨v, rfl, r1⟩ := rpA1 r
  obtain ⟨a, vs, rfl, h, t⟩ := rp_list r1
  rw [t.of_ints] at h
  refine ⟨a, ns, rfl, SqL.of (w.le _ _ h), List.length_pos_iff.mpr hn, fun m h1 h2 => ?_⟩
  have e : m = lmax ns := Int.le_antisymm (le_lmax h1) (h2 _ (lmax_mem hn))
  rw [e]; exact q _ w (Grow.refl _ _) (.int _)
theorem rc_abs : RC K (fun xs H Q => ∃ i, xs = [.int i] ∧ Q (.int (if i < 0 then -i else i)) H) [.int i] (.int (if i < 0 then -i else i)) := fun w us r Q q => by
  obtain ⟨v, rfl, r1⟩ := rpA1 r
  cases r1
  exact ⟨i, rfl, q _ w (Grow.refl _ _) (.int _)⟩
theorem rc_max2 : RC K (fun xs H Q => ∃ i j, xs = [.int i, .int j] ∧ Q (.int (if j > i then j else i)) H) [.int i, .int j] (.int (max i j)) := fun w us r Q q => by
  obtain ⟨v, u, rfl, r1, r2⟩ := rpA2 r
  cases r1; cases r2
  exact ⟨i, j, rfl, by rw [show (if j > i then j else i) = max i j by split <;> omega]; exact q _ w (Grow.refl _ _) (.int _)⟩
theorem rc_min2 : RC K (fun xs H Q => ∃ i j, xs = [.int i, .int j] ∧ Q (.int (if j < i then j else i)) H) [.int i, .int j] (.int (min i j)) := fun w us r Q q => by
  obtain ⟨v, u, rfl, r1, r2⟩ := rpA2 r
  cases r1; cases r2
  exact ⟨i, j, rfl, by rw [show (if j < i then j else i) = min i j by split <;> omega]; exact q _ w (Grow.refl _ _) (.int _)⟩
theorem rc_int1 : RC K (fun xs H Q => (∃ i, xs = [.int i] ∧ Q (.int i) H) ∨ ∃ k, xs = [.bl k] ∧ Q (.int (if k then 1 else 0)) H) [.int i] (.int i) := fun w us r Q q => by
  obtain ⟨v, rfl, r1⟩ := rpA1 r
  cases r1
  exact .inl ⟨i, rfl, q _ w (Grow.refl _ _) (.int _)⟩
theorem rc_intB : RC K (fun xs H Q => (∃ i, xs = [.int i] ∧ Q (.int i) H) ∨ ∃ k, xs = [.bl k] ∧ Q (.int (if k then 1 else 0)) H) [.bool b] (.int (if b then 1 else 0)) := fun w us r Q q => by
  obtain ⟨v, rfl, r1⟩ := rpA1 r
  cases r1
  exact .inr ⟨b, rfl, q _ w (Grow.refl _ _) (.int _)⟩
/-- the text of an int -/
def strI (i : Int) : Str := (toString i : String)
theorem rc_strI (h : i.natAbs.log2 < 1920) : RC K (fun xs H Q => ∃ i, xs = [.int i] ∧ i.natAbs.log2 < 1920 ∧ Q (.str (toString i)) H) [.int i] (.str (strI i)) := fun w us r Q q => by
  obtain ⟨v, rfl, r1⟩ := rpA1 r
  cases r1
  exact ⟨i, rfl, h, q _ w (Grow.refl _ _) (.str _)⟩
theorem rc_intS (h : PySem.intText? s = some i) (hl : s.length ≤ 640) : RC K (fun xs H Q => ∃ a n, xs = [.str a] ∧ PySem.intText? a = some n ∧ a.length ≤ 640 ∧ Q (.int n) H) [.str s] (.int i) := fun w us r Q q => by
  obtain ⟨v, rfl, r1⟩ := rpA1 r
  cases r1
  exact ⟨s, i, rfl, h, hl, q _ w (Grow.refl _ _) (.int _)⟩
def rListOf (K : PySem.W.Frag) : List V → Hp → VK → Prop := fun xs H Q => ∃ p ys, xs = [.ref p] ∧ (SqL K H p ys ∨ SqT K H p ys) ∧ ∀ l, H l = none → Q (.ref l) (upd H l (.lst ys))
theorem rc_list {ds : List PyData} : RCN K (rListOf K) [.list ds] ds := fun w us r Q q => by
  obtain ⟨v, rfl, r1⟩ := rpA1 r
  obtain ⟨a, vs, rfl, h, t⟩ := rp_list r1
  exact ⟨a, vs, rfl, .inl (SqL.of (w.le _ _ h)), fun l hl => q l vs (w.new l (.lst vs) hl) hl (grow_new hl) upd_same (s_none (w := w) hl) t⟩
theorem rc_listT {ds : List PyData} : RCN K (rListOf K) [.tuple ds] ds := fun w us r Q q => by
  obtain ⟨v, rfl, r1⟩ := rpA1 r
  cases r1 with
  | tup h t => exact ⟨_, _, rfl, .inr (ex_sqT w.le h), fun l hl => q l _ (w.new l (.lst _) hl) hl (grow_new hl) upd_same (s_none (w := w) hl) t⟩
/-! isinstance -/
def tyD : PyData → String
  | .none => "NoneType"
  | .bool _ => "bool"
  | .int _ => "int"
  | .str _ => "str"
  | .list _ => "list"
  | .tuple _ => "tuple"
  | .dict _ => "dict"
def noScr : PyData → Bool
  | .dict _ => false
  | _ => true
theorem tyx_of {H : Hp} {v : V} (r : Rp K H v d) (h : noScr d = true) : TyX K H v (.type (tyD d)) := by
  cases r with
  | non => exact .base .non
  | bl b => exact .base (.bl b)
  | int i => exact .base (.int i)
  | str i => exact .base (.str i)
  | lst e t => exact .base (.lst e)
  | tup e t =>
    rcases e with (e | ⟨o, e⟩) | ⟨o, its, n, e, c, _⟩
    · exact .base (.tup e)
    · exact .fTuple e
    · exact .kTuple e c
  | dct e t => cases h
  | scr e => cases h
end
end Fw


namespace Fw
open PySem PySem.Spec L2 Emb
section
variable {S : Sc} {env : Evm} {e a b c o : Expr} {es : List Expr} {d x y z : PyData} {pos p : Pos} {i j : Int} {s s' : Str} {ds zs : List PyData} {k k' : Bool}
/-! == and the like -/
theorem xe_eqI (ha : XE S a env (.int i)) (hb : XE S b env (.int j)) : XE S (.Compare a [.Eq] [b] pos) env (.bool (decide (i = j))) := xe_cmp (fun _ _ => op_eq) rv_eqI (nomark _) ha hb
theorem xe_neI (ha : XE S a env (.int i)) (hb : XE S b env (.int j)) : XE S (.Compare a [.NotEq] [b] pos) env (.bool (!decide (i = j))) := xe_cmp (fun _ _ => op_ne) rv_neI (nomark _) ha hb
theorem xe_eqS (ha : XE S a env (.str s)) (hb : XE S b env (.str s')) : XE S (.Compare a [.Eq] [b] pos) env (.bool (decide (s = s'))) := xe_cmp (fun _ _ => op_eq) rv_eqS (nomark _) ha hb
theorem xe_neS (ha : XE S a env (.str s)) (hb : XE S b env (.str s')) : XE S (.Compare a [.NotEq] [b] pos) env (.bool (!decide (s = s'))) := xe_cmp (fun _ _ => op_ne) rv_neS (nomark _) ha hb
theorem xt_eqI (ha : XE S a env (.int i)) (hb : XE S b env (.int j)) : XT S (.Compare a [.Eq] [b] pos) env (decide (i = j)) := xt_cmp (fun _ _ => op_eq) rv_eqI (nomark _) ha hb
theorem xt_neI (ha : XE S a env (.int i)) (hb : XE S b env (.int j)) : XT S (.Compare a [.NotEq] [b] pos) env (!decide (i = j)) := xt_cmp (fun _ _ => op_ne) rv_neI (nomark _) ha hb
theorem xt_eqS (ha : XE S a env (.str s)) (hb : XE S b env (.str s')) : XT S (.Compare a [.Eq] [b] pos) env (decide (s = s')) := xt_cmp (fun _ _ => op_eq) rv_eqS (nomark _) ha hb
theorem xt_neS (ha : XE S a env (.str s)) (hb : XE S b env (.str s')) : XT S (.Compare a [.NotEq] [b] pos) env (!decide (s = s')) := xt_cmp (fun _ _ => op_ne) rv_neS (nomark _) ha hb
theorem eqD_op {X : Cx} (D : Dyn S X) : OpR X (compareOp .Eq) (rEqD S.K) := by rw [← D.K]; exact op_eqD D.un
theorem neD_op {X : Cx} (D : Dyn S X) : OpR X (compareOp .NotEq) (rNeD S.K) := by rw [← D.K]; exact op_neD D.un
theorem xe_eqD (h1 : SeqAt.shaped x = true) (h2 : SeqAt.shaped y = true) (ha : XE S a env x) (hb : XE S b env y) : XE S (.Compare a [.Eq] [b] pos) env (.bool (PyData.eqv x y)) := xe_cmp (fun _ D => eqD_op D) (rv_eqD h1 h2) (nomark _) ha hb
theorem xe_neD (h1 : SeqAt.shaped x = true) (h2 : SeqAt.shaped y = true) (ha : XE S a env x) (hb : XE S b env y) : XE S (.Compare a [.NotEq] [b] pos) env (.bool (!PyData.eqv x y)) := xe_cmp (fun _ D => neD_op D) (rv_neD h1 h2) (nomark _) ha hb
theorem xt_eqD (h1 : SeqAt.shaped x = true) (h2 : SeqAt.shaped y = true) (ha : XE S a env x) (hb : XE S b env y) : XT S (.Compare a [.Eq] [b] pos) env (PyData.eqv x y) := xt_cmp (fun _ D => eqD_op D) (rv_eqD h1 h2) (nomark _) ha hb
theorem xt_neD (h1 : SeqAt.shaped x = true) (h2 : SeqAt.shaped y = true) (ha : XE S a env x) (hb : XE S b env y) : XT S (.Compare a [.NotEq] [b] pos) env (!PyData.eqv x y) := xt_cmp (fun _ D => neD_op D) (rv_neD h1 h2) (nomark _) ha hb
theorem xe_isN {k} {p' : Pos} (ha : XE S a env d) : XE S (.Compare a [.Is] [.Constant .none k p'] pos) env (.bool (isN d)) := xe_cmp (fun _ _ => op_isN) rv_isN (nomark _) ha xe_non
theorem xe_notN {k} {p' : Pos} (ha : XE S a env d) : XE S (.Compare a [.IsNot] [.Constant .none k p'] pos) env (.bool (!isN d)) := xe_cmp (fun _ _ => op_notN) rv_notN (nomark _) ha xe_non
theorem xt_isN {k} {p' : Pos} (ha : XE S a env d) : XT S (.Compare a [.Is] [.Constant .none k p'] pos) env (isN d) := xt_cmp (fun _ _ => op_isN) rv_isN (nomark _) ha xe_non
theorem xt_notN {k} {p' : Pos} (ha : XE S a env d) : XT S (.Compare a [.IsNot] [.Constant .none k p'] pos) env (!isN d) := xt_cmp (fun _ _ => op_notN) rv_notN (nomark _) ha xe_non
theorem xe_inS {n : Nat} (ha : XE S a env (.str (sg n))) (hb : XE S b env (.str s)) (hm : behindInMarks .In b = false := by rfl) : XE S (.Compare a [.In] [b] pos) env (.bool (decide (n ∈ s.cps.toList))) := xe_cmp (fun _ _ => op_in_sign) rv_inS hm ha hb
theorem xt_inS {n : Nat} (ha : XE S a env (.str (sg n))) (hb : XE S b env (.str s)) (hm : behindInMarks .In b = false := by rfl) : XT S (.Compare a [.In] [b] pos) env (decide (n ∈ s.cps.toList)) := xt_cmp (fun _ _ => op_in_sign) rv_inS hm ha hb
theorem xe_notInS {n : Nat} (ha : XE S a env (.str (sg n))) (hb : XE S b env (.str s)) (hm : behindInMarks .NotIn b = false := by rfl) : XE S (.Compare a [.NotIn] [b] pos) env (.bool (!decide (n ∈ s.cps.toList))) := xe_cmp (fun _ _ => op_notIn_sign) rv_notInS hm ha hb
theorem xt_notInS {n : Nat} (ha : XE S a env (.str (sg n))) (hb : XE S b env (.str s)) (hm : behindInMarks .NotIn b = false := by rfl) : XT S (.Compare a [.NotIn] [b] pos) env (!decide (n ∈ s.cps.toList)) := xt_cmp (fun _ _ => op_notIn_sign) rv_notInS hm ha hb
theorem xe_inD (hy : y = .list ds ∨ y = .tuple ds) (hx : flatD x = true) (hf : ds.all flatD = true) (ha : XE S a env x) (hb : XE S b env y) (hm : behindInMarks .In b = false := by rfl) : XE S (.Compare a [.In] [b] pos) env (.bool (inD x ds)) :=
  xe_cmp (fun X D => by rw [← D.K]; exact op_in_seq) (rv_inD (neg := false) hy hx hf) hm ha hb
theorem xt_inD (hy : y = .list ds ∨ y = .tuple ds) (hx : flatD x = true) (hf : ds.all flatD = true) (ha : XE S a env x) (hb : XE S b env y) (hm : behindInMarks .In b = false := by rfl) : XT S (.Compare a [.In] [b] pos) env (inD x ds) :=
  xt_cmp (fun X D => by rw [← D.K]; exact op_in_seq) (rv_inD (neg := false) hy hx hf) hm ha hb
theorem xe_notInD (hy : y = .list ds ∨ y = .tuple ds) (hx : flatD x = true) (hf : ds.all flatD = true) (ha : XE S a env x) (hb : XE S b env y) (hm : behindInMarks .NotIn b = false := by rfl) : XE S (.Compare a [.NotIn] [b] pos) env (.bool (!inD x ds)) :=
  xe_cmp (fun X D => by rw [← D.K]; exact op_notIn_seq) (rv_inD (neg := true) hy hx hf) hm ha hb
theorem xt_notInD (hy : y = .list ds ∨ y = .tuple ds) (hx : flatD x = true) (hf : ds.all flatD = true) (ha : XE S a env x) (hb : XE S b env y) (hm : behindInMarks .NotIn b = false := by rfl) : XT S (.Compare a [.NotIn] [b] pos) env (!inD x ds) :=
  xt_cmp (fun X D => by rw [← D.K]; exact op_notIn_seq) (rv_inD (neg := true) hy hx hf) hm ha hb
/-! chains -/
theorem ev_chain {K : PySem.W.Frag} {r r' : R2} {ta tb tc : TE} (ha : EvE K ta env x) (hb : EvE K tb env y) (hr : RV K r x y (.bool k)) (hc : k = true → EvE K tc env z) (hr' : k = true → RV K r' y z (.bool k')) : EvE K (tChain r r' ta tb tc) env (.bool (k && k')) := fun B w0 w σ s Q q =>
  ha B w0 w σ s _ fun v w1 g1 r1 => hb B w0 w1 σ (s.mono g1) _ fun v2 w2 g2 r2 => hr w2 _ _ (r1.mono g2.s) r2 _ fun v3 w3 g3 r3 => by
    cases r3
    refine ⟨k, rfl, ?_⟩
    have g := (g1.trans g2).trans g3
    cases k with
    | true => exact hc rfl B w0 w3 σ (s.mono g) _ fun v4 w4 g4 r4 => hr' rfl w4 _ _ (r2.mono (g3.trans g4).s) r4 _ fun v5 w5 g5 r5 => q v5 w5 ((g.trans g4).trans g5) r5
    | false => exact q _ w3 g (.bl _)
theorem xe_chain {op op' : CmpOp} {r r' : R2} (ho : ∀ X, Dyn S X → OpR X (compareOp op) r) (ho' : ∀ X, Dyn S X → OpR X (compareOp op') r') (hr : RV S.K r x y (.bool k)) (hr' : RV S.K r' y z (.bool k'))
    (ha : XE S a env x) (hb : XE S b env y) (hc : k = true → XE S c env z) (hm : lastMarks [op, op'] [b, c] = false := by with_unfolding_all rfl) : XE S (.Compare a [op, op'] [b, c] pos) env (.bool (k && k')) := by
  obtain ⟨ta, pa, ea⟩ := ha
  obtain ⟨tb, pb, eb⟩ := hb
  cases k with
  | true =>
    obtain ⟨tc, pc, ec⟩ := hc rfl
    exact ⟨_, fun X D => pe_chain (ho X D) (ho' X D) (pa X D) (pb X D) (pc X D) hm, ev_chain ea eb hr (fun _ => ec) (fun _ => hr')⟩
  | false =>
    refine ⟨_, fun X D => pe_chain (ho X D) (ho' X D) (pa X D) (pb X D) (tc := fun _ _ _ => False) ⟨fun _ _ _ _ _ _ h => h.elim⟩ hm, ?_⟩
    exact ev_chain (z := .none) ea eb hr (fun h => nomatch h) (fun h => nomatch h)
theorem xt_chain {op op' : CmpOp} {r r' : R2} (ho : ∀ X, Dyn S X → OpR X (compareOp op) r) (ho' : ∀ X, Dyn S X → OpR X (compareOp op') r') (hr : RV S.K r x y (.bool k)) (hr' : RV S.K r' y z (.bool k'))
    (ha : XE S a env x) (hb : XE S b env y) (hc : k = true → XE S c env z) (hm : lastMarks [op, op'] [b, c] = false := by with_unfolding_all rfl) : XT S (.Compare a [op, op'] [b, c] pos) env (k && k') := by
  obtain ⟨ta, pa, ea⟩ := ha
  obtain ⟨tb, pb, eb⟩ := hb
  cases k with
  | true =>
    obtain ⟨tc, pc, ec⟩ := hc rfl
    exact ⟨_, fun X D => pt_chain (ho X D) (ho' X D) (pa X D) (pb X D) (pc X D) hm, et_test (ev_chain ea eb hr (fun _ => ec) (fun _ => hr'))⟩
  | false =>
    refine ⟨_, fun X D => pt_chain (ho X D) (ho' X D) (pa X D) (pb X D) (tc := fun _ _ _ => False) ⟨fun _ _ _ _ _ _ h => h.elim⟩ hm, ?_⟩
    exact et_test (ev_chain (z := .none) ea eb hr (fun h => nomatch h) (fun h => nomatch h))
theorem xe_lele {l : Int} (ha : XE S a env (.int i)) (hb : XE S b env (.int j)) (hc : XE S c env (.int l)) (hm : lastMarks [.LtE, .LtE] [b, c] = false := by with_unfolding_all rfl) : XE S (.Compare a [.LtE, .LtE] [b, c] pos) env (.bool (decide (i ≤ j) && decide (j ≤ l))) :=
  xe_chain (fun _ _ => op_le) (fun _ _ => op_le) rv_B0 rv_B0 ha hb (fun _ => hc) hm
theorem xt_lele {l : Int} (ha : XE S a env (.int i)) (hb : XE S b env (.int j)) (hc : XE S c env (.int l)) (hm : lastMarks [.LtE, .LtE] [b, c] = false := by with_unfolding_all rfl) : XT S (.Compare a [.LtE, .LtE] [b, c] pos) env (decide (i ≤ j) && decide (j ≤ l)) :=
  xt_chain (fun _ _ => op_le) (fun _ _ => op_le) rv_B0 rv_B0 ha hb (fun _ => hc) hm
/-! tests -/
theorem xt_val (h : XE S a env (.bool k)) (he : ∀ env whole, isTrue a env whole = (do let v ← whole; standAt a.pos; holding [v] (truthy v)) := by intro _ _; rfl) : XT S a env k := by
  obtain ⟨t, p, q⟩ := h
  exact ⟨_, fun X D => pt_val (p X D) (he _), et_B q⟩
theorem XW.pt (h : XW S a env k) : XT S a env k := let ⟨t, p, q⟩ := h; ⟨t, fun X D => (p X D).pt, q⟩
theorem et_of_if {K : PySem.W.Frag} {t : TT} (h : EvT K t env k) {b : Bool} (e : k = b) : EvT K t env b := e ▸ h
theorem xw_and1 (h : XT S a env k) : XW S (.BoolOp .And [a] pos) env k := let ⟨t, p, q⟩ := h; ⟨t, fun X D => pw_and1 (p X D), q⟩
theorem xw_or1 (h : XT S a env k) : XW S (.BoolOp .Or [a] pos) env k := let ⟨t, p, q⟩ := h; ⟨t, fun X D => pw_or1 (p X D), q⟩
theorem xw_and (h : XT S a env k) (h' : k = true → XW S (.BoolOp .And (b :: es) pos) env k') : XW S (.BoolOp .And (a :: b :: es) pos) env (k && k') := by
  obtain ⟨t, p, q⟩ := h
  cases k with
  | true => obtain ⟨t', p', q'⟩ := h' rfl; exact ⟨_, fun X D => pw_and (p X D) (p' X D), et_and q fun _ => q'⟩
  | false => exact ⟨_, fun X D => pw_and (p X D) (tB' := fun _ _ _ => False) ⟨fun _ _ _ _ _ _ _ h => h.elim⟩, et_and q fun h => nomatch h⟩
theorem xw_or (h : XT S a env k) (h' : k = false → XW S (.BoolOp .Or (b :: es) pos) env k') : XW S (.BoolOp .Or (a :: b :: es) pos) env (k || k') := by
  obtain ⟨t, p, q⟩ := h
  cases k with
  | false => obtain ⟨t', p', q'⟩ := h' rfl; exact ⟨_, fun X D => pw_or (p X D) (p' X D), et_or q fun _ => q'⟩
  | true => exact ⟨_, fun X D => pw_or (p X D) (tB' := fun _ _ _ => False) ⟨fun _ _ _ _ _ _ _ h => h.elim⟩, et_or q fun h => nomatch h⟩
theorem xt_not (h : XT S a env k) : XT S (.UnaryOp .Not a pos) env (!k) := let ⟨t, p, q⟩ := h; ⟨_, fun X D => pt_not (p X D), et_not q⟩
theorem xe_one {op} (h : XE S a env d) : XE S (.BoolOp op [a] pos) env d := let ⟨t, p, q⟩ := h; ⟨t, fun X D => pe_one (p X D), q⟩
theorem xe_and (h : XE S a env (.bool k)) (h' : k = true → XE S (.BoolOp .And (b :: es) pos) env (.bool k')) : XE S (.BoolOp .And (a :: b :: es) pos) env (.bool (k && k')) := by
  obtain ⟨t, p, q⟩ := h
  cases k with
  | true => obtain ⟨t', p', q'⟩ := h' rfl; exact ⟨_, fun X D => pe_and (p X D) (p' X D), ev_andV q fun _ => q'⟩
  | false => exact ⟨_, fun X D => pe_and (p X D) (tb := fun _ _ _ => False) ⟨fun _ _ _ _ _ _ h => h.elim⟩, ev_andV q fun h => nomatch h⟩
theorem xe_or (h : XE S a env (.bool k)) (h' : k = false → XE S (.BoolOp .Or (b :: es) pos) env (.bool k')) : XE S (.BoolOp .Or (a :: b :: es) pos) env (.bool (k || k')) := by
  obtain ⟨t, p, q⟩ := h
  cases k with
  | false => obtain ⟨t', p', q'⟩ := h' rfl; exact ⟨_, fun X D => pe_or (p X D) (p' X D), ev_orV q fun _ => q'⟩
  | true => exact ⟨_, fun X D => pe_or (p X D) (tb := fun _ _ _ => False) ⟨fun _ _ _ _ _ _ h => h.elim⟩, ev_orV q fun h => nomatch h⟩
theorem xe_not (h : XE S a env (.bool k)) : XE S (.UnaryOp .Not a pos) env (.bool (!k)) := let ⟨t, p, q⟩ := h; ⟨_, fun X D => pe_not (p X D), ev_notV q⟩
/-- a if c else b -/
theorem xe_if (h : XT S c env k) (h1 : k = true → XE S a env d) (h2 : k = false → XE S b env d) : XE S (.IfExp c a b pos) env d := by
  obtain ⟨t, p, q⟩ := h
  cases k with
  | true => obtain ⟨t1, p1, q1⟩ := h1 rfl; exact ⟨_, fun X D => pe_ifExp (p X D) (p1 X D) (tb := fun _ _ _ => False) ⟨fun _ _ _ _ _ _ h => h.elim⟩, ev_if q (fun _ => q1) (fun h => nomatch h)⟩
  | false => obtain ⟨t1, p1, q1⟩ := h2 rfl; exact ⟨_, fun X D => pe_ifExp (p X D) (ta := fun _ _ _ => False) ⟨fun _ _ _ _ _ _ h => h.elim⟩ (p1 X D), ev_if q (fun h => nomatch h) (fun _ => q1)⟩
/-! truth of values -/
def truD : PyData → Option Bool
  | .none => some false
  | .bool b => some b
  | .int i => some (i != 0)
  | .str s => if s.length ≤ sizeLine then some ((s.length : Int) != 0) else none
  | .list ds => some (!ds.isEmpty)
  | .tuple ds => some (!ds.isEmpty)
  | .dict _ => none
theorem isE_of {K : PySem.W.Frag} {H : Hp} {vs : List V} {ds : List PyData} (r : RpAll K H vs ds) : vs.isEmpty = ds.isEmpty := by cases r <;> rfl
theorem xt_tru (h : XE S a env d) (ht : truD d = some k) (he : ∀ env whole, isTrue a env whole = (do let v ← whole; standAt a.pos; holding [v] (truthy v)) := by intro _ _; rfl) : XT S a env k := by
  obtain ⟨t, p, q⟩ := h
  refine ⟨fun σ H Q => t σ H fun x H' => ∃ k, TruV S.K x H' k ∧ Q k H', fun X D => by rw [← D.K]; exact pt_truth (p X D) (he _), fun B w0 w σ s Q qq => q B w0 w σ s _ fun v w1 g1 r1 => ⟨k, ?_, qq w1 g1⟩⟩
  have r1 := r1.mono w1.le
  cases r1 with
  | non => injection ht with ht; exact ht.symm
  | bl b => injection ht with ht; exact ht.symm
  | int b => injection ht with ht; exact ht.symm
  | str b =>
    have ht : (if b.length ≤ sizeLine then some ((b.length : Int) != 0) else none) = some k := ht
    by_cases c : b.length ≤ sizeLine
    · rw [if_pos c] at ht; injection ht with ht; exact ⟨c, ht.symm⟩
    · rw [if_neg c] at ht; cases ht
  | lst h t => injection ht with ht; exact .inl ⟨_, SqL.of h, by rw [isE_of t]; exact ht.symm⟩
  | tup h t => injection ht with ht; exact .inr (.inl ⟨_, h, by rw [isE_of t]; exact ht.symm⟩)
  | dct h t => cases ht
  | scr h => cases ht
/-! displays -/
theorem xa_nil : XA S [] env [] := ⟨_, fun X D => pa_nil, ea_nil⟩
theorem xa_cons (h : XE S a env d) (h' : XA S es env ds) (hs : ∀ env, starEach (a :: es) env = (false, eval a env) :: starEach es env := by intro _; rfl) : XA S (a :: es) env (d :: ds) := by
  obtain ⟨t, p, q⟩ := h
  obtain ⟨t', p', q'⟩ := h'
  exact ⟨_, fun X D => pa_cons (p X D) (p' X D) (hs _), ea_cons q q'⟩
theorem xe_tup {n} (h : XA S es env ds) (hl : ds.length ≤ sizeLine := by first | exact Nat.le_of_ble_eq_true rfl | decide) : XE S (.Tuple es n pos) env (.tuple ds) := let ⟨t, p, q⟩ := h; ⟨_, fun X D => pe_tup (p X D), ev_tup q hl⟩
theorem xn_lst (h : XA S es env ds) (hl : ds.length ≤ sizeLine := by first | exact Nat.le_of_ble_eq_true rfl | decide) : XN S (.List es pos) env ds := let ⟨t, p, q⟩ := h; ⟨_, fun X D => pe_lst (p X D), en_lst q hl⟩
/-! subscripts -/
theorem xe_ix {r : R2} (hr : ∀ X, Dyn S X → IxR X r) (hv : RV S.K r x y z) (ha : XE S a env x) (hb : XE S b env y) (hs : PlainIx b := by intro _ _; rfl) : XE S (.Subscript a b pos) env z := by
  obtain ⟨ta, pa, ea⟩ := ha
  obtain ⟨tb, pb, eb⟩ := hb
  exact ⟨tOp r ta tb, fun X D => pe_ix (hr X D) (pa X D) (pb X D) hs, ev_op ea eb hv⟩
theorem ix_listS {X : Cx} (D : Dyn S X) : IxR X (rIxL S.K) := by rw [← D.K]; exact ix_list
theorem ix_tupS {X : Cx} (D : Dyn S X) : IxR X (rIxT S.K) := by rw [← D.K]; exact ix_tup
theorem xe_ixL (h : atI ds i = some d) (ha : XE S a env (.list ds)) (hb : XE S b env (.int i)) (hs : PlainIx b := by intro _ _; rfl) : XE S (.Subscript a b pos) env d := xe_ix (fun _ D => ix_listS D) (rv_ixL h) ha hb hs
theorem xe_ixT (h : atI ds i = some d) (ha : XE S a env (.tuple ds)) (hb : XE S b env (.int i)) (hs : PlainIx b := by intro _ _; rfl) : XE S (.Subscript a b pos) env d := xe_ix (fun _ D => ix_tupS D) (rv_ixT h) ha hb hs
theorem xe_ixScr {ns : List Int} (h : atI ns i = some j) (ha : XE S a env (scrD ns)) (hb : XE S b env (.int i)) (hs : PlainIx b := by intro _ _; rfl) : XE S (.Subscript a b pos) env (.int j) := xe_ix (fun _ D => ix_listS D) (rv_ixScr h) ha hb hs
theorem xe_ixS {n : Nat} (hl : s.length ≤ sizeLine) (h : atI s.cps.toList i = some n) (ha : XE S a env (.str s)) (hb : XE S b env (.int i)) (hs : PlainIx b := by intro _ _; rfl) : XE S (.Subscript a b pos) env (.str (sg n)) := xe_ix (fun _ _ => ix_str) (rv_ixS hl h) ha hb hs
/-- slices -/
def cut {α : Type} (xs : List α) (lo hi : Option Int) : List α := (xs.drop (HT.sIx xs.length 0 lo)).take (HT.sIx xs.length xs.length hi - HT.sIx xs.length 0 lo)
theorem xo_none : XO S none env none := ⟨_, fun X D => po_none, eo_none⟩
theorem xo_some (h : XE S a env (.int i)) : XO S (some a) env (some i) := let ⟨t, p, q⟩ := h; ⟨_, fun X D => po_some (p X D), eo_some q⟩
theorem xe_slS {lo hi : Option Expr} {l h : Option Int} {p2 : Pos} (hz : s.length ≤ sizeLine) (ha : XE S a env (.str s)) (hl : XO S lo env l) (hh : XO S hi env h) : XE S (.Subscript a (.Slice lo hi none p2) pos) env (.str (cutS s l h)) := by
  obtain ⟨ta, pa, ea⟩ := ha
  obtain ⟨tl, pl, el⟩ := hl
  obtain ⟨th, ph, eh⟩ := hh
  refine ⟨tSl rSlS ta tl th, fun X D => pe_slice sl_str (pa X D) (pl X D) (ph X D), fun B w0 w σ s Q q => ea B w0 w σ s _ fun v w1 g1 r1 => el B w0 w1 σ (s.mono g1) _ fun w2 g2 => eh B w0 w2 σ (s.mono (g1.trans g2)) _ fun w3 g3 => ?_⟩
  cases r1
  exact ⟨_, rfl, hz, q _ w3 ((g1.trans g2).trans g3) (.str _)⟩
theorem rp_cut {K : PySem.W.Frag} {H : Hp} {vs : List V} {l h : Option Int} (t : RpAll K H vs ds) : RpAll K H (cutV vs l h) (cut ds l h) := by
  unfold cutV cut
  rw [t.length]
  exact (t.drop _).take _
theorem xn_slL {lo hi : Option Expr} {l h : Option Int} {p2 : Pos} (ha : XE S a env (.list ds)) (hl : XO S lo env l) (hh : XO S hi env h) : XN S (.Subscript a (.Slice lo hi none p2) pos) env (cut ds l h) := by
  obtain ⟨ta, pa, ea⟩ := ha
  obtain ⟨tl, pl, el⟩ := hl
  obtain ⟨th, ph, eh⟩ := hh
  refine ⟨tSl (rSlL S.K) ta tl th, fun X D => by rw [← D.K]; exact pe_slice sl_list (pa X D) (pl X D) (ph X D), fun B w0 w σ s Q q => ea B w0 w σ s _ fun v w1 g1 r1 => el B w0 w1 σ (s.mono g1) _ fun w2 g2 => eh B w0 w2 σ (s.mono (g1.trans g2)) _ fun w3 g3 => ?_⟩
  obtain ⟨p, vs, rfl, hp, t⟩ := rp_list (r1.mono (g2.trans g3).s)
  refine ⟨p, vs, rfl, SqL.of (w3.le _ _ hp), fun u hu => ?_⟩
  have g := (g1.trans g2).trans g3
  exact q u _ (w3.new u _ hu) (by
    cases e : w.h u with
    | none => rfl
    | some o => rw [exh g _ _ e] at hu; cases hu) (g.trans (grow_new hu)) upd_same (s_none (w := w3) hu) (rp_cut t)
/-! calls of built-ins -/
theorem xe_callB {id : String} {x : Str} {r : List V → Hp → VK → Prop} (hc : ∀ X, Dyn S X → CallR X (.builtin id) r) (hr : RC S.K r (d :: ds) z) (hm : S.mg x = none) (hv : bootBuiltins x = some (.builtin id)) (ha : XA S (a :: es) env (d :: ds))
    (hg : Glo S x := by rfl) (hn : x ≠ "__name__" := by decide) (hdb : (x == ("__debug__" : Str)) = false := by decide)
    (he : ∀ env, starEach (a :: es) env = (false, eval a env) :: starEach es env := by intro _; rfl) (hpl : ∀ env, (backTo pos (starEach es env)).any (·.1) = false := by intro _; rfl) : XE S (.Call (.Name x p) (a :: es) [] pos) env z := by
  obtain ⟨t, pt, et⟩ := ha
  exact ⟨_, fun X D => pe_callB (hc X D) (hg.gl D) (by rw [D.mg]; exact hm) hv (pt X D) hn hdb (he _) (hpl _), ev_CB et hr⟩
theorem xn_callB {id : String} {x : Str} {r : List V → Hp → VK → Prop} (hc : ∀ X, Dyn S X → CallR X (.builtin id) r) (hr : RCN S.K r (d :: ds) zs) (hm : S.mg x = none) (hv : bootBuiltins x = some (.builtin id)) (ha : XA S (a :: es) env (d :: ds))
    (hg : Glo S x := by rfl) (hn : x ≠ "__name__" := by decide) (hdb : (x == ("__debug__" : Str)) = false := by decide)
    (he : ∀ env, starEach (a :: es) env = (false, eval a env) :: starEach es env := by intro _; rfl) (hpl : ∀ env, (backTo pos (starEach es env)).any (·.1) = false := by intro _; rfl) : XN S (.Call (.Name x p) (a :: es) [] pos) env zs := by
  obtain ⟨t, pt, et⟩ := ha
  exact ⟨_, fun X D => pe_callB (hc X D) (hg.gl D) (by rw [D.mg]; exact hm) hv (pt X D) hn hdb (he _) (hpl _), ev_CBN et hr⟩
theorem xe_callTy {T : String} {x : Str} {r : List V → Hp → VK → Prop} (hc : ∀ X, Dyn S X → CallR X (.type T) r) (hr : RC S.K r (d :: ds) z) (hm : S.mg x = none) (hv : bootBuiltins x = some (.type T)) (ha : XA S (a :: es) env (d :: ds))
    (hg : Glo S x := by rfl) (hn : x ≠ "__name__" := by decide) (hdb : (x == ("__debug__" : Str)) = false := by decide)
    (he : ∀ env, starEach (a :: es) env = (false, eval a env) :: starEach es env := by intro _; rfl) (hpl : ∀ env, (backTo pos (starEach es env)).any (·.1) = false := by intro _; rfl) : XE S (.Call (.Name x p) (a :: es) [] pos) env z := by
  obtain ⟨t, pt, et⟩ := ha
  exact ⟨_, fun X D => pe_callTy (hc X D) (hg.gl D) (by rw [D.mg]; exact hm) hv (pt X D) hn hdb (he _) (hpl _), ev_CB et hr⟩
theorem xn_callTy {T : String} {x : Str} {r : List V → Hp → VK → Prop} (hc : ∀ X, Dyn S X → CallR X (.type T) r) (hr : RCN S.K r (d :: ds) zs) (hm : S.mg x = none) (hv : bootBuiltins x = some (.type T)) (ha : XA S (a :: es) env (d :: ds))
    (hg : Glo S x := by rfl) (hn : x ≠ "__name__" := by decide) (hdb : (x == ("__debug__" : Str)) = false := by decide)
    (he : ∀ env, starEach (a :: es) env = (false, eval a env) :: starEach es env := by intro _; rfl) (hpl : ∀ env, (backTo pos (starEach es env)).any (·.1) = false := by intro _; rfl) : XN S (.Call (.Name x p) (a :: es) [] pos) env zs := by
  obtain ⟨t, pt, et⟩ := ha
  exact ⟨_, fun X D => pe_callTy (hc X D) (hg.gl D) (by rw [D.mg]; exact hm) hv (pt X D) hn hdb (he _) (hpl _), ev_CBN et hr⟩
end
end Fw


namespace Fw
open PySem PySem.Spec L2 Emb
open PyProof.Rows (boot_abs boot_all boot_any boot_int boot_isinstance boot_list boot_max boot_min boot_range boot_reversed boot_sorted boot_str boot_sum boot_tuple boot_zip)
section
variable {S : Sc} {env : Evm} {e a b c o : Expr} {es : List Expr} {d x y z : PyData} {pos p : Pos} {i j : Int} {s s' : Str} {ds zs : List PyData} {k k' : Bool}
theorem rLen_ok {X : Cx} (D : Dyn S X) : CallR X (.builtin "len") (rLen S.K) := by rw [← D.K]; exact call_len
theorem stE (e : Expr) (es : List Expr) : (∀ env, starEach (e :: es) env = (false, eval e env) :: starEach es env) → True := fun _ => trivial
theorem xe_lenS (hz : s.length ≤ sizeLine) (hm : S.mg "len" = none) (ha : XE S a env (.str s)) (hg : Glo S "len" := by rfl) (he : ∀ env, starEach (a :: []) env = (false, eval a env) :: starEach [] env := by intro _; rfl) : XE S (.Call (.Name "len" p) [a] [] pos) env (.int s.length) :=
  xe_callB (fun _ D => rLen_ok D) (rc_lenS hz) hm (by decide +kernel) (xa_cons ha xa_nil he) hg (by decide) (by decide) he (by intro _; rfl)
theorem xe_lenL (hm : S.mg "len" = none) (ha : XE S a env (.list ds)) (hg : Glo S "len" := by rfl) (he : ∀ env, starEach (a :: []) env = (false, eval a env) :: starEach [] env := by intro _; rfl) : XE S (.Call (.Name "len" p) [a] [] pos) env (.int ds.length) :=
  xe_callB (fun _ D => rLen_ok D) rc_lenL hm (by decide +kernel) (xa_cons ha xa_nil he) hg (by decide) (by decide) he (by intro _; rfl)
theorem xe_lenT (hm : S.mg "len" = none) (ha : XE S a env (.tuple ds)) (hg : Glo S "len" := by rfl) (he : ∀ env, starEach (a :: []) env = (false, eval a env) :: starEach [] env := by intro _; rfl) : XE S (.Call (.Name "len" p) [a] [] pos) env (.int ds.length) :=
  xe_callB (fun _ D => rLen_ok D) rc_lenT hm (by decide +kernel) (xa_cons ha xa_nil he) hg (by decide) (by decide) he (by intro _; rfl)
theorem xe_lenScr {ns : List Int} (hm : S.mg "len" = none) (ha : XE S a env (scrD ns)) (hg : Glo S "len" := by rfl) (he : ∀ env, starEach (a :: []) env = (false, eval a env) :: starEach [] env := by intro _; rfl) : XE S (.Call (.Name "len" p) [a] [] pos) env (.int ns.length) :=
  xe_callB (fun _ D => rLen_ok D) rc_lenScr hm (by decide +kernel) (xa_cons ha xa_nil he) hg (by decide) (by decide) he (by intro _; rfl)
theorem xe_all {bs : List Bool} (hc : S.calm = true) (hm : S.mg "all" = none) (ha : XE S a env (.list (bs.map .bool))) (hg : Glo S "all" := by rfl) (he : ∀ env, starEach (a :: []) env = (false, eval a env) :: starEach [] env := by intro _; rfl) : XE S (.Call (.Name "all" p) [a] [] pos) env (.bool (bs.all id)) :=
  xe_callB (fun X D => by rw [← D.K]; exact cr_all (D.calm.trans hc)) rc_all hm (by decide +kernel) (xa_cons ha xa_nil he) hg (by decide) (by decide) he (by intro _; rfl)
theorem xe_any {bs : List Bool} (hc : S.calm = true) (hm : S.mg "any" = none) (ha : XE S a env (.list (bs.map .bool))) (hg : Glo S "any" := by rfl) (he : ∀ env, starEach (a :: []) env = (false, eval a env) :: starEach [] env := by intro _; rfl) : XE S (.Call (.Name "any" p) [a] [] pos) env (.bool (bs.any id)) :=
  xe_callB (fun X D => by rw [← D.K]; exact cr_any (D.calm.trans hc)) rc_any hm (by decide +kernel) (xa_cons ha xa_nil he) hg (by decide) (by decide) he (by intro _; rfl)
theorem xe_sum {ns : List Int} (hc : S.calm = true) (hm : S.mg "sum" = none) (ha : XE S a env (.list (ns.map .int))) (hg : Glo S "sum" := by rfl) (he : ∀ env, starEach (a :: []) env = (false, eval a env) :: starEach [] env := by intro _; rfl) : XE S (.Call (.Name "sum" p) [a] [] pos) env (.int ns.sum) :=
  xe_callB (fun X D => by rw [← D.K]; exact cr_sum (D.calm.trans hc)) rc_sum hm (by decide +kernel) (xa_cons ha xa_nil he) hg (by decide) (by decide) he (by intro _; rfl)
theorem xe_min {ns : List Int} (hn : ns ≠ []) (hc : S.calm = true) (hm : S.mg "min" = none) (ha : XE S a env (.list (ns.map .int))) (hg : Glo S "min" := by rfl) (he : ∀ env, starEach (a :: []) env = (false, eval a env) :: starEach [] env := by intro _; rfl) : XE S (.Call (.Name "min" p) [a] [] pos) env (.int (lmin ns)) :=
  xe_callB (fun X D => by rw [← D.K]; exact cr_min (D.calm.trans hc)) (rc_min hn) hm (by decide +kernel) (xa_cons ha xa_nil he) hg (by decide) (by decide) he (by intro _; rfl)
theorem xe_max {ns : List Int} (hn : ns ≠ []) (hc : S.calm = true) (hm : S.mg "max" = none) (ha : XE S a env (.list (ns.map .int))) (hg : Glo S "max" := by rfl) (he : ∀ env, starEach (a :: []) env = (false, eval a env) :: starEach [] env := by intro _; rfl) : XE S (.Call (.Name "max" p) [a] [] pos) env (.int (lmax ns)) :=
  xe_callB (fun X D => by rw [← D.K]; exact cr_max (D.calm.trans hc)) (rc_max hn) hm (by decide +kernel) (xa_cons ha xa_nil he) hg (by decide) (by decide) he (by intro _; rfl)
theorem xe_min2 (hc : S.calm = true) (hm : S.mg "min" = none) (ha : XE S a env (.int i)) (hb : XE S b env (.int j)) (hg : Glo S "min" := by rfl) (he : ∀ env, starEach (a :: [b]) env = (false, eval a env) :: starEach [b] env := by intro _; rfl) (he2 : ∀ env, starEach (b :: []) env = (false, eval b env) :: starEach [] env := by intro _; rfl)
    (hpl : ∀ env, (backTo pos (starEach [b] env)).any (·.1) = false := by intro _; rfl) : XE S (.Call (.Name "min" p) [a, b] [] pos) env (.int (min i j)) :=
  xe_callB (fun X D => call_min2 (D.calm.trans hc)) rc_min2 hm (by decide +kernel) (xa_cons ha (xa_cons hb xa_nil he2) he) hg (by decide) (by decide) he hpl
theorem xe_max2 (hc : S.calm = true) (hm : S.mg "max" = none) (ha : XE S a env (.int i)) (hb : XE S b env (.int j)) (hg : Glo S "max" := by rfl) (he : ∀ env, starEach (a :: [b]) env = (false, eval a env) :: starEach [b] env := by intro _; rfl) (he2 : ∀ env, starEach (b :: []) env = (false, eval b env) :: starEach [] env := by intro _; rfl)
    (hpl : ∀ env, (backTo pos (starEach [b] env)).any (·.1) = false := by intro _; rfl) : XE S (.Call (.Name "max" p) [a, b] [] pos) env (.int (max i j)) :=
  xe_callB (fun X D => call_max2 (D.calm.trans hc)) rc_max2 hm (by decide +kernel) (xa_cons ha (xa_cons hb xa_nil he2) he) hg (by decide) (by decide) he hpl
theorem xe_abs (hm : S.mg "abs" = none) (ha : XE S a env (.int i)) (hg : Glo S "abs" := by rfl) (he : ∀ env, starEach (a :: []) env = (false, eval a env) :: starEach [] env := by intro _; rfl) : XE S (.Call (.Name "abs" p) [a] [] pos) env (.int (if i < 0 then -i else i)) :=
  xe_callB (fun X D => call_abs) rc_abs hm (by decide +kernel) (xa_cons ha xa_nil he) hg (by decide) (by decide) he (by intro _; rfl)
theorem xe_intI (hm : S.mg "int" = none) (ha : XE S a env (.int i)) (hg : Glo S "int" := by rfl) (he : ∀ env, starEach (a :: []) env = (false, eval a env) :: starEach [] env := by intro _; rfl) : XE S (.Call (.Name "int" p) [a] [] pos) env (.int i) :=
  xe_callTy (fun X D => call_int1) rc_int1 hm (by decide +kernel) (xa_cons ha xa_nil he) hg (by decide) (by decide) he (by intro _; rfl)
theorem xe_intB (hm : S.mg "int" = none) (ha : XE S a env (.bool k)) (hg : Glo S "int" := by rfl) (he : ∀ env, starEach (a :: []) env = (false, eval a env) :: starEach [] env := by intro _; rfl) : XE S (.Call (.Name "int" p) [a] [] pos) env (.int (if k then 1 else 0)) :=
  xe_callTy (fun X D => call_int1) rc_intB hm (by decide +kernel) (xa_cons ha xa_nil he) hg (by decide) (by decide) he (by intro _; rfl)
theorem xe_intS (h : PySem.intText? s = some i) (hl : s.length ≤ 640) (hm : S.mg "int" = none) (ha : XE S a env (.str s)) (hg : Glo S "int" := by rfl) (he : ∀ env, starEach (a :: []) env = (false, eval a env) :: starEach [] env := by intro _; rfl) : XE S (.Call (.Name "int" p) [a] [] pos) env (.int i) :=
  xe_callTy (fun X D => call_int_str) (rc_intS h hl) hm (by decide +kernel) (xa_cons ha xa_nil he) hg (by decide) (by decide) he (by intro _; rfl)
theorem xe_strI (h : i.natAbs.log2 < 1920) (hm : S.mg "str" = none) (ha : XE S a env (.int i)) (hg : Glo S "str" := by rfl) (he : ∀ env, starEach (a :: []) env = (false, eval a env) :: starEach [] env := by intro _; rfl) : XE S (.Call (.Name "str" p) [a] [] pos) env (.str (strI i)) :=
  xe_callTy (fun X D => call_str_int) (rc_strI h) hm (by decide +kernel) (xa_cons ha xa_nil he) hg (by decide) (by decide) he (by intro _; rfl)
theorem listOf_ok {X : Cx} (D : Dyn S X) : CallR X (.type "list") (rListOf S.K) := by rw [← D.K]; exact call_list_of
theorem xn_list (hm : S.mg "list" = none) (ha : XE S a env (.list ds)) (hg : Glo S "list" := by rfl) (he : ∀ env, starEach (a :: []) env = (false, eval a env) :: starEach [] env := by intro _; rfl) : XN S (.Call (.Name "list" p) [a] [] pos) env ds :=
  xn_callTy (fun X D => listOf_ok D) rc_list hm (by decide +kernel) (xa_cons ha xa_nil he) hg (by decide) (by decide) he (by intro _; rfl)
theorem xn_listT (hm : S.mg "list" = none) (ha : XE S a env (.tuple ds)) (hg : Glo S "list" := by rfl) (he : ∀ env, starEach (a :: []) env = (false, eval a env) :: starEach [] env := by intro _; rfl) : XN S (.Call (.Name "list" p) [a] [] pos) env ds :=
  xn_callTy (fun X D => listOf_ok D) rc_listT hm (by decide +kernel) (xa_cons ha xa_nil he) hg (by decide) (by decide) he (by intro _; rfl)
/-- isinstance(a, T) -/
theorem xe_isi {T : Str} {n : String} {p1 : Pos} (hd : noScr d = true) (hk : kitB (tyD d) n = some k) (hm : S.mg "isinstance" = none) (hmT : S.mg T = none) (hv : bootBuiltins T = some (.type n)) (ha : XE S a env d)
    (hg : Glo S "isinstance" := by rfl) (hgT : Glo S T := by rfl) (hn : T ≠ "__name__" := by decide) (hdb : (T == ("__debug__" : Str)) = false := by decide)
    (he : ∀ env, starEach (a :: [.Name T p1]) env = (false, eval a env) :: starEach [.Name T p1] env := by intro _; rfl) : XE S (.Call (.Name "isinstance" p) [a, .Name T p1] [] pos) env (.bool k) := by
  obtain ⟨t, pt, et⟩ := ha
  refine ⟨tCB (rIsi S.K) (tCons t (tCons (tC (.ty n)) tNil)), fun X D => pe_callB (id := "isinstance") (by rw [← D.K]; exact call_isi) (hg.gl D) (by rw [D.mg]; exact hm) (by decide +kernel) (pa_cons (pt X D) (pa_cons (pe_bltn (hgT.gl D) (by rw [D.mg]; exact hmT) hv (show RelV (.ty n) (.type n) from rfl) hn hdb) pa_nil) (he _)) (by decide) (by decide) (he _) rfl, ?_⟩
  intro B w0 w σ s Q q
  refine et B w0 w σ s _ fun v w1 g1 r1 => ?_
  exact ⟨v, .ty n, _, _, k, rfl, .ty n, tyx_of (r1.mono w1.le) hd, kit_ty hk, q _ w1 g1 (.bl _)⟩
/-! methods of texts and lists -/
def RM (K : PySem.W.Frag) (r : V → List V → Hp → VK → Prop) (x : PyData) (ds : List PyData) (z : PyData) : Prop := ∀ w u us, Rp K w.s u x → RpAll K w.s us ds → ∀ Q : VK, (∀ v' w', Grow [] w w' → Rp K w'.s v' z → Q v' w'.h) → r u us w.h Q
def RMN (K : PySem.W.Frag) (r : V → List V → Hp → VK → Prop) (x : PyData) (ds : List PyData) (zs : List PyData) : Prop := ∀ w u us, Rp K w.s u x → RpAll K w.s us ds → ∀ Q : VK,
  (∀ p vs w', w.h p = none → Grow [] w w' → w'.h p = some (.lst vs) → w'.s p = none → RpAll K w'.s vs zs → Q (.ref p) w'.h) → r u us w.h Q
theorem ty_of {K : PySem.W.Frag} {H : Hp} {v : V} {T : String} (hT : T = tyD d) (h : match d with | .str _ => True | .list _ => True | _ => False) (r : Rp K H v d) : tyV K T v H := by
  subst hT
  cases r with
  | str s => rfl
  | lst e t => exact .inl ⟨rfl, _, SqL.of e⟩
  | _ => exact h.elim
theorem bk_none {w w1 : Wl} {p : Addr} (g : Grow [] w w1) (hp : w1.h p = none) : w.h p = none := by
  cases e : w.h p with
  | none => rfl
  | some o => rw [exh g _ _ e] at hp; cases hp
theorem xe_bm {T id : String} {name : Str} {apos : Pos} {r : V → List V → Hp → VK → Prop} (pa : PlainAttrs T) (slot : Slot T name id) (hty : typeOf (.builtin id) = pure (.type "method_descriptor")) (hm : ∀ X, Dyn S X → MtR X id r)
    (hT : T = tyD x) (hx : match x with | .str _ => True | .list _ => True | _ => False) (hr : RM S.K r x (d :: ds) z) (ho : XE S o env x) (ha : XA S (e :: es) env (d :: ds))
    (hbase : ∀ env, attributeBase o name env (eval o env) = eval o env := by intro _; rfl)
    (hfew : ∀ env, ((backTo pos (starEach (e :: es) env)).all (fun x => !x.1) && (backToKw pos (keywordEach [] env)).all (fun x => x.1.isSome)
      && decide ((e :: es).length + ([] : List Keyword).length + (if ([] : List Keyword).isEmpty then 0 else 1) < 30)) = true := by intro _; rfl)
    (hline : (apos.endLine == pos.line) = true := by rfl) (hs : ∀ env, starEach (e :: es) env = (false, eval e env) :: starEach es env := by intro _; rfl) (hplain : ∀ env, (backTo pos (starEach es env)).any (·.1) = false := by intro _; rfl) :
    XE S (.Call (.Attribute o name apos) (e :: es) [] pos) env z := by
  obtain ⟨to, po, eo⟩ := ho
  obtain ⟨ta, pa', ea⟩ := ha
  refine ⟨tBM S.K T r to ta, fun X D => by rw [← D.K]; exact pe_bm pa slot hty (hm X D) (po X D) (pa' X D) (hbase _) (hfew _) hline (hs _) (hplain _), fun B w0 w σ s Q q => eo B w0 w σ s _ fun v w1 g1 r1 => ⟨ty_of hT hx (r1.mono w1.le), ea B w0 w1 σ (s.mono g1) _ fun us w2 g2 r2 => hr w2 v us (r1.mono g2.s) r2 _ fun v3 w3 g3 r3 => q v3 w3 ((g1.trans g2).trans g3) r3⟩⟩
theorem xn_bm {T id : String} {name : Str} {apos : Pos} {r : V → List V → Hp → VK → Prop} (pa : PlainAttrs T) (slot : Slot T name id) (hty : typeOf (.builtin id) = pure (.type "method_descriptor")) (hm : ∀ X, Dyn S X → MtR X id r)
    (hT : T = tyD x) (hx : match x with | .str _ => True | .list _ => True | _ => False) (hr : RMN S.K r x (d :: ds) zs) (ho : XE S o env x) (ha : XA S (e :: es) env (d :: ds))
    (hbase : ∀ env, attributeBase o name env (eval o env) = eval o env := by intro _; rfl)
    (hfew : ∀ env, ((backTo pos (starEach (e :: es) env)).all (fun x => !x.1) && (backToKw pos (keywordEach [] env)).all (fun x => x.1.isSome)
      && decide ((e :: es).length + ([] : List Keyword).length + (if ([] : List Keyword).isEmpty then 0 else 1) < 30)) = true := by intro _; rfl)
    (hline : (apos.endLine == pos.line) = true := by rfl) (hs : ∀ env, starEach (e :: es) env = (false, eval e env) :: starEach es env := by intro _; rfl) (hplain : ∀ env, (backTo pos (starEach es env)).any (·.1) = false := by intro _; rfl) :
    XN S (.Call (.Attribute o name apos) (e :: es) [] pos) env zs := by
  obtain ⟨to, po, eo⟩ := ho
  obtain ⟨ta, pa', ea⟩ := ha
  refine ⟨tBM S.K T r to ta, fun X D => by rw [← D.K]; exact pe_bm pa slot hty (hm X D) (po X D) (pa' X D) (hbase _) (hfew _) hline (hs _) (hplain _), fun B w0 w σ s Q q => eo B w0 w σ s _ fun v w1 g1 r1 => ⟨ty_of hT hx (r1.mono w1.le), ea B w0 w1 σ (s.mono g1) _ fun us w2 g2 r2 => hr w2 v us (r1.mono g2.s) r2 _ fun p vs w3 hp g3 e1 e2 r3 => q p vs w3 (bk_none (g1.trans g2) hp) ((g1.trans g2).trans g3) e1 e2 r3⟩⟩
theorem rm_starts {K : PySem.W.Frag} : RM K (fun x xs H Q => ∃ a b, x = .str a ∧ xs = [.str b] ∧ Q (.bl (Txt.startswith a b)) H) (.str s) [.str s'] (.bool (Txt.startswith s s')) := fun w u us r1 r2 Q q => by
  obtain ⟨v, rfl, r3⟩ := rpA1 r2
  cases r1; cases r3
  exact ⟨_, _, rfl, rfl, q _ w (Grow.refl _ _) (.bl _)⟩
theorem xe_starts {apos : Pos} (ho : XE S o env (.str s)) (ha : XE S a env (.str s')) (hbase : ∀ env, attributeBase o "startswith" env (eval o env) = eval o env := by intro _; rfl) (hline : (apos.endLine == pos.line) = true := by rfl)
    (hs : ∀ env, starEach (a :: []) env = (false, eval a env) :: starEach [] env := by intro _; rfl)
    (hfew : ∀ env, ((backTo pos (starEach (a :: []) env)).all (fun x => !x.1) && (backToKw pos (keywordEach [] env)).all (fun x => x.1.isSome)
      && decide ((a :: []).length + ([] : List Keyword).length + (if ([] : List Keyword).isEmpty then 0 else 1) < 30)) = true := by intro _; rfl) :
    XE S (.Call (.Attribute o "startswith" apos) [a] [] pos) env (.bool (Txt.startswith s s')) :=
  xe_bm PySem.F.plainAttrs_str PySem.F.slot_str_startswith PySem.F.type_str_startswith (fun _ _ => mt_startswith) rfl trivial rm_starts ho (xa_cons ha xa_nil hs) hbase hfew hline hs (by intro _; rfl)
theorem strs_len {α : Type} (f : α → PyData) (l : List α) : (l.map f).length = l.length := List.length_map ..
theorem rm_split {K : PySem.W.Frag} (h1 : (s'.length == 0) = false) (h2 : s.length + 2 ≤ sizeLine) : RMN K (fun x xs H Q => ∃ a b, x = .str a ∧ xs = [.str b] ∧ (b.length == 0) = false ∧ a.length + 2 ≤ sizeLine ∧ rNewStrs (Txt.split a b) H Q) (.str s) [.str s'] ((Txt.split s s').map .str) := fun w u us r1 r2 Q q => by
  obtain ⟨v, rfl, r3⟩ := rpA1 r2
  cases r1; cases r3
  exact ⟨_, _, rfl, rfl, h1, h2, fun p hp => q p _ (w.new p _ hp) hp (grow_new hp) upd_same (s_none (w := w) hp) (RpAll.strs _)⟩
theorem xn_split {apos : Pos} (h1 : (s'.length == 0) = false) (h2 : s.length + 2 ≤ sizeLine) (ho : XE S o env (.str s)) (ha : XE S a env (.str s')) (hbase : ∀ env, attributeBase o "split" env (eval o env) = eval o env := by intro _; rfl) (hline : (apos.endLine == pos.line) = true := by rfl)
    (hs : ∀ env, starEach (a :: []) env = (false, eval a env) :: starEach [] env := by intro _; rfl)
    (hfew : ∀ env, ((backTo pos (starEach (a :: []) env)).all (fun x => !x.1) && (backToKw pos (keywordEach [] env)).all (fun x => x.1.isSome)
      && decide ((a :: []).length + ([] : List Keyword).length + (if ([] : List Keyword).isEmpty then 0 else 1) < 30)) = true := by intro _; rfl) :
    XN S (.Call (.Attribute o "split" apos) [a] [] pos) env ((Txt.split s s').map .str) :=
  xn_bm PySem.F.plainAttrs_str PySem.F.slot_str_split PySem.F.type_str_split (fun _ _ => mt_split) rfl trivial (rm_split h1 h2) ho (xa_cons ha xa_nil hs) hbase hfew hline hs (by intro _; rfl)
theorem rm_join {K : PySem.W.Frag} {ts : List Str} (h : (ts.map (·.length)).sum + ts.length * s.length ≤ 16777216) : RM K (fun x xs H Q => ∃ a p, ∃ ys : List Str, x = .str a ∧ xs = [.ref p] ∧ (SqL K H p (ys.map V.str) ∨ SqT K H p (ys.map V.str)) ∧
    (ys.map (·.length)).sum + ys.length * a.length ≤ 16777216 ∧ Q (.str (Txt.join a ys)) H) (.str s) [.list (ts.map .str)] (.str (Txt.join s ts)) := fun w u us r1 r2 Q q => by
  obtain ⟨v, rfl, r3⟩ := rpA1 r2
  cases r1
  obtain ⟨p, vs, rfl, hp, t⟩ := rp_list r3
  rw [t.of_strs] at hp
  exact ⟨_, p, ts, rfl, rfl, .inl (SqL.of (w.le _ _ hp)), h, q _ w (Grow.refl _ _) (.str _)⟩
theorem xe_join {apos : Pos} {ts : List Str} (h : (ts.map (·.length)).sum + ts.length * s.length ≤ 16777216) (ho : XE S o env (.str s)) (ha : XE S a env (.list (ts.map .str))) (hbase : ∀ env, attributeBase o "join" env (eval o env) = eval o env := by intro _; rfl) (hline : (apos.endLine == pos.line) = true := by rfl)
    (hs : ∀ env, starEach (a :: []) env = (false, eval a env) :: starEach [] env := by intro _; rfl)
    (hfew : ∀ env, ((backTo pos (starEach (a :: []) env)).all (fun x => !x.1) && (backToKw pos (keywordEach [] env)).all (fun x => x.1.isSome)
      && decide ((a :: []).length + ([] : List Keyword).length + (if ([] : List Keyword).isEmpty then 0 else 1) < 30)) = true := by intro _; rfl) :
    XE S (.Call (.Attribute o "join" apos) [a] [] pos) env (.str (Txt.join s ts)) :=
  xe_bm PySem.F.plainAttrs_str PySem.F.slot_str_join PySem.F.type_str_join (fun X D => by rw [← D.K]; exact mt_join) rfl trivial (rm_join h) ho (xa_cons ha xa_nil hs) hbase hfew hline hs (by intro _; rfl)
/-- text * int -/
def repS (s : Str) (n : Int) : Str := ⟨(List.replicate n.toNat s.cps.toList).flatten.toArray⟩
def rRepS : R2 := fun x y H Q => ∃ s n, x = .str s ∧ y = .int n ∧ (0 ≤ n ∧ n < 2 ^ 62 ∧ s.length * n.toNat ≤ sizeLine) ∧ Q (.str (repS s n)) H
theorem foldl_app (a : Array Nat) : ∀ (k : Nat) (acc : Array Nat), ((List.replicate k a).foldl (· ++ ·) acc).toList = acc.toList ++ (List.replicate k a.toList).flatten
  | 0, acc => by simp
  | k + 1, acc => by
    rw [List.replicate_succ, List.foldl_cons, foldl_app a k, List.replicate_succ, List.flatten_cons]
    simp
theorem repS_eq (s : Str) (n : Int) : (⟨(List.replicate n.toNat s.cps).foldl (· ++ ·) #[]⟩ : Str) = repS s n := by
  apply TL.ext_tl
  show ((List.replicate n.toNat s.cps).foldl (· ++ ·) #[]).toList = (repS s n).cps.toList
  rw [foldl_app]
  simp [repS]
theorem repS_len (s : Str) (n : Int) : (repS s n).length = s.length * n.toNat := by
  have e : (repS s n).length = (List.replicate n.toNat s.cps.toList).flatten.length := by
    show (List.toArray _).size = _
    simp [repS]
  rw [e, PyProof.Rows.lm_len_rep_flat, Nat.mul_comm]
  rfl
theorem op_repS {X : Cx} : OpR X (binaryOp .Mult) rRepS := by
  intro pins s σ H x y v u Q I rx ry h
  obtain ⟨z, n, rfl, rfl, ⟨h0, h1, h2⟩, q⟩ := h
  obtain ⟨t, rfl⟩ := rx
  obtain ⟨t', rfl⟩ := ry
  have hz : n.toNat = n := Int.toNat_of_nonneg h0
  have hb : z.length * n.toNat ≤ 16777216 := by have e := sizeLine_eq; omega
  refine PySem.P.mul_str ?_ (fun c1 c2 => ?_) (fun c1 c2 => ?_) ?_
  · rw [decide_eq_false (show ¬ n < -(2 ^ 63 : Int) by omega), decide_eq_false (show ¬ n ≥ 2 ^ 63 by omega)]; rfl
  · intro c
    have hn : 0 < n := by omega
    have h3 : (z.length : Int) * n ≤ 16777216 := by
      have h3 := Int.ofNat_le.mpr hb
      rw [Int.natCast_mul, hz] at h3
      exact h3
    have h4 : (2 ^ 63 - 1) / n < (z.length : Int) := c
    have h5 : (2 ^ 63 - 1 : Int) < z.length * n := (Int.ediv_lt_iff_lt_mul hn).mp h4
    omega
  · show decide (z.length * n.toNat > sizeLine) = false
    exact decide_eq_false (by omega)
  · by_cases c : n < 1
    · rw [if_pos c]
      have e : n.toNat = 0 := by omega
      have e2 : repS z n = Str.empty := by unfold repS; rw [e]; rfl
      exact ⟨by decide, .str (repS z n), H, I.tok _, ⟨_, by rw [e2]⟩, q⟩
    · rw [if_neg c]
      by_cases c2 : (n == 1 || z.length == 0) = true
      · rw [if_pos c2]
        refine ⟨.str (repS z n), H, I, ⟨t, ?_⟩, q⟩
        have : repS z n = z := by
          rcases Bool.or_eq_true_iff.mp c2 with c3 | c3
          · have e : n = 1 := by simpa using c3
            subst e
            apply TL.ext_tl
            show (repS z 1).cps.toList = z.cps.toList
            simp [repS]
          · have e : z.length = 0 := by simpa using c3
            have e2 : z.cps.toList = [] := by
              apply List.eq_nil_of_length_eq_zero
              have : z.cps.size = 0 := e
              simpa using this
            apply TL.ext_tl
            show (repS z n).cps.toList = z.cps.toList
            simp [repS, e2]
        rw [this]
      · rw [if_neg c2, repS_eq]
        exact ⟨by rw [repS_len]; exact h2, .str (repS z n), H, I.tok _, ⟨_, rfl⟩, q⟩
theorem xe_repS (h : 0 ≤ i ∧ i < 2 ^ 62 ∧ s.length * i.toNat ≤ sizeLine) (ha : XE S a env (.str s)) (hb : XE S b env (.int i)) : XE S (.BinOp a .Mult b pos) env (.str (repS s i)) :=
  xe_op (fun _ _ => op_repS) (fun w u v r1 r2 Q q => by cases r1; cases r2; exact ⟨_, _, rfl, rfl, h, q _ w (Grow.refl _ _) (.str _)⟩) ha hb
end
end Fw


namespace Fw
open PySem PySem.Spec L2 Emb
/-! ## what is walked -/
def Src (K : PySem.W.Frag) (J : It) (s1 : Hp) (xs : List PyData) : Prop := ∀ (i : Nat) (w' : Wl), Ex s1 w'.s →
  (i < xs.length → J.go i w'.h ∧ ∀ x H', J.yld i w'.h x H' → ∃ w'' d, w''.h = H' ∧ Grow [] w' w'' ∧ xs[i]? = some d ∧ Rp K w''.s x d) ∧ (xs.length ≤ i → J.stop i w'.h)
def EvI (K : PySem.W.Frag) (wi : TI) (env : Evm) (xs : List PyData) : Prop := ∀ B w0 w σ, Sat K B w0 w σ env → ∀ R : It → Hp → Prop, (∀ J w1, Grow [] w w1 → Src K J w1.s xs → R J w1.h) → wi σ w.h R
def XI (S : Sc) (tg iter : Expr) (env : Evm) (xs : List PyData) : Prop := ∃ wi, (∀ X, Dyn S X → PI X tg iter wi) ∧ EvI S.K wi env xs
section
variable {S : Sc} {env : Evm} {tg e a b c o : Expr} {es : List Expr} {d x y z : PyData} {pos p : Pos} {i j : Int} {s s' : Str} {ds zs : List PyData}
theorem src_list {K : PySem.W.Frag} {a : Addr} {s1 : Hp} {vs : List V} (h : s1 a = some (.lst vs)) (r : RpAll K s1 vs ds) : Src K (Itl K a) s1 ds := fun i w' e => by
  have h' : SqL K w'.h a vs := SqL.of (w'.le _ _ (e _ _ h))
  have r' := r.mono e
  refine ⟨fun hi => ⟨?_, ?_⟩, fun hi => ⟨vs, h', by rw [r.length]; exact hi⟩⟩
  · obtain ⟨v, hv, _⟩ := r.get (List.getElem?_eq_getElem hi)
    exact ⟨vs, v, h', hv⟩
  · rintro x H' ⟨rfl, q⟩
    obtain ⟨d, hd, rd⟩ := r'.getV (q vs h')
    exact ⟨w', d, rfl, Grow.refl _ _, hd, rd⟩
theorem xi_list (h : XE S a env (.list ds)) : XI S tg a env ds := by
  obtain ⟨t, p, q⟩ := h
  refine ⟨iList S.K t, fun X D => by rw [← D.K]; exact pi_list (p X D), fun B w0 w σ s R k => q B w0 w σ s _ fun v w1 g1 r1 => ?_⟩
  obtain ⟨u, vs, rfl, hp, t⟩ := rp_list r1
  exact ⟨u, rfl, ⟨vs, SqL.of (w1.le _ _ hp)⟩, k _ w1 g1 (src_list hp t)⟩
theorem xi_tup (h : XE S a env (.tuple ds)) : XI S tg a env ds := by
  obtain ⟨t, p, q⟩ := h
  refine ⟨iTup S.K t, fun X D => by rw [← D.K]; exact pi_tup (p X D), fun B w0 w σ s R k => q B w0 w σ s _ fun v w1 g1 r1 => ?_⟩
  cases r1 with
  | @tup u vs _ hp t =>
    refine ⟨u, rfl, ⟨vs, ex_sqT w1.le hp⟩, k _ w1 g1 fun i w' e => ?_⟩
    have h' : SqT S.K w'.h u vs := ex_sqT w'.le (ex_sqT e hp)
    have r' := t.mono e
    refine ⟨fun hi => ⟨?_, ?_⟩, fun hi => ⟨vs, h', by rw [t.length]; exact hi⟩⟩
    · obtain ⟨v, hv, _⟩ := t.get (List.getElem?_eq_getElem hi)
      exact ⟨vs, v, h', hv⟩
    · rintro x H' ⟨rfl, q⟩
      obtain ⟨d, hd, rd⟩ := r'.getV (q vs h')
      exact ⟨w', d, rfl, Grow.refl _ _, hd, rd⟩
theorem xi_str (h : XE S a env (.str s)) : XI S tg a env (s.cps.toList.map fun c => .str (sg c)) := by
  obtain ⟨t, p, q⟩ := h
  refine ⟨iStr t, fun X D => pi_str (p X D), fun B w0 w σ s' R k => q B w0 w σ s' _ fun v w1 g1 r1 => ?_⟩
  cases r1
  refine ⟨_, rfl, k _ w1 g1 fun i w' e => ⟨fun hi => ⟨?_, ?_⟩, fun hi => ?_⟩⟩
  · show i < s.cps.size
    rw [List.length_map] at hi; exact hi
  · rintro x H' ⟨rfl, c, hc, rfl⟩
    refine ⟨w', .str (sg c), rfl, Grow.refl _ _, ?_, .str _⟩
    rw [List.getElem?_map]
    have : s.cps.toList[i]? = some c := by simpa using hc
    rw [this]; rfl
  · show s.cps.size ≤ i
    rw [List.length_map] at hi; exact hi
/-- lo, lo + 1, .. (n of them); lo, lo + c, .. -/
def rng (lo : Int) (n : Nat) : List Int := (List.range n).map fun (i : Nat) => lo + (i : Int)
def rngC (lo c : Int) (n : Nat) : List Int := (List.range n).map fun (i : Nat) => lo + (i : Int) * c
theorem rng_len (lo : Int) (n : Nat) : (rng lo n).length = n := by unfold rng; rw [List.length_map, List.length_range]
theorem rngC_len (lo c : Int) (n : Nat) : (rngC lo c n).length = n := by unfold rngC; rw [List.length_map, List.length_range]
theorem rng_get {lo : Int} {n i : Nat} (h : i < n) : (rng lo n)[i]? = some (lo + i) := by unfold rng; rw [List.getElem?_map, List.getElem?_range h]; rfl
theorem rngC_get {lo c : Int} {n i : Nat} (h : i < n) : (rngC lo c n)[i]? = some (lo + i * c) := by unfold rngC; rw [List.getElem?_map, List.getElem?_range h]; rfl
theorem mem_rng {lo : Int} {n : Nat} {x : Int} (h : x ∈ rng lo n) : lo ≤ x ∧ x < lo + n := by
  unfold rng at h
  obtain ⟨k, hk, rfl⟩ := List.mem_map.mp h
  have := List.mem_range.mp hk
  omega
theorem mem_rngC {lo c : Int} {n : Nat} {x : Int} (h : x ∈ rngC lo c n) : ∃ k : Nat, k < n ∧ x = lo + k * c := by
  unfold rngC at h
  obtain ⟨k, hk, rfl⟩ := List.mem_map.mp h
  exact ⟨k, List.mem_range.mp hk, rfl⟩
theorem src_rng {K : PySem.W.Frag} {lo : Int} {n : Nat} {s1 : Hp} : Src K (Itr lo n) s1 ((rng lo n).map .int) := fun i w' e => by
  rw [List.length_map, rng_len]
  refine ⟨fun hi => ⟨hi, ?_⟩, fun hi => hi⟩
  rintro x H' ⟨rfl, rfl⟩
  exact ⟨w', _, rfl, Grow.refl _ _, by rw [List.getElem?_map, rng_get hi]; rfl, .int _⟩
theorem src_rngC {K : PySem.W.Frag} {lo c : Int} {n : Nat} {s1 : Hp} : Src K (Itc lo c n) s1 ((rngC lo c n).map .int) := fun i w' e => by
  rw [List.length_map, rngC_len]
  refine ⟨fun hi => ⟨hi, ?_⟩, fun hi => hi⟩
  rintro x H' ⟨rfl, rfl⟩
  exact ⟨w', _, rfl, Grow.refl _ _, by rw [List.getElem?_map, rngC_get hi]; rfl, .int _⟩
theorem xi_range1 (h : -(2 ^ 62) ≤ i ∧ i < 2 ^ 62) (hm : S.mg "range" = none) (ha : XE S a env (.int i)) (hg : Glo S "range" := by rfl) (hs : ∀ env, starEach [a] env = (false, eval a env) :: starEach [] env := by intro _; rfl) :
    XI S tg (.Call (.Name "range" p) [a] [] pos) env ((rng 0 i.toNat).map .int) := by
  obtain ⟨t, pt, q⟩ := ha
  refine ⟨iRng1 (tCons t tNil), fun X D => pi_range1 (hg.gl D) (by rw [D.mg]; exact hm) (pa_cons (pt X D) pa_nil (hs _)) (hs _), fun B w0 w σ s R k => q B w0 w σ s _ fun v w1 g1 r1 => ?_⟩
  cases r1
  exact ⟨i, rfl, h.1, h.2, k _ w1 g1 src_rng⟩
theorem xi_range2 (h : -(2 ^ 62) ≤ i ∧ i < 2 ^ 62 ∧ -(2 ^ 62) ≤ j ∧ j < 2 ^ 62) (hm : S.mg "range" = none) (ha : XE S a env (.int i)) (hb : XE S b env (.int j)) (hg : Glo S "range" := by rfl)
    (hs : ∀ env, starEach [a, b] env = (false, eval a env) :: starEach [b] env := by intro _; rfl) (hs2 : ∀ env, starEach [b] env = (false, eval b env) :: starEach [] env := by intro _; rfl) :
    XI S tg (.Call (.Name "range" p) [a, b] [] pos) env ((rng i (j - i).toNat).map .int) := by
  obtain ⟨t, pt, q⟩ := ha
  obtain ⟨t2, pt2, q2⟩ := hb
  refine ⟨iRng2 (tCons t (tCons t2 tNil)), fun X D => pi_range2 (hg.gl D) (by rw [D.mg]; exact hm) (pa_cons (pt X D) (pa_cons (pt2 X D) pa_nil (hs2 _)) (hs _)) (by rw [hs, hs2]; rfl) (hs2 _), fun B w0 w σ s R k => q B w0 w σ s _ fun v w1 g1 r1 => q2 B w0 w1 σ (s.mono g1) _ fun v2 w2 g2 r2 => ?_⟩
  cases r1
  cases r2
  exact ⟨i, j, rfl, h, k _ w2 (g1.trans g2) src_rng⟩
theorem xi_range3 {c' : Int} {n : Nat} (h : RgC i j c' n) (hm : S.mg "range" = none) (ha : XE S a env (.int i)) (hb : XE S b env (.int j)) (hc : XE S c env (.int c')) (hg : Glo S "range" := by rfl)
    (hs : ∀ env, starEach [a, b, c] env = (false, eval a env) :: starEach [b, c] env := by intro _; rfl) (hs2 : ∀ env, starEach [b, c] env = (false, eval b env) :: starEach [c] env := by intro _; rfl) (hs3 : ∀ env, starEach [c] env = (false, eval c env) :: starEach [] env := by intro _; rfl)
    (hpl : ∀ env, (backTo pos (starEach [b, c] env)).any (·.1) = false := by intro _; rfl) :
    XI S tg (.Call (.Name "range" p) [a, b, c] [] pos) env ((rngC i c' n).map .int) := by
  obtain ⟨t, pt, q⟩ := ha
  obtain ⟨t2, pt2, q2⟩ := hb
  obtain ⟨t3, pt3, q3⟩ := hc
  refine ⟨iRng3 (tCons t (tCons t2 (tCons t3 tNil))), fun X D => pi_range3 (hg.gl D) (by rw [D.mg]; exact hm) (pa_cons (pt X D) (pa_cons (pt2 X D) (pa_cons (pt3 X D) pa_nil (hs3 _)) (hs2 _)) (hs _)) (hs _) (hpl _),
    fun B w0 w σ s R k => q B w0 w σ s _ fun v w1 g1 r1 => q2 B w0 w1 σ (s.mono g1) _ fun v2 w2 g2 r2 => q3 B w0 w2 σ (s.mono (g1.trans g2)) _ fun v3 w3 g3 r3 => ?_⟩
  cases r1
  cases r2
  cases r3
  exact ⟨i, j, c', n, rfl, h, k _ w3 ((g1.trans g2).trans g3) src_rngC⟩
/-- pairs -/
def pairD (a b : PyData) : PyData := .tuple [a, b]
def enumD (ds : List PyData) : List PyData := (List.range ds.length).zipWith (fun (k : Nat) d => .tuple [.int (k : Int), d]) ds
theorem src_enum {K : PySem.W.Frag} {a : Addr} {s1 : Hp} {vs : List V} (h : s1 a = some (.lst vs)) (r : RpAll K s1 vs ds) : Src K (Ite K a) s1 (enumD ds) := fun i w' e => by
  have h' : SqL K w'.h a vs := SqL.of (w'.le _ _ (e _ _ h))
  have r' := r.mono e
  rw [show (enumD ds).length = ds.length by unfold enumD; rw [List.length_zipWith, List.length_range, Nat.min_self]]
  refine ⟨fun hi => ⟨?_, ?_⟩, fun hi => ⟨vs, h', by rw [r.length]; exact hi⟩⟩
  · obtain ⟨v, hv, _⟩ := r.get (List.getElem?_eq_getElem hi)
    exact ⟨vs, v, h', hv⟩
  · rintro x H' ⟨T, y, rfl, hT, rfl, q⟩
    obtain ⟨d, hd, rd⟩ := r'.getV (q vs h')
    obtain ⟨w2, e2, g2, r2⟩ := rp_newT (K := K) (vs := [.int (i : Int), y]) (ds := [.int (i : Int), d]) hT (.cons (.int _) (.cons rd .nil))
    refine ⟨w2, _, e2, g2, ?_, r2⟩
    unfold enumD
    rw [List.getElem?_zipWith, List.getElem?_range hi, hd]
theorem xi_enum {elts : List Expr} {kk : Nat} {tpos : Pos} (hm : S.mg "enumerate" = none) (ha : XE S a env (.list ds)) (hg : Glo S "enumerate" := by rfl) (hs : ∀ env, starEach [a] env = (false, eval a env) :: starEach [] env := by intro _; rfl) :
    XI S (.Tuple elts kk tpos) (.Call (.Name "enumerate" p) [a] [] pos) env (enumD ds) := by
  obtain ⟨t, pt, q⟩ := ha
  refine ⟨iEnum S.K (tCons t tNil), fun X D => by rw [← D.K]; exact pi_enum (hg.gl D) (by rw [D.mg]; exact hm) (pa_cons (pt X D) pa_nil (hs _)) (hs _), fun B w0 w σ s R k => q B w0 w σ s _ fun v w1 g1 r1 => ?_⟩
  obtain ⟨u, vs, rfl, hp, t⟩ := rp_list r1
  exact ⟨u, vs, rfl, SqL.of (w1.le _ _ hp), k _ w1 g1 (src_enum hp t)⟩
theorem src_zip {K : PySem.W.Frag} {a b : Addr} {s1 : Hp} {vs us : List V} (h : s1 a = some (.lst vs)) (hb : s1 b = some (.lst us)) (r : RpAll K s1 vs ds) (r2 : RpAll K s1 us zs) : Src K (Itz K a b) s1 (ds.zipWith (fun x y => .tuple [x, y]) zs) := fun i w' e => by
  have h' : SqL K w'.h a vs := SqL.of (w'.le _ _ (e _ _ h))
  have hb' : SqL K w'.h b us := SqL.of (w'.le _ _ (e _ _ hb))
  have r' := r.mono e
  have r2' := r2.mono e
  rw [List.length_zipWith]
  refine ⟨fun hi => ⟨?_, ?_⟩, fun hi => ⟨vs, us, h', hb', by rw [r.length, r2.length]; omega⟩⟩
  · obtain ⟨v, hv, _⟩ := r.get (List.getElem?_eq_getElem (show i < ds.length by omega))
    obtain ⟨u, hu, _⟩ := r2.get (List.getElem?_eq_getElem (show i < zs.length by omega))
    exact ⟨vs, us, v, u, h', hb', hv, hu⟩
  · rintro x H' ⟨T, y, z, rfl, hT, rfl, q, q2⟩
    obtain ⟨d, hd, rd⟩ := r'.getV (q vs h')
    obtain ⟨d2, hd2, rd2⟩ := r2'.getV (q2 us hb')
    obtain ⟨w2, e2, g2, r2⟩ := rp_newT (K := K) (vs := [y, z]) (ds := [d, d2]) hT (.cons rd (.cons rd2 .nil))
    refine ⟨w2, _, e2, g2, ?_, r2⟩
    rw [List.getElem?_zipWith, hd, hd2]
theorem xi_zip {elts : List Expr} {kk : Nat} {tpos : Pos} (hm : S.mg "zip" = none) (ha : XE S a env (.list ds)) (hb : XE S b env (.list zs)) (hg : Glo S "zip" := by rfl)
    (hs : ∀ env, starEach [a, b] env = (false, eval a env) :: starEach [b] env := by intro _; rfl) (hs2 : ∀ env, starEach [b] env = (false, eval b env) :: starEach [] env := by intro _; rfl) (hpl : ∀ env, (backTo pos (starEach [b] env)).any (·.1) = false := by intro _; rfl) :
    XI S (.Tuple elts kk tpos) (.Call (.Name "zip" p) [a, b] [] pos) env (ds.zipWith (fun x y => .tuple [x, y]) zs) := by
  obtain ⟨t, pt, q⟩ := ha
  obtain ⟨t2, pt2, q2⟩ := hb
  refine ⟨iZip S.K (tCons t (tCons t2 tNil)), fun X D => by rw [← D.K]; exact pi_zip (hg.gl D) (by rw [D.mg]; exact hm) (pa_cons (pt X D) (pa_cons (pt2 X D) pa_nil (hs2 _)) (hs _)) (hs _) (hpl _),
    fun B w0 w σ s R k => q B w0 w σ s _ fun v w1 g1 r1 => q2 B w0 w1 σ (s.mono g1) _ fun v2 w2 g2 r2 => ?_⟩
  obtain ⟨u, vs, rfl, hp, t⟩ := rp_list (r1.mono g2.s)
  obtain ⟨u2, vs2, rfl, hp2, t2⟩ := rp_list r2
  exact ⟨u, u2, vs, vs2, rfl, SqL.of (w2.le _ _ hp), SqL.of (w2.le _ _ hp2), k _ w2 (g1.trans g2) (src_zip hp hp2 t t2)⟩
theorem xi_rev (hm : S.mg "reversed" = none) (ha : XE S a env (.list ds)) (hg : Glo S "reversed" := by rfl) (hs : ∀ env, starEach [a] env = (false, eval a env) :: starEach [] env := by intro _; rfl) :
    XI S tg (.Call (.Name "reversed" p) [a] [] pos) env ds.reverse := by
  obtain ⟨t, pt, q⟩ := ha
  refine ⟨iRev S.K (tCons t tNil), fun X D => by rw [← D.K]; exact pi_reversed (hg.gl D) (by rw [D.mg]; exact hm) (pa_cons (pt X D) pa_nil (hs _)) (hs _), fun B w0 w σ s R k => q B w0 w σ s _ fun v w1 g1 r1 => ?_⟩
  obtain ⟨u, vs, rfl, hp, t⟩ := rp_list r1
  refine ⟨u, vs, rfl, SqL.of (w1.le _ _ hp), k _ w1 g1 fun i w' e => ?_⟩
  have h' : SqL S.K w'.h u vs := SqL.of (w'.le _ _ (e _ _ hp))
  have r' := t.mono e
  rw [List.length_reverse]
  refine ⟨fun hi => ⟨?_, ?_⟩, fun hi => by show vs.length ≤ i; rw [t.length]; exact hi⟩
  · have hi' : vs.length - 1 - i < vs.length := by rw [t.length]; omega
    exact ⟨by rw [t.length]; exact hi, vs, _, h', List.getElem?_eq_getElem hi'⟩
  · rintro x H' ⟨rfl, q⟩
    obtain ⟨d, hd, rd⟩ := r'.getV (q vs h')
    rw [t.length] at hd
    exact ⟨w', d, rfl, Grow.refl _ _, by rw [List.getElem?_reverse hi]; exact hd, rd⟩
end
/-! ## targets -/
def EvG (K : PySem.W.Frag) (g : TG) (ts : List Nat) (env : Evm) (d : PyData) (env' : Evm) : Prop := ∀ B w0 w σ v, Sat K B w0 w σ env → Rp K w.s v d → ∀ Q : St → Hp → Prop,
  (∀ σ' : St, Sat K B w0 w σ' env' → σ'.length = σ.length → (∀ j, j ∉ ts → σ'[j]? = σ[j]?) → Q σ' w.h) → g v σ w.h Q
def XG (S : Sc) (tg : Expr) (ts : List Nat) (F : PyData → Evm → Evm) (P : Evm → PyData → Prop) : Prop := ∃ g, (∀ X, Dyn S X → PG X tg g) ∧ ∀ env d, P env d → EvG S.K g ts env d (F d env)
section
variable {S : Sc} {pos p : Pos} {x y z u : Str}
theorem evg_name {K : PySem.W.Frag} {i : Nat} {env : Evm} {d : PyData} (hi : i < env.length) : EvG K (gName i) [i] env d (env.set i (.dat d)) := fun B w0 w σ v s r Q q =>
  q _ (s.dat hi r) (List.length_set ..) fun j hj => by rw [List.getElem?_set]; exact if_neg (fun e => hj (by rw [e]; exact List.mem_singleton_self _))
theorem xg_name (i : Nat) (hN : S.N.Nodup) (hi : S.N[i]? = some x := by rfl) (hl : S.sc.names.lookup x = some .local := by rfl) : XG S (.Name x pos) [i] (fun d env => env.set i (.dat d)) (fun env _ => i < env.length) :=
  ⟨gName i, fun X D => pg_name (by rw [D.N]; exact hN) (by rw [D.N]; exact hi) (by rw [D.sc]; exact .inl hl) (.inr (by rw [D.sc]; exact hl)), fun env d hi => evg_name hi⟩
def itemsD : PyData → List PyData
  | .tuple ds => ds
  | _ => []
def putL : List Nat → List PyData → Evm → Evm
  | j :: js, d :: ds, env => putL js ds (env.set j (.dat d))
  | _, _, env => env
theorem xg_tup2 (i j : Nat) {k : Nat} (hc : S.calm = true) (hN : S.N.Nodup) {p1 p2 : Pos} (hi : S.N[i]? = some x := by rfl) (hj : S.N[j]? = some y := by rfl) (hl : S.sc.names.lookup x = some .local := by rfl) (hl2 : S.sc.names.lookup y = some .local := by rfl) :
    XG S (.Tuple [.Name x p1, .Name y p2] k pos) [i, j] (fun d env => putL [i, j] (itemsD d) env) (fun env d => i < env.length ∧ j < env.length ∧ ∃ a b, d = .tuple [a, b]) := by
  have n1 : ∀ X, Dyn S X → PG X (.Name x p1) (gName i) := fun X D => pg_name (by rw [D.N]; exact hN) (by rw [D.N]; exact hi) (by rw [D.sc]; exact .inl hl) (.inr (by rw [D.sc]; exact hl))
  have n2 : ∀ X, Dyn S X → PG X (.Name y p2) (gName j) := fun X D => pg_name (by rw [D.N]; exact hN) (by rw [D.N]; exact hj) (by rw [D.sc]; exact .inl hl2) (.inr (by rw [D.sc]; exact hl2))
  refine ⟨gTup S.K 2 (gCons (gName i) (gCons (gName j) gNil)), fun X D => by rw [← D.K]; exact pg_tup (D.calm.trans hc) (pgs_cons (n1 X D) (pgs_cons (n2 X D) pgs_nil)), ?_⟩
  rintro env d ⟨h1, h2, a, b, rfl⟩ B w0 w σ v s r Q q
  cases r with
  | tup hp t =>
    cases t with
    | cons r1 t => cases t with
      | cons r2 t =>
        cases t
        refine ⟨_, _, rfl, ex_sqT w.le hp, rfl, _, _, rfl, _, _, rfl, rfl, ?_⟩
        refine q _ ((s.dat h1 r1).dat (by rw [List.length_set]; exact h2) r2) (by rw [List.length_set, List.length_set]) fun m hm => ?_
        rw [List.getElem?_set_ne (fun e => hm (by rw [← e]; exact List.mem_cons_of_mem _ List.mem_cons_self)), List.getElem?_set_ne (fun e => hm (by rw [← e]; exact List.mem_cons_self))]
theorem xg_tup3 (i j l : Nat) {k : Nat} (hc : S.calm = true) (hN : S.N.Nodup) {p1 p2 p3 : Pos} (hi : S.N[i]? = some x := by rfl) (hj : S.N[j]? = some y := by rfl) (hl' : S.N[l]? = some z := by rfl) (hl : S.sc.names.lookup x = some .local := by rfl) (hl2 : S.sc.names.lookup y = some .local := by rfl) (hl3 : S.sc.names.lookup z = some .local := by rfl) :
    XG S (.Tuple [.Name x p1, .Name y p2, .Name z p3] k pos) [i, j, l] (fun d env => putL [i, j, l] (itemsD d) env) (fun env d => i < env.length ∧ j < env.length ∧ l < env.length ∧ ∃ a b c, d = .tuple [a, b, c]) := by
  have n1 : ∀ X, Dyn S X → PG X (.Name x p1) (gName i) := fun X D => pg_name (by rw [D.N]; exact hN) (by rw [D.N]; exact hi) (by rw [D.sc]; exact .inl hl) (.inr (by rw [D.sc]; exact hl))
  have n2 : ∀ X, Dyn S X → PG X (.Name y p2) (gName j) := fun X D => pg_name (by rw [D.N]; exact hN) (by rw [D.N]; exact hj) (by rw [D.sc]; exact .inl hl2) (.inr (by rw [D.sc]; exact hl2))
  have n3 : ∀ X, Dyn S X → PG X (.Name z p3) (gName l) := fun X D => pg_name (by rw [D.N]; exact hN) (by rw [D.N]; exact hl') (by rw [D.sc]; exact .inl hl3) (.inr (by rw [D.sc]; exact hl3))
  refine ⟨gTup S.K 3 (gCons (gName i) (gCons (gName j) (gCons (gName l) gNil))), fun X D => by rw [← D.K]; exact pg_tup (D.calm.trans hc) (pgs_cons (n1 X D) (pgs_cons (n2 X D) (pgs_cons (n3 X D) pgs_nil))), ?_⟩
  rintro env d ⟨h1, h2, h3, a, b, c, rfl⟩ B w0 w σ v s r Q q
  cases r with
  | tup hp t =>
    cases t with
    | cons r1 t => cases t with
      | cons r2 t => cases t with
        | cons r3 t =>
          cases t
          refine ⟨_, _, rfl, ex_sqT w.le hp, rfl, _, _, rfl, _, _, rfl, _, _, rfl, rfl, ?_⟩
          refine q _ (((s.dat h1 r1).dat (by rw [List.length_set]; exact h2) r2).dat (by rw [List.length_set, List.length_set]; exact h3) r3) (by rw [List.length_set, List.length_set, List.length_set]) fun m hm => ?_
          rw [List.getElem?_set_ne (fun e => hm (by rw [← e]; simp)), List.getElem?_set_ne (fun e => hm (by rw [← e]; simp)), List.getElem?_set_ne (fun e => hm (by rw [← e]; simp))]
end
/-! ## comprehensions -/
def Sc.blk (S : Sc) (scope : Scope) : Sc := { S with sc := relS scope S.sc }
def wipeE (env : Evm) : List Nat → Evm
  | [] => env
  | v :: vs => (wipeE env vs).set v .junk
theorem Dyn.blk {S : Sc} {X : Cx} (D : Dyn S X) (scope : Scope) (s : Shared) (H : Hp) (C : Addr) (cl : List (Str × Addr)) (fp : List Addr) : Dyn (S.blk scope) (X.blk s H scope (compEnvC scope cl C X.env) fp) where
  P := D.P
  w := D.w
  K := D.K
  mg := D.mg
  base := D.base
  N := D.N
  sc := by
    show relS scope X.env.scope = relS scope S.sc
    rw [D.sc]
  calm := D.calm
  room := D.room
  un := D.un
theorem Sat.wiped {K : PySem.W.Frag} {B : List Addr} {w0 : Bs} {w : Wl} {σ : St} {env : Evm} (h : Sat K B w0 w σ env) : ∀ vs : List Nat, Sat K B w0 w (wipe σ vs) (wipeE env vs)
  | [] => h
  | v :: vs => by
    have ih := Sat.wiped h vs
    show Sat K B w0 w ((wipe σ vs).set v none) ((wipeE env vs).set v .junk)
    by_cases c : v < (wipeE env vs).length
    · exact ih.junk c
    · have c2 : (wipe σ vs).length ≤ v := by rw [ih.len]; omega
      rw [List.set_eq_of_length_le c2, List.set_eq_of_length_le (by omega)]
      exact ih
theorem wipe_get (σ : St) (vs : List Nat) (j : Nat) : (wipe σ vs)[j]? = if j ∈ vs then (σ[j]?).map (fun _ => none) else σ[j]? := by
  induction vs with
  | nil => simp [wipe]
  | cons v vs ih =>
    show ((wipe σ vs).set v none)[j]? = _
    by_cases c : v = j
    · subst c
      rw [if_pos List.mem_cons_self, List.getElem?_set_self']
      rw [ih]
      by_cases c2 : v ∈ vs
      · rw [if_pos c2]; cases σ[v]? <;> rfl
      · rw [if_neg c2]; cases σ[v]? <;> rfl
    · rw [List.getElem?_set_ne c, ih]
      by_cases c2 : j ∈ vs
      · rw [if_pos c2, if_pos (List.mem_cons_of_mem _ c2)]
      · rw [if_neg c2, if_neg (by intro q; rcases List.mem_cons.mp q with q | q; exact c q.symm; exact c2 q)]
theorem wipe_back {σ σ' : St} {vs ts : List Nat} (hl : σ'.length = σ.length) (hts : ∀ j ∈ ts, j ∈ vs) (h : ∀ j, j ∉ ts → σ'[j]? = (wipe σ vs)[j]?) : wipe σ' vs = wipe σ vs := by
  apply List.ext_getElem?
  intro j
  rw [wipe_get, wipe_get]
  by_cases c : j ∈ vs
  · rw [if_pos c, if_pos c]
    by_cases c2 : j < σ.length
    · rw [List.getElem?_eq_getElem c2, List.getElem?_eq_getElem (by omega)]; rfl
    · rw [List.getElem?_eq_none (by omega), List.getElem?_eq_none (by omega)]
  · rw [if_neg c, if_neg c, h j (fun q => c (hts j q)), wipe_get, if_neg c]
theorem pe_sup {X : Cx} {e : Expr} {ι : Sort _} {t : ι → TE} (h : ∀ i, PE X e (t i)) : PE X e (fun σ H Q => ∃ i, t i σ H Q) := ⟨fun pins s σ H Q I ⟨i, q⟩ => (h i).run pins s σ H Q I q⟩
theorem pts_sup {X : Cx} {es : List Expr} {ι : Sort _} {t : ι → TT} (h : ∀ i, PTs X es (t i)) : PTs X es (fun σ H Q => ∃ i, t i σ H Q) := ⟨fun pins s σ H Q I ⟨i, q⟩ => (h i).run pins s σ H Q I q⟩
def XTs (S : Sc) (es : List Expr) (env : Evm) (b : Bool) : Prop := ∃ t, (∀ X, Dyn S X → PTs X es t) ∧ EvT S.K t env b
section
variable {S : Sc} {env : Evm} {tg elt iter a : Expr} {ifs : List Expr} {scope : Scope} {own : List (Str × Nat)} {pos : Pos} {ts : List Nat} {F : PyData → Evm → Evm} {P : Evm → PyData → Prop}
theorem xts_nil : XTs S [] env true := ⟨tYes, fun X D => pts_nil, fun B w0 w σ s Q q => q w (Grow.refl _ _)⟩
theorem xts_one {b : Bool} (h : XT S a env b) : XTs S [a] env b := let ⟨t, p, q⟩ := h; ⟨t, fun X D => pts_one (p X D), q⟩
def XLc (S : Sc) (elt tg iter : Expr) (ifs : List Expr) (scope : Scope) (own : List (Str × Nat)) (env : Evm) (zs : List PyData) : Prop := ∃ wi g tt te,
  (∀ X, Dyn S X → PI X tg iter wi) ∧ (∀ X, Dyn (S.blk scope) X → PG X tg g) ∧ (∀ X, Dyn (S.blk scope) X → PTs X ifs tt) ∧ (∀ X, Dyn (S.blk scope) X → PE X elt te) ∧ EvN S.K (tLc wi g tt te (own.map (·.2))) env zs
theorem xn_lc {zs : List PyData} (own : List (Str × Nat)) (h : XLc S elt tg iter ifs scope own env zs) (hc : S.calm = true) (hN : S.N.Nodup) (ok : blkC S.N S.sc scope own = true := by first | (dsimp only; decide +kernel) | decide +kernel) (hs : ∀ env x, foldedSetIterable iter env x = pure x := by intro _ _; rfl) :
    XN S (.ListComp elt [⟨tg, iter, ifs, 0⟩] scope pos) env zs := by
  obtain ⟨wi, g, tt, te, pi, pg, ptt, pte, q⟩ := h
  exact ⟨tLc wi g tt te (own.map (·.2)), fun X D => pe_lc (D.calm.trans hc) (by rw [D.N]; exact hN) (pi X D) (by rw [D.N, D.sc]; exact blkOk_by ok) (fun s H C cl fp => pg _ (D.blk scope s H C cl fp)) (fun s H C cl fp => ptt _ (D.blk scope s H C cl fp))
    (fun s H C cl fp => pte _ (D.blk scope s H C cl fp)) (hs _), q⟩
theorem xlc0 {α : Type} (e : α → PyData) (f : α → PyData) (p : α → Bool) {xs : List α} (hi : XI S tg iter env (xs.map e)) (hc : S.calm = true) (hN : S.N.Nodup) (hl : xs.length ≤ sizeLine) 
    (hg : XG (S.blk scope) tg ts F P) (hts : ∀ j ∈ ts, j ∈ own.map (·.2)) (hP : ∀ x ∈ xs, P (wipeE env (own.map (·.2))) (e x))
    (ht : ∀ x ∈ xs, XTs (S.blk scope) ifs (F (e x) (wipeE env (own.map (·.2)))) (p x)) (he : ∀ x ∈ xs, p x = true → XE (S.blk scope) elt (F (e x) (wipeE env (own.map (·.2)))) (f x))
    : XLc S elt tg iter ifs scope own env ((xs.filter p).map f) := by
  obtain ⟨wi, pi, ei⟩ := hi
  obtain ⟨g, pg, eg⟩ := hg
  let tt : TT := fun σ H Q => ∃ i : { x : α // x ∈ xs }, (Classical.choose (ht i.1 i.2)) σ H Q
  let te : TE := fun σ H Q => ∃ i : { x : α // x ∈ xs ∧ p x = true }, (Classical.choose (he i.1 i.2.1 i.2.2)) σ H Q
  have ptt : ∀ X, Dyn (S.blk scope) X → PTs X ifs tt := fun X D => pts_sup fun i => (Classical.choose_spec (ht i.1 i.2)).1 X D
  have pte : ∀ X, Dyn (S.blk scope) X → PE X elt te := fun X D => pe_sup fun i => (Classical.choose_spec (he i.1 i.2.1 i.2.2)).1 X D
  have ett : ∀ x (hx : x ∈ xs), EvT S.K tt (F (e x) (wipeE env (own.map (·.2)))) (p x) := fun x hx B w0 w σ s Q q => ⟨⟨x, hx⟩, (Classical.choose_spec (ht x hx)).2 B w0 w σ s Q q⟩
  have ete : ∀ x (hx : x ∈ xs) (hp : p x = true), EvE S.K te (F (e x) (wipeE env (own.map (·.2)))) (f x) := fun x hx hp B w0 w σ s Q q => ⟨⟨x, hx, hp⟩, (Classical.choose_spec (he x hx hp)).2 B w0 w σ s Q q⟩
  refine ⟨wi, g, tt, te, pi, pg, ptt, pte, ?_⟩
  intro B w0 w σ sat Q q
  refine ei B w0 w σ sat _ fun J w1 g1 src D hD => ?_
  have hD0 : w.h D = none := bk_none g1 hD
  refine ⟨fun i m H => i + m = xs.length ∧ ∃ (w' : Wl) (vs : List V), w'.h = H ∧ Grow [] w1 w' ∧ w'.h D = some (.lst vs) ∧ w'.s D = none ∧ RpAll S.K w'.s vs (((xs.take i).filter p).map f), ⟨xs.length, by omega, w1.new D (.lst []) hD, [], rfl, grow_new hD, upd_same, s_none (w := w1) hD, .nil⟩, ?_⟩
  rintro i m H ⟨him, w', vs, rfl, g2, hv, hsD, rv⟩
  have hsrc := src i w' g2.s
  rw [List.length_map] at hsrc
  by_cases hlt : i < xs.length
  · right
    obtain ⟨hgo, hy⟩ := hsrc.1 hlt
    refine ⟨hgo, fun H' => i + 1 + (m - 1) = xs.length ∧ ∃ (w' : Wl) (vs : List V), w'.h = H' ∧ Grow [] w1 w' ∧ w'.h D = some (.lst vs) ∧ w'.s D = none ∧ RpAll S.K w'.s vs (((xs.take (i + 1)).filter p).map f), fun H' h => ⟨m - 1, by omega, h⟩, ?_⟩
    intro x H' hx
    obtain ⟨w2, d, rfl, g3, hd, rd⟩ := hy x H' hx
    rw [List.getElem?_map, List.getElem?_eq_getElem hlt] at hd
    injection hd with hd
    subst hd
    have hmem : xs[i] ∈ xs := List.getElem_mem hlt
    have sat2 : Sat S.K B w0 w2 σ env := sat.mono ((g1.trans g2).trans g3)
    have htk : xs.take (i + 1) = xs.take i ++ [xs[i]] := by rw [List.take_succ, List.getElem?_eq_getElem hlt]; rfl
    refine eg _ _ (hP _ hmem) B w0 w2 _ x (sat2.wiped _) rd _ fun σ' sat3 hlen hσ => ?_
    refine ⟨wipe_back (hlen.trans (wipe_length _ _)) hts hσ, ?_⟩
    refine ett _ hmem B w0 w2 σ' sat3 _ fun w3 g4 => ?_
    have gg : Grow [] w1 w3 := (g2.trans g3).trans g4
    have hv3 : w3.h D = some (.lst vs) := exh (g3.trans g4) _ _ hv
    have hs3 : w3.s D = none := (g3.trans g4).own D (by rw [hv]; intro q; cases q) hsD
    cases hp : p xs[i] with
    | false =>
      rw [if_neg Bool.false_ne_true]
      refine ⟨by omega, w3, vs, rfl, gg, hv3, hs3, ?_⟩
      rw [htk, List.filter_append, List.filter_cons_of_neg (by rw [hp]; exact Bool.false_ne_true), List.filter_nil, List.append_nil]
      exact rv.mono (g3.trans g4).s
    | true =>
      rw [if_pos rfl]
      refine ete _ hmem hp B w0 w3 σ' (sat3.mono g4) _ fun v w4 g5 r5 => ?_
      have hv4 : w4.h D = some (.lst vs) := exh g5 _ _ hv3
      have hs4 : w4.s D = none := g5.own D (by rw [hv3]; intro q; cases q) hs3
      have rv4 : RpAll S.K w4.s vs (((xs.take i).filter p).map f) := rv.mono ((g3.trans g4).trans g5).s
      have hvl : vs.length ≤ i := by
        rw [rv4.length, List.length_map]
        exact Nat.le_trans (List.length_filter_le _ _) (by rw [List.length_take]; omega)
      refine ⟨vs, hv4, by omega, by omega, ⟨w4.s, upd w4.h D (.lst (vs ++ [v])), fun a o ea => ?_⟩, vs ++ [v], rfl, ?_, upd_same, hs4, ?_⟩
      · have hne : a ≠ D := fun q => by rw [q, hs4] at ea; cases ea
        rw [upd_ne hne]; exact w4.le a o ea
      · have g6 := gg.trans g5
        refine ⟨fun a o _ ea => ?_, g6.s, g6.own, fun a ea => ?_⟩
        · have hne : a ≠ D := fun q => by rw [q, hD] at ea; cases ea
          show upd w4.h D (.lst (vs ++ [v])) a = some o
          rw [upd_ne hne]; exact g6.h a o (by simp) ea
        · show upd w4.h D (.lst (vs ++ [v])) a ≠ none
          by_cases hne : a = D
          · rw [hne, upd_same]; intro q; cases q
          · rw [upd_ne hne]; exact g6.dom a ea
      · rw [htk, List.filter_append, List.filter_cons_of_pos hp, List.filter_nil, List.map_append]
        exact rv4.append (.one r5)
  · left
    have hm0 : i = xs.length := by omega
    subst hm0
    refine ⟨hsrc.2 (Nat.le_refl _), q D vs w' hD0 (g1.trans g2) hv hsD ?_⟩
    rw [List.take_length] at rv
    exact rv
/-- [f x for x in xs], the data typed -/
theorem xlc_map {α β : Type} [Emb β] (e : α → PyData) (f : α → β) {xs : List α} (hi : XI S tg iter env (xs.map e)) (hc : S.calm = true) (hN : S.N.Nodup) (hl : xs.length ≤ sizeLine)
    (hg : XG (S.blk scope) tg ts F P) (hts : ∀ j ∈ ts, j ∈ own.map (·.2)) (hP : ∀ x ∈ xs, P (wipeE env (own.map (·.2))) (e x))
    (he : ∀ x ∈ xs, XE (S.blk scope) elt (F (e x) (wipeE env (own.map (·.2)))) (emb (f x))) : XLc S elt tg iter [] scope own env ((xs.map f).map emb) := by
  have h := xlc0 e (fun x => emb (f x)) (fun _ => true) hi hc hN hl hg hts hP (fun x _ => xts_nil) (fun x hx _ => he x hx)
  rw [List.filter_eq_self.mpr (fun _ _ => rfl)] at h
  rw [List.map_map]
  exact h
theorem xlc_filter {α β : Type} [Emb β] (e : α → PyData) (f : α → β) (p : α → Bool) {xs : List α} {c : Expr} (hi : XI S tg iter env (xs.map e)) (hc : S.calm = true) (hN : S.N.Nodup) (hl : xs.length ≤ sizeLine)
    (hg : XG (S.blk scope) tg ts F P) (hts : ∀ j ∈ ts, j ∈ own.map (·.2)) (hP : ∀ x ∈ xs, P (wipeE env (own.map (·.2))) (e x))
    (ht : ∀ x ∈ xs, XT (S.blk scope) c (F (e x) (wipeE env (own.map (·.2)))) (p x))
    (he : ∀ x ∈ xs, p x = true → XE (S.blk scope) elt (F (e x) (wipeE env (own.map (·.2)))) (emb (f x))) : XLc S elt tg iter [c] scope own env (((xs.filter p).map f).map emb) := by
  have h := xlc0 e (fun x => emb (f x)) p hi hc hN hl hg hts hP (fun x hx => xts_one (ht x hx)) he
  rw [List.map_map]
  exact h
end
end Fw


namespace Fw
open PySem PySem.Spec L2 Emb
/-! ## statements -/
structure AE where
  nx : Evm → Prop
  rt : Evm → PyData → Prop
  bk : Evm → Prop := fun _ => False
  ct : Evm → Prop := fun _ => False
  ex : Evm → Exn → Prop := fun _ _ => False
def ExAt (G : Gc) (w : Wl) (e : Exn) (cls : Value) (d : Option Addr) : Prop :=
  cls = .ref (G.ct e.c).1 ∧ match (G.ct e.c).2 with
    | none => d = none
    | some f => ∃ dd v, d = some dd ∧ w.s dd = some (.xd [(f, v)]) ∧ Rp G.K w.s v e.a
theorem ExAt.mono {G : Gc} {w w' : Wl} {e : Exn} {cls : Value} {d : Option Addr} (h : ExAt G w e cls d) (g : Ex w.s w'.s) : ExAt G w' e cls d := by
  obtain ⟨h1, h2⟩ := h
  refine ⟨h1, ?_⟩
  cases hf : (G.ct e.c).2 with
  | none => rw [hf] at h2; exact h2
  | some f => rw [hf] at h2; obtain ⟨dd, v, e1, e2, e3⟩ := h2; exact ⟨dd, v, e1, g _ _ e2, e3.mono g⟩
structure Link (S : Sc) (B : List Addr) (w0 : Bs) (W : WX) (D : Ends) (D' : AE) : Prop where
  nx : ∀ env w σ, D'.nx env → Sat S.K B w0 w σ env → D.nx σ w.h
  bk : ∀ env w σ, D'.bk env → Sat S.K B w0 w σ env → D.bk σ w.h
  ct : ∀ env w σ, D'.ct env → Sat S.K B w0 w σ env → D.ct σ w.h
  rt : ∀ env d v w σ, D'.rt env d → Sat S.K B w0 w σ env → Rp S.K w.s v d → D.rt v w.h
  ex : ∀ env e cls d w σ, D'.ex env e → Sat S.K B w0 w σ env → ExAt S.toGc w e cls d → W cls d σ w.h
def RunX (S : Sc) (t : TS) (W : WX) (env : Evm) (D' : AE) : Prop := ∀ B w0 w σ D, Sat S.K B w0 w σ env → Link S B w0 W D D' → t D σ w.h
abbrev Own (X : Cx) : Prop := PassesOwn (model X.prog X.w) X.A X.env X.xe
structure Ctx (S : Sc) (W : WX) (X : Cx) : Prop where
  dyn : Dyn S X
  tk : Takes X W
  own : Own X
  fn : ∀ x, X.fn x = true
def XS (S : Sc) (st : Stmt) (env : Evm) (D : AE) : Prop := ∀ W, ∃ t, (∀ X, Ctx S W X → PS X st t) ∧ RunX S t W env D
def XSs (S : Sc) (sts : List Stmt) (env : Evm) (D : AE) : Prop := ∀ W, ∃ t, (∀ X, Ctx S W X → PSs X sts t) ∧ RunX S t W env D
section
variable {S : Sc} {env env' : Evm} {D : AE} {st : Stmt} {sts rest : List Stmt} {e a b c o : Expr} {es : List Expr} {d x y z : PyData} {pos p p' : Pos} {i j : Int} {s s' n : Str} {ds zs : List PyData} {k : Bool}
theorem pss_sup {X : Cx} {sts : List Stmt} {ι : Sort _} {t : ι → TS} (h : ∀ i, PSs X sts (t i)) : PSs X sts (fun D σ H => ∃ i, t i D σ H) := ⟨fun pins s σ H D I ⟨i, q⟩ => (h i).run pins s σ H D I q⟩
theorem xss_nil (k : D.nx env) : XSs S [] env D := fun W => ⟨tNext, fun X C => pss_nil, fun B w0 w σ D' sat l => l.nx _ _ _ k sat⟩
theorem XS.one (h : XS S st env D) : XSs S [st] env D := fun W => let ⟨t, p, q⟩ := h W; ⟨t, fun X C => pss_one (p X C), q⟩
/-- a statement, then the rest from each of its ends -/
theorem xss_cut (M : Evm → Prop) (h : XS S st env { D with nx := M }) (k : ∀ env', M env' → XSs S rest env' D) : XSs S (st :: rest) env D := fun W => by
  obtain ⟨t, pt, rt⟩ := h W
  let u : TS := fun D σ H => ∃ i : { e : Evm // M e }, (Classical.choose (k i.1 i.2 W)) D σ H
  refine ⟨tSeq t u, fun X C => pss_cons (pt X C) (pss_sup fun i => (Classical.choose_spec (k i.1 i.2 W)).1 X C), fun B w0 w σ D' sat l => ?_⟩
  exact rt B w0 w σ { D' with nx := u D' } sat ⟨fun env w σ hm sat' => ⟨⟨env, hm⟩, (Classical.choose_spec (k env hm W)).2 B w0 w σ D' sat' l⟩, l.bk, l.ct, l.rt, l.ex⟩
theorem xss_of (h : ∀ W, ∃ t, (∀ X, Ctx S W X → PS X st t) ∧ ∀ u, RunX S u W env' D → RunX S (tSeq t u) W env D) (k : XSs S rest env' D) : XSs S (st :: rest) env D := fun W => by
  obtain ⟨t, pt, rt⟩ := h W
  obtain ⟨u, pu, ru⟩ := k W
  exact ⟨tSeq t u, fun X C => pss_cons (pt X C) (pu X C), rt u ru⟩
/-- weaken what is known ahead -/
theorem xss_weak (l : Le env env') (k : XSs S sts env' D) : XSs S sts env D := fun W => let ⟨t, p, q⟩ := k W; ⟨t, p, fun B w0 w σ D' sat => q B w0 w σ D' (sat.weak l)⟩
def Slot (S : Sc) (i : Nat) (n : Str) : Prop := S.N[i]? = some n ∧ (S.sc.names.lookup n = some .local ∨ S.sc.names.lookup n = some .cell)
theorem Slot.loc {i : Nat} {X : Cx} (h : Slot S i n) (D : Dyn S X) : Loc X.env.scope n := by
  rw [D.sc]; exact h.2
theorem Slot.lt {i : Nat} (h : Slot S i n) : i < S.N.length := (List.getElem?_eq_some_iff.mp h.1).1
theorem ps_setS {X : Cx} {W : WX} {i : Nat} {te : TE} (C : Ctx S W X) (hN : S.N.Nodup) (hs : Slot S i n) (he : PE X e te) (hw : ∀ env, swapsWith e (some (.Name n p')) pos.line env = pure false) : PS X (.Assign [.Name n p'] e pos) (tAsg te (gName i)) :=
  ps_set (by rw [C.dyn.N]; exact hN) (by rw [C.dyn.N]; exact hs.1) (hs.loc C.dyn) he (hw _) (.inl (C.fn _))
/-- name = value -/
theorem xss_set (i : Nat) (hN : S.N.Nodup) (he : XE S e env d) (k : XSs S rest (env.set i (.dat d)) D) (hi : i < env.length := by exact Nat.le_of_ble_eq_true rfl) (hs : Slot S i n := by first | exact ⟨rfl, .inl rfl⟩ | exact ⟨rfl, .inr rfl⟩) (hw : ∀ env, swapsWith e (some (.Name n p')) pos.line env = pure false := by intro _; rfl) :
    XSs S (.Assign [.Name n p'] e pos :: rest) env D := by
  obtain ⟨t, pt, et⟩ := he
  refine xss_of (fun W => ⟨tAsg t (gName i), fun X C => ps_setS C hN hs (pt X C.dyn) hw, fun u ru B w0 w σ D' sat l => ?_⟩) k
  refine et B w0 w σ sat _ fun v w1 g1 r1 => ?_
  exact ru B w0 w1 _ D' ((sat.mono g1).dat hi r1) l
/-- a new list that this name alone holds -/
theorem Sat.own {K : PySem.W.Frag} {B : List Addr} {w0 : Bs} {w w1 : Wl} {σ : St} {env : Evm} {i : Nat} {q : Addr} {vs : List V} (sat : Sat K B w0 w σ env) (hi : i < env.length) (hq : w.h q = none) (g : Grow [] w w1) (h1 : w1.h q = some (.lst vs)) (h2 : w1.s q = none) (r : RpAll K w1.s vs ds) :
    Sat K B w0 w1 (σ.set i (some (.ref q))) (env.set i (.own (.lst ds))) := by
  have hw0 : w0.h q = none := by
    cases c : w0.h q with
    | none => rfl
    | some o => exact absurd hq (sat.grow.dom q (by rw [c]; intro z; cases z))
  obtain ⟨fps, f⟩ := sat.f
  refine ((f.mono g).put (e := .own (.lst ds)) hi (fp := [q]) ⟨List.nodup_cons.mpr ⟨by simp, List.nodup_nil⟩, fun a ha => ?_, .ref q, rfl, q, vs, rfl, rfl, h1, r⟩ ?_).sat
  · rw [List.mem_singleton.mp ha]
    exact ⟨h2, (by rw [h1]; intro z; cases z), hw0⟩
  · intro a ha j hj hm
    rw [List.mem_singleton.mp ha] at hm
    exact (f.there hm).2 hq
/-- name = a new list -/
theorem xss_setN (i : Nat) (hN : S.N.Nodup) (he : XN S e env ds) (k : XSs S rest (env.set i (.own (.lst ds))) D) (hi : i < env.length := by exact Nat.le_of_ble_eq_true rfl) (hs : Slot S i n := by first | exact ⟨rfl, .inl rfl⟩ | exact ⟨rfl, .inr rfl⟩) (hw : ∀ env, swapsWith e (some (.Name n p')) pos.line env = pure false := by intro _; rfl) :
    XSs S (.Assign [.Name n p'] e pos :: rest) env D := by
  obtain ⟨t, pt, et⟩ := he
  refine xss_of (fun W => ⟨tAsg t (gName i), fun X C => ps_setS C hN hs (pt X C.dyn) hw, fun u ru B w0 w σ D' sat l => ?_⟩) k
  refine et B w0 w σ sat _ fun q vs w1 hq g1 h1 h2 r1 => ?_
  exact ru B w0 w1 _ D' (sat.own hi hq g1 h1 h2 r1) l
section
variable {tg elt iter : Expr} {ifs : List Expr} {scope : Scope} {pos' : Pos}
/-- name = [..], the name a local -/
theorem xss_setLc (i : Nat) (own : List (Str × Nat)) (h : XLc S elt tg iter ifs scope own env zs) (hc : S.calm = true) (hN : S.N.Nodup) (k : XSs S rest (env.set i (.own (.lst zs))) D) (hi : i < env.length := by exact Nat.le_of_ble_eq_true rfl)
    (hk : S.sc.kind = .function := by rfl) (hn : S.N[i]? = some n := by rfl) (hnl : S.sc.names.lookup n = some .local := by rfl) (ok : blkC S.N S.sc scope own = true := by first | (dsimp only; decide +kernel) | decide +kernel)
    (hl : (p'.line == pos'.line) = true := by rfl) (ha : (scope.names.any fun (m, k) => m == n && (k == .local || k == .cell)) = false := by decide +kernel) (hs : ∀ env x, foldedSetIterable iter env x = pure x := by intro _ _; rfl) :
    XSs S (.Assign [.Name n p'] (.ListComp elt [⟨tg, iter, ifs, 0⟩] scope pos') pos :: rest) env D := by
  obtain ⟨wi, g, tt, te, pi, pg, ptt, pte, q⟩ := h
  refine xss_of (fun W => ⟨tAsg (tLc wi g tt te (own.map (·.2))) (gName i), fun X C => ps_setLc (C.dyn.calm.trans hc) (by rw [C.dyn.N]; exact hN) (by rw [C.dyn.N]; exact hn) (by rw [C.dyn.sc]; exact hnl)
    (sw_true (by rw [C.dyn.sc]; exact hk) (by rw [C.dyn.sc]; exact hnl) hl ha) (pi X C.dyn) (by rw [C.dyn.N, C.dyn.sc]; exact blkOk_by ok) (fun s H C' cl fp => pg _ (C.dyn.blk scope s H C' cl fp)) (fun s H C' cl fp => ptt _ (C.dyn.blk scope s H C' cl fp))
    (fun s H C' cl fp => pte _ (C.dyn.blk scope s H C' cl fp)) (hs _), fun u ru B w0 w σ D' sat l => ?_⟩) k
  exact q B w0 w σ sat (fun x H1 => u D' (σ.set i (some x)) H1) fun q vs w1 hq g1 h1 h2 r1 => ru B w0 w1 _ D' (sat.own hi hq g1 h1 h2 r1) l
end
/-- what an own list holds is there for good from here on -/
theorem Sat.frz {K : PySem.W.Frag} {B : List Addr} {w0 : Bs} {w : Wl} {σ : St} {env : Evm} {i : Nat} (sat : Sat K B w0 w σ env) (h : env[i]? = some (.own (.lst ds))) :
    ∃ w', w'.h = w.h ∧ Ex w.s w'.s ∧ Sat K B w0 w' σ (env.set i (.dat (.list ds))) := by
  obtain ⟨fps, f⟩ := sat.f
  have hi : i < env.length := (List.getElem?_eq_some_iff.mp h).1
  have c := f.sl i
  have e0 : env.getD i .junk = .own (.lst ds) := by rw [List.getD_eq_getElem?_getD, h]; rfl
  rw [e0] at c
  obtain ⟨_, ha, v, ev, q, vs, rfl, hfp, hq, r⟩ := c
  have hq0 := ha q (by rw [hfp]; exact List.mem_singleton_self _)
  have fx : ∀ a, a ≠ q → (w.fix q _ hq).s a = w.s a := fun a hne => upd_ne hne
  have hσ : σ.set i (σ.getD i none) = σ := by
    have hl : i < σ.length := by rw [f.len]; exact hi
    rw [List.getD_eq_getElem?_getD, List.getElem?_eq_getElem hl]
    exact List.set_getElem_self hl
  refine ⟨w.fix q _ hq, rfl, ex_fix hq, ?_⟩
  rw [← hσ]
  refine (f.turn (w' := w.fix q _ hq) (e := .dat (.list ds)) (fp := []) hi ⟨fun a o hb e => f.grow.h a o hb e, f.grow.s.trans (ex_fix hq), fun a e1 e2 => ?_, f.grow.dom⟩ (ex_fix hq) (fun j hj a haj => ⟨rfl, fx a ?_⟩) ⟨rfl, .ref q, ev, .lst (fix_same hq) (r.mono (ex_fix hq))⟩ (fun a ha => nomatch ha)).sat
  · have hne : a ≠ q := fun z => e1 (by rw [z]; exact hq0.2.2)
    rw [fx a hne]; exact f.grow.own a e1 e2
  · intro z
    exact f.dj i j q (fun z => hj z.symm) (by rw [hfp]; exact List.mem_singleton_self _) (by rw [← z]; exact haj)
theorem xss_frz (i : Nat) (k : XSs S sts (env.set i (.dat (.list ds))) D) (h : env[i]? = some (.own (.lst ds)) := by rfl) : XSs S sts env D := fun W => by
  obtain ⟨t, pt, et⟩ := k W
  refine ⟨t, pt, fun B w0 w σ D' sat l => ?_⟩
  obtain ⟨w', e1, _, sat'⟩ := sat.frz h
  rw [← e1]
  exact et B w0 w' σ D' sat' l
/-- an own list read on the way to a flat value -/
theorem xe_tmp (i : Nat) (he : XE S e (env.set i (.dat (.list ds))) d) (hd : flatD d = true := by rfl) (h : env[i]? = some (.own (.lst ds)) := by rfl) : XE S e env d := by
  obtain ⟨t, pt, et⟩ := he
  refine ⟨t, pt, fun B w0 w σ sat Q q => ?_⟩
  obtain ⟨w', e1, e2, sat'⟩ := sat.frz h
  rw [← e1]
  refine et B w0 w' σ sat' _ fun v w2 g2 r2 => ?_
  refine q v ⟨w.s, w2.h, fun a o ea => exh g2 a o (by rw [e1]; exact w.le a o ea)⟩ ⟨fun a o _ ea => exh g2 a o (by rw [e1]; exact ea), Ex.refl _, fun _ _ e => e, fun a ea => g2.dom a (by rw [e1]; exact ea)⟩ ?_
  cases r2 with
  | non => exact .non
  | bl b => exact .bl b
  | int b => exact .int b
  | str b => exact .str b
  | _ => cases hd
theorem xt_tmp (i : Nat) {b : Bool} (he : XT S e (env.set i (.dat (.list ds))) b) (h : env[i]? = some (.own (.lst ds)) := by rfl) : XT S e env b := by
  obtain ⟨t, pt, et⟩ := he
  refine ⟨t, pt, fun B w0 w σ sat Q q => ?_⟩
  obtain ⟨w', e1, e2, sat'⟩ := sat.frz h
  rw [← e1]
  refine et B w0 w' σ sat' _ fun w2 g2 => ?_
  exact q ⟨w.s, w2.h, fun a o ea => exh g2 a o (by rw [e1]; exact w.le a o ea)⟩ ⟨fun a o _ ea => exh g2 a o (by rw [e1]; exact ea), Ex.refl _, fun _ _ e => e, fun a ea => g2.dom a (by rw [e1]; exact ea)⟩
/-- an own list is written -/
theorem Sat.write {K : PySem.W.Frag} {B : List Addr} {w0 : Bs} {w : Wl} {σ : St} {env : Evm} {i : Nat} {q : Addr} {vs vs' : List V} {ds' : List PyData} (sat : Sat K B w0 w σ env) (h : env[i]? = some (.own (.lst ds)))
    (hv : σ[i]? = some (some (.ref q))) (hq : w.h q = some (.lst vs)) (r : RpAll K w.s vs' ds') : ∃ w', w'.h = upd w.h q (.lst vs') ∧ w'.s = w.s ∧ Sat K B w0 w' σ (env.set i (.own (.lst ds'))) := by
  obtain ⟨fps, f⟩ := sat.f
  have hi : i < env.length := (List.getElem?_eq_some_iff.mp h).1
  have c := f.sl i
  have e0 : env.getD i .junk = .own (.lst ds) := by rw [List.getD_eq_getElem?_getD, h]; rfl
  have ev0 : σ.getD i none = some (.ref q) := by rw [List.getD_eq_getElem?_getD, hv]; rfl
  rw [e0, ev0] at c
  obtain ⟨nd, ha, v, ev, q', vs0, rfl, hfp, hq', r'⟩ := c
  injection ev with ev
  injection ev with ev
  subst ev
  have hq0 := ha q (by rw [hfp]; exact List.mem_singleton_self _)
  have fx : ∀ a, a ≠ q → upd w.h q (.lst vs') a = w.h a := fun a hne => upd_ne hne
  have hσ : σ.set i (some (.ref q)) = σ := by
    have hl : i < σ.length := by rw [f.len]; exact hi
    rw [List.getElem?_eq_getElem hl] at hv
    injection hv with hv
    rw [← hv]
    exact List.set_getElem_self hl
  have le' : ∀ a o, w.s a = some o → upd w.h q (.lst vs') a = some o := fun a o ea => by
    rw [fx a (fun z => by rw [z, hq0.1] at ea; cases ea)]; exact w.le a o ea
  refine ⟨⟨w.s, upd w.h q (.lst vs'), le'⟩, rfl, rfl, ?_⟩
  · rw [← hσ]
    refine (f.turn (w' := ⟨w.s, upd w.h q (.lst vs'), le'⟩) (e := .own (.lst ds')) (fp := fps i) hi ⟨fun a o hb e => ?_, f.grow.s, f.grow.own, fun a e => ?_⟩ (Ex.refl _) (fun j hj a haj => ⟨fx a ?_, rfl⟩) ⟨nd, fun a ha' => ?_, .ref q, rfl, q, vs', rfl, hfp, upd_same, r⟩ (fun a ha j hj => f.dj i j a (fun z => hj z.symm) ha)).sat
    · show upd w.h q (.lst vs') a = some o
      rw [fx a (fun z => by rw [z, hq0.2.2] at e; cases e)]; exact f.grow.h a o hb e
    · show upd w.h q (.lst vs') a ≠ none
      by_cases c : a = q
      · rw [c, upd_same]; intro z; cases z
      · rw [fx a c]; exact f.grow.dom a e
    · intro z
      exact f.dj i j q (fun z => hj z.symm) (by rw [hfp]; exact List.mem_singleton_self _) (by rw [← z]; exact haj)
    · rw [hfp] at ha'
      rw [List.mem_singleton.mp ha']
      exact ⟨hq0.1, (by show upd w.h q (.lst vs') q ≠ none; rw [upd_same]; intro z; cases z), hq0.2.2⟩
theorem Sat.ownL {K : PySem.W.Frag} {B : List Addr} {w0 : Bs} {w : Wl} {σ : St} {env : Evm} {i : Nat} (sat : Sat K B w0 w σ env) (h : env[i]? = some (.own (.lst ds))) : ∃ q vs, σ[i]? = some (some (.ref q)) ∧ w.h q = some (.lst vs) ∧ RpAll K w.s vs ds := by
  obtain ⟨v, fp, e, q, vs, rfl, _, hq, r⟩ := sat.getO (.inl h)
  exact ⟨q, vs, e, hq, r⟩
/-- name.append(e) -/
theorem xss_app (i : Nat) {apos : Pos} (hl : ds.length < sizeLine) (he : XE S e env d) (k : XSs S rest (env.set i (.own (.lst (ds ++ [d])))) D) (h : env[i]? = some (.own (.lst ds)) := by rfl) (hn : S.N[i]? = some n := by rfl)
    (hv : Vis S.sc n := by first | exact Or.inl rfl | exact Or.inr (Or.inl rfl) | exact Or.inr (Or.inr rfl)) (h1 : (n == ("__debug__" : Str)) = false := by decide) (h2 : (n == ("__classdict__" : Str)) = false := by decide)
    (hline : (apos.endLine == p.line) = true := by rfl) (hs : ∀ env, starEach (e :: []) env = (false, eval e env) :: starEach [] env := by intro _; rfl)
    (hbase : ∀ env, attributeBase (.Name n p') "append" env (eval (.Name n p') env) = eval (.Name n p') env := by intro _; rfl)
    (hfew : ∀ env, ((backTo p (starEach (e :: []) env)).all (fun x => !x.1) && (backToKw p (keywordEach [] env)).all (fun x => x.1.isSome)
      && decide ((e :: []).length + ([] : List Keyword).length + (if ([] : List Keyword).isEmpty then 0 else 1) < 30)) = true := by intro _; rfl)
    (hsw : ∀ env, swapsWith (.Call (.Attribute (.Name n p') "append" apos) [e] [] p) none pos.line env = pure false := by intro _; rfl) :
    XSs S (.Expr (.Call (.Attribute (.Name n p') "append" apos) [e] [] p) pos :: rest) env D := by
  obtain ⟨t, pt, et⟩ := he
  refine xss_of (fun W => ⟨tDrop (tBM S.K "list" rAppend (tVar i) (tCons t tNil)), fun X C => ps_expr (by
    rw [← C.dyn.K]
    exact pe_bm PySem.F.plainAttrs_list PySem.F.slot_list_append PySem.F.type_list_append mt_append (pe_var (by rw [C.dyn.N]; exact hn) (by rw [C.dyn.sc]; exact hv) h1 h2) (pa_cons (pt X C.dyn) pa_nil (hs _)) (hbase _) (hfew _) hline (hs _) rfl) (hsw _), fun u ru B w0 w σ D' sat l => ?_⟩) k
  obtain ⟨q, vs, ev, hq, r⟩ := sat.ownL h
  refine ⟨.ref q, ev, .inl ⟨rfl, _, SqL.of hq⟩, ?_⟩
  refine et B w0 w σ sat _ fun v w1 g1 r1 => ?_
  have hq1 := exh g1 _ _ hq
  have r' := r.mono g1.s
  obtain ⟨w2, e2, e3, sat2⟩ := (sat.mono g1).write h ev hq1 (r'.append (.one r1))
  refine ⟨q, vs, v, rfl, rfl, hq1, by rw [r.length]; exact hl, ?_⟩
  rw [← e2]
  exact ru B w0 w2 σ D' sat2 l
/-- return e -/
theorem xss_ret (he : XE S e env d) (k : D.rt env d) : XSs S (.Return (some e) pos :: rest) env D := fun W => by
  obtain ⟨t, pt, et⟩ := he
  exact ⟨tSeq (tRet t) tNever, fun X C => pss_cons (ps_ret (pt X C.dyn)) pss_never, fun B w0 w σ D' sat l => et B w0 w σ sat _ fun v w1 g1 r1 => l.rt env d v w1 σ k (sat.mono g1) r1⟩
theorem xss_retN (k : D.rt env .none) : XSs S (.Return none pos :: rest) env D := fun W =>
  ⟨tSeq tRetN tNever, fun X C => pss_cons ps_retN pss_never, fun B w0 w σ D' sat l => l.rt env .none .non w σ k sat .non⟩
theorem xss_break (k : D.bk env) : XSs S (.Break pos :: rest) env D := fun W => ⟨tSeq tBreak tNever, fun X C => pss_cons ps_break pss_never, fun B w0 w σ D' sat l => l.bk env w σ k sat⟩
theorem xss_cont (k : D.ct env) : XSs S (.Continue pos :: rest) env D := fun W => ⟨tSeq tCont tNever, fun X C => pss_cons ps_continue pss_never, fun B w0 w σ D' sat l => l.ct env w σ k sat⟩
theorem xss_pass (k : XSs S rest env D) : XSs S (.Pass pos :: rest) env D := xss_of (fun W => ⟨tNext, fun X C => ps_pass, fun u ru => ru⟩) k
/-- e alone, its value dropped -/
theorem xss_expr (he : XE S e env d) (k : XSs S rest env D) (hsw : ∀ env, swapsWith e none pos.line env = pure false := by intro _; rfl) : XSs S (.Expr e pos :: rest) env D := by
  obtain ⟨t, pt, et⟩ := he
  exact xss_of (fun W => ⟨tDrop t, fun X C => ps_expr (pt X C.dyn) (hsw _), fun u ru B w0 w σ D' sat l => et B w0 w σ sat _ fun v w1 g1 r1 => ru B w0 w1 σ D' (sat.mono g1) l⟩) k
/-- if: each branch goes on with what is behind -/
theorem xs_if {a b : List Stmt} (ht : XT S c env k) (h1 : k = true → XSs S a env D) (h2 : k = false → XSs S b env D) : XS S (.If c a b pos) env D := fun W => by
  obtain ⟨t, pt, et⟩ := ht
  cases k with
  | true =>
    obtain ⟨u, pu, ru⟩ := h1 rfl W
    exact ⟨tIfS t u tNever, fun X C => ps_if (pt X C.dyn) (pu X C) pss_never, fun B w0 w σ D' sat l => et B w0 w σ sat _ fun w1 g1 => ru B w0 w1 σ D' (sat.mono g1) l⟩
  | false =>
    obtain ⟨u, pu, ru⟩ := h2 rfl W
    exact ⟨tIfS t tNever u, fun X C => ps_if (pt X C.dyn) pss_never (pu X C), fun B w0 w σ D' sat l => et B w0 w σ sat _ fun w1 g1 => ru B w0 w1 σ D' (sat.mono g1) l⟩
theorem xss_if {a b : List Stmt} (ht : XT S c env k) (h1 : k = true → XSs S a env { D with nx := fun e => XSs S rest e D }) (h2 : k = false → XSs S b env { D with nx := fun e => XSs S rest e D }) : XSs S (.If c a b pos :: rest) env D :=
  xss_cut (fun e => XSs S rest e D) (xs_if ht h1 h2) (fun _ h => h)
/-- if: both branches come to what env' tells -/
theorem xss_ifJ {a b : List Stmt} (env' : Evm) (ht : XT S c env k) (h1 : k = true → XSs S a env { D with nx := fun e => Le e env' }) (h2 : k = false → XSs S b env { D with nx := fun e => Le e env' }) (h : XSs S rest env' D) : XSs S (.If c a b pos :: rest) env D :=
  xss_cut (fun e => Le e env') (xs_if ht h1 h2) (fun _ l => xss_weak l h)
/-- name op= e, ints -/
theorem xss_augI (i : Nat) {op : Operator} {f : Int → Int → Int} {m : Int} (hp : ∀ X, Dyn S X → PIp X op (ipI f)) (hN : S.N.Nodup) (he : XE S e env (.int j)) (k : XSs S rest (env.set i (.dat (.int (f m j)))) D) (h : env[i]? = some (.dat (.int m)) := by rfl)
    (hs : Slot S i n := by first | exact ⟨rfl, .inl rfl⟩ | exact ⟨rfl, .inr rfl⟩) : XSs S (.AugAssign (.Name n p') op e pos :: rest) env D := by
  obtain ⟨t, pt, et⟩ := he
  have hi : i < env.length := (List.getElem?_eq_some_iff.mp h).1
  refine xss_of (fun W => ⟨tAug i t (ipI f), fun X C => ps_aug (by rw [C.dyn.N]; exact hN) (by rw [C.dyn.N]; exact hs.1) (hs.loc C.dyn) (pt X C.dyn) (hp X C.dyn) (.inl (C.fn _)), fun u ru B w0 w σ D' sat l => ?_⟩) k
  obtain ⟨v, e1, r⟩ := sat.get h
  cases r
  refine ⟨_, e1, ?_⟩
  refine et B w0 w σ sat _ fun v w1 g1 r1 => ?_
  cases r1
  exact ⟨m, j, rfl, rfl, ru B w0 w1 _ D' ((sat.mono g1).dat hi (.int _)) l⟩
theorem xss_addI (i : Nat) {m : Int} (hN : S.N.Nodup) (he : XE S e env (.int j)) (k : XSs S rest (env.set i (.dat (.int (m + j)))) D) (h : env[i]? = some (.dat (.int m)) := by rfl) (hs : Slot S i n := by first | exact ⟨rfl, .inl rfl⟩ | exact ⟨rfl, .inr rfl⟩) : XSs S (.AugAssign (.Name n p') .Add e pos :: rest) env D :=
  xss_augI i (f := fun i j => i + j) (fun _ _ => ip_add) hN he k h hs
theorem xss_subI (i : Nat) {m : Int} (hN : S.N.Nodup) (he : XE S e env (.int j)) (k : XSs S rest (env.set i (.dat (.int (m - j)))) D) (h : env[i]? = some (.dat (.int m)) := by rfl) (hs : Slot S i n := by first | exact ⟨rfl, .inl rfl⟩ | exact ⟨rfl, .inr rfl⟩) : XSs S (.AugAssign (.Name n p') .Sub e pos :: rest) env D :=
  xss_augI i (f := fun i j => i - j) (fun _ _ => ip_sub) hN he k h hs
end
end Fw


namespace Fw
open PySem PySem.Spec L2 Emb
/-! ## loops -/
/-- a turn's end: on with s, out of the def with r, out of the loop with s -/
inductive Fr (S R : Type) where
  | nx (s : S)
  | rt (r : R)
  | bk (s : S)
def forF {S R α : Type} (body : S → α → Fr S R) : List α → S → Fr S R
  | [], s => .nx s
  | x :: xs, s => match body s x with
    | .nx s' => forF body xs s'
    | .rt r => .rt r
    | .bk s' => .bk s'
section
variable {S R α : Type} {body : S → α → Fr S R}
theorem forF_app : ∀ (l1 l2 : List α) (s : S), forF body (l1 ++ l2) s = match forF body l1 s with
    | .nx s' => forF body l2 s'
    | .rt r => .rt r
    | .bk s' => .bk s'
  | [], _, _ => rfl
  | x :: l1, l2, s => by
    show (match body s x with | .nx s' => forF body (l1 ++ l2) s' | .rt r => .rt r | .bk s' => .bk s') = match (match body s x with | .nx s' => forF body l1 s' | .rt r => .rt r | .bk s' => .bk s') with
      | .nx s' => forF body l2 s'
      | .rt r => .rt r
      | .bk s' => .bk s'
    cases body s x with
    | nx s' => exact forF_app l1 l2 s'
    | rt r => rfl
    | bk s' => rfl
theorem forF_one (x : α) (s : S) : forF body [x] s = body s x := by
  show (match body s x with | .nx s' => forF body [] s' | .rt r => .rt r | .bk s' => .bk s') = body s x
  cases body s x <;> rfl
theorem take_one {xs : List α} {i : Nat} {x : α} (h : xs[i]? = some x) : xs.take (i + 1) = xs.take i ++ [x] := by
  rw [List.take_succ, h]; rfl
theorem forF_step {xs : List α} {i : Nat} {x : α} {s s0 : S} (h : xs[i]? = some x) (hi : forF body (xs.take i) s0 = .nx s) : forF body (xs.take (i + 1)) s0 = body s x := by
  rw [take_one h, forF_app, hi]
  exact forF_one x s
theorem split_at {xs : List α} {i : Nat} {x : α} (h : xs[i]? = some x) : xs = xs.take (i + 1) ++ xs.drop (i + 1) := (List.take_append_drop _ _).symm
theorem forF_rt {xs : List α} {i : Nat} {x : α} {s s0 : S} {r : R} (h : xs[i]? = some x) (hi : forF body (xs.take i) s0 = .nx s) (hb : body s x = .rt r) : forF body xs s0 = .rt r := by
  rw [split_at h, forF_app, forF_step h hi, hb]
theorem forF_bk {xs : List α} {i : Nat} {x : α} {s s0 s' : S} (h : xs[i]? = some x) (hi : forF body (xs.take i) s0 = .nx s) (hb : body s x = .bk s') : forF body xs s0 = .bk s' := by
  rw [split_at h, forF_app, forF_step h hi, hb]
theorem forF_fold (f : S → α → S) : ∀ (xs : List α) (s : S), forF (R := R) (fun s x => .nx (f s x)) xs s = .nx (xs.foldl f s)
  | [], _ => rfl
  | x :: xs, s => forF_fold f xs (f s x)
end
theorem Sat.raise {K : PySem.W.Frag} {B : List Addr} {b : Bs} {w : Wl} {σ : St} {env : Evm} (h : Sat K B b w σ env) : Sat K B { b with s := w.s } w σ env :=
  ⟨⟨h.grow.h, Ex.refl _, h.grow.own, h.grow.dom⟩, h.len, h.sl⟩
theorem Sat.lower {K : PySem.W.Frag} {B : List Addr} {b : Bs} {s1 : Hp} {w : Wl} {σ : St} {env : Evm} (h : Sat K B { b with s := s1 } w σ env) (e : Ex b.s s1) : Sat K B b w σ env :=
  ⟨⟨h.grow.h, e.trans h.grow.s, h.grow.own, h.grow.dom⟩, h.len, h.sl⟩
section
variable {S : Sc} {env env' : Evm} {D : AE} {st : Stmt} {sts rest : List Stmt} {tg iter e a b c o : Expr} {es : List Expr} {d x y z : PyData} {pos p p' : Pos} {i j : Int} {s s' n : Str} {ds zs : List PyData} {k : Bool} {ts : List Nat} {F : PyData → Evm → Evm} {P : Evm → PyData → Prop}
theorem xs_for {α S' R : Type} (e : α → PyData) {xs : List α} (en : S' → Evm) (body : S' → α → Fr S' R) (s0 : S') (hi : XI S tg iter env (xs.map e)) (hc : S.calm = true) (hg : XG S tg ts F P) (h0 : Le env (en s0))
    (turn : ∀ i x s, xs[i]? = some x → forF body (xs.take i) s0 = .nx s → P (en s) (e x) ∧
      XSs S sts (F (e x) (en s)) { nx := fun ev => ∃ s', body s x = .nx s' ∧ Le ev (en s'), ct := fun ev => ∃ s', body s x = .nx s' ∧ Le ev (en s'), bk := fun ev => ∃ s', body s x = .bk s' ∧ Le ev (en s'), rt := D.rt, ex := D.ex })
    (done : ∀ s, forF body xs s0 = .nx s → D.nx (en s)) (brk : ∀ s, forF body xs s0 = .bk s → D.nx (en s))
    (hs : ∀ env x, foldedSetIterable iter env x = pure x := by intro _ _; rfl) : XS S (.For tg iter sts [] pos) env D := fun W => by
  obtain ⟨wi, pi, ei⟩ := hi
  obtain ⟨g, pg, eg⟩ := hg
  let I := { q : Nat × α × S' // xs[q.1]? = some q.2.1 ∧ forF body (xs.take q.1) s0 = .nx q.2.2 }
  let tb : TS := fun D σ H => ∃ q : I, (Classical.choose ((turn q.1.1 q.1.2.1 q.1.2.2 q.2.1 q.2.2).2 W)) D σ H
  refine ⟨tFor wi g tb, fun X C => ps_for C.own (C.dyn.calm.trans hc) (pi X C.dyn) (pg X C.dyn) (pss_sup fun q => (Classical.choose_spec ((turn q.1.1 q.1.2.1 q.1.2.2 q.2.1 q.2.2).2 W)).1 X C) (hs _), ?_⟩
  intro B w0 w σ D' sat l
  refine ei B w0 w σ sat _ fun J w1 g1 src => ?_
  have sat1 := ((sat.mono g1).weak h0).raise
  have ex1 : Ex w0.s w1.s := (sat.mono g1).grow.s
  refine ⟨fun i m σ H => i + m = xs.length ∧ ∃ (w : Wl) (s : S'), w.h = H ∧ Sat S.K B { w0 with s := w1.s } w σ (en s) ∧ forF body (xs.take i) s0 = .nx s, ⟨xs.length, by omega, w1, s0, rfl, sat1, rfl⟩, ?_⟩
  rintro i m σ H ⟨him, w2, s, rfl, sat2, hist⟩
  have hsrc := src i w2 sat2.grow.s
  rw [List.length_map] at hsrc
  by_cases hlt : i < xs.length
  · right
    obtain ⟨hgo, hy⟩ := hsrc.1 hlt
    refine ⟨hgo, fun σ' H' => i + 1 + (m - 1) = xs.length ∧ ∃ (w : Wl) (s : S'), w.h = H' ∧ Sat S.K B { w0 with s := w1.s } w σ' (en s) ∧ forF body (xs.take (i + 1)) s0 = .nx s, fun σ' H' h => ⟨m - 1, by omega, h⟩, ?_⟩
    intro x H' hx
    obtain ⟨w3, d, rfl, g3, hd, rd⟩ := hy x H' hx
    have hxi : xs[i]? = some xs[i] := List.getElem?_eq_getElem hlt
    rw [List.getElem?_map, hxi] at hd
    injection hd with hd
    subst hd
    obtain ⟨hP, hb⟩ := turn i xs[i] s hxi hist
    refine eg _ _ hP B _ w3 σ x (sat2.mono g3) rd _ fun σ' sat3 _ _ => ?_
    refine ⟨⟨(i, xs[i], s), hxi, hist⟩, ?_⟩
    refine (Classical.choose_spec ((turn i xs[i] s hxi hist).2 W)).2 B _ w3 σ' _ sat3 ⟨?_, ?_, ?_, ?_, ?_⟩
    · rintro ev w4 σ4 ⟨s', hb', le⟩ sat4
      exact ⟨by omega, w4, s', rfl, sat4.weak le, (forF_step hxi hist).trans hb'⟩
    · rintro ev w4 σ4 ⟨s', hb', le⟩ sat4
      exact l.nx _ _ _ (brk s' (forF_bk hxi hist hb')) ((sat4.weak le).lower ex1)
    · rintro ev w4 σ4 ⟨s', hb', le⟩ sat4
      exact ⟨by omega, w4, s', rfl, sat4.weak le, (forF_step hxi hist).trans hb'⟩
    · intro ev d v w4 σ4 h sat4 r
      exact l.rt ev d v w4 σ4 h (sat4.lower ex1) r
    · intro ev e cls d w4 σ4 h sat4 r
      exact l.ex ev e cls d w4 σ4 h (sat4.lower ex1) r
  · left
    have hm0 : i = xs.length := by omega
    subst hm0
    rw [List.take_length] at hist
    exact ⟨hsrc.2 (Nat.le_refl _), l.nx _ _ _ (done s hist) (sat2.lower ex1)⟩
/-- a loop that always runs to its end -/
theorem xs_forS {α S' : Type} (e : α → PyData) {xs : List α} (en : S' → Evm) (f : S' → α → S') (s0 : S') (hi : XI S tg iter env (xs.map e)) (hc : S.calm = true) (hg : XG S tg ts F P) (h0 : Le env (en s0))
    (turn : ∀ i x s, xs[i]? = some x → s = (xs.take i).foldl f s0 → P (en s) (e x) ∧
      XSs S sts (F (e x) (en s)) { nx := fun ev => Le ev (en (f s x)), ct := fun ev => Le ev (en (f s x)), rt := D.rt, ex := D.ex })
    (done : D.nx (en (xs.foldl f s0))) (hs : ∀ env x, foldedSetIterable iter env x = pure x := by intro _ _; rfl) : XS S (.For tg iter sts [] pos) env D := by
  refine xs_for (R := Unit) e en (fun s x => .nx (f s x)) s0 hi hc hg h0 (fun i x s hx hist => ?_) (fun s h => ?_) (fun s h => ?_) hs
  · rw [forF_fold] at hist
    injection hist with hist
    obtain ⟨h1, h2⟩ := turn i x s hx hist.symm
    refine ⟨h1, fun W => ?_⟩
    obtain ⟨t, pt, rt⟩ := h2 W
    refine ⟨t, pt, fun B w0 w σ D' sat l => rt B w0 w σ D' sat ⟨fun ev w σ h s => l.nx ev w σ ⟨_, rfl, h⟩ s, fun ev w σ h s => h.elim, fun ev w σ h s => l.ct ev w σ ⟨_, rfl, h⟩ s, l.rt, l.ex⟩⟩
  · rw [forF_fold] at h
    injection h with h
    rw [← h]; exact done
  · rw [forF_fold] at h; cases h
end
/-! ## defs -/
/-- called with data as R says, it ends as R says -/
def SpD (G : Gc) (R : List PyData → Except Exn PyData → Prop) : Sp := fun vs H Q E => ∃ (w : Wl) (ds : List PyData) (r : Except Exn PyData), w.h = H ∧ RpAll G.K w.s vs ds ∧ R ds r ∧
  (∀ d, r = .ok d → ∀ v w', Grow [] w w' → Rp G.K w'.s v d → Q v w'.h) ∧ (∀ e, r = .error e → ∀ cls dd w', Grow [] w w' → ExAt G w' e cls dd → E cls dd w'.h)
structure DefD (G : Gc) (x : Str) (k : Nat) (ps : List Str) (R : List PyData → Except Exn PyData → Prop) : Prop where
  ex : ∃ f fd, FnOk G.P G.w G.K G.mg G.base (L2.CX G.P G.w) k f fd ps (SpD G R) ∧ G.mg x = some (.ref f) ∧ PySem.W.keepIn G.K (.ref f) = true ∧ Binds G.K fd ps []
theorem def_body {G : Gc} {x qual : Str} {st : Stmt} {f : Addr} {fd : FuncData} {N ps : List Str} {k : Nat} {R : List PyData → Except Exn PyData → Prop} (F : Fun G.K x qual st f fd) (Z : FnScope N ps (defScope st))
    (len : ∀ ds r, R ds r → ds.length = ps.length) (hps : ps.length ≤ N.length)
    (body : ∀ ds r, R ds r → XSs ⟨G, N, defScope st, true, k⟩ (defBody st) (ds.map .dat ++ List.replicate (N.length - ps.length) .junk) { nx := fun _ => r = .ok .none, rt := fun _ d => r = .ok d, ex := fun _ e => r = .error e }) :
    FnOk G.P G.w G.K G.mg G.base (L2.CX G.P G.w) (k + 1) f fd ps (SpD G R) := by
  refine F.okX Z (fun vs H Q E h => ?_) (fun cdv A outer s H vs Q E hr h => ?_)
  · obtain ⟨w, ds, r, rfl, r1, r2, _⟩ := h
    rw [r1.length]; exact len _ _ r2
  · obtain ⟨w, ds, r, rfl, r1, r2, k1, k2⟩ := h
    obtain ⟨t, pt, rt⟩ := body ds r r2 (fun cls d _ H => E cls d H)
    refine ⟨t, pt _ ⟨⟨rfl, rfl, rfl, rfl, rfl, rfl, rfl, rfl, fun _ => hr, hr.units⟩, takes_of rfl rfl rfl rfl, passes_of rfl, fun _ => rfl⟩, ?_⟩
    have hl := len ds r r2
    have hv := r1.length
    refine rt [] ⟨w.h, w.s, w.s⟩ w _ _ ⟨⟨fun _ _ _ e => e, Ex.refl _, fun _ _ e => e, fun _ e => e⟩, ?_, fun _ => [], fun i => ?_, fun _ _ _ _ h => nomatch h⟩ ⟨?_, ?_, ?_, ?_, ?_⟩
    · show (L2.start N vs).length = _
      unfold L2.start
      rw [List.length_append, List.length_append, List.length_map, List.length_map, List.length_replicate, List.length_replicate, hv, hl]
    · show SlOk G.K [] _ w ((L2.start N vs).getD i none) _ []
      unfold L2.start
      rw [List.getD_eq_getElem?_getD, List.getD_eq_getElem?_getD]
      by_cases c : i < ds.length
      · rw [List.getElem?_append_left (by rw [List.length_map, hv]; exact c), List.getElem?_append_left (by rw [List.length_map]; exact c), List.getElem?_map, List.getElem?_map]
        obtain ⟨v, e1, e2⟩ := r1.get (List.getElem?_eq_getElem c)
        rw [e1, List.getElem?_eq_getElem c]
        exact ⟨rfl, v, rfl, e2⟩
      · rw [List.getElem?_append_right (by rw [List.length_map, hv]; omega), List.getElem?_append_right (by rw [List.length_map]; omega)]
        generalize ((List.replicate (N.length - vs.length) (none : Option V))[i - (vs.map some).length]?).getD none = x
        have : ∀ (m : Nat) (j : Nat), ((List.replicate m Sl.junk)[j]?).getD .junk = .junk := fun m j => by
          rw [List.getElem?_replicate]
          by_cases c2 : j < m
          · rw [if_pos c2]; rfl
          · rw [if_neg c2]; rfl
        rw [this]
        exact (show ([] : List Addr) = [] from rfl)
    · intro ev w2 σ h sat
      exact k1 .none h .non w2 ⟨sat.grow.h, sat.grow.s, sat.grow.own, sat.grow.dom⟩ .non
    · intro ev w2 σ h sat; exact h.elim
    · intro ev w2 σ h sat; exact h.elim
    · intro ev d v w2 σ h sat r
      exact k1 d h v w2 ⟨sat.grow.h, sat.grow.s, sat.grow.own, sat.grow.dom⟩ r
    · intro ev e cls dd w2 σ h sat r
      exact k2 e h cls dd w2 ⟨sat.grow.h, sat.grow.s, sat.grow.own, sat.grow.dom⟩ r
section
variable {S : Sc} {env env' : Evm} {D : AE} {st : Stmt} {sts rest : List Stmt} {e a b c o : Expr} {es : List Expr} {d x y z : PyData} {pos p p' : Pos} {n m : Str} {ds : List PyData} {ps : List Str} {lv : Nat} {R : List PyData → Except Exn PyData → Prop}
/-- f(..) where it raises nothing -/
theorem xe_call (T : DefD S.toGc n lv ps R) (hk : lv ≤ S.lvl) (hc : S.calm = true) (hR : R ds (.ok d)) (ha : XA S (a :: es) env ds) (hg : Glo S n := by rfl) (hdb : (n == ("__debug__" : Str)) = false := by decide)
    (he : ∀ env, starEach (a :: es) env = (false, eval a env) :: starEach es env := by intro _; rfl) (hpl : ∀ env, (backTo pos (starEach es env)).any (·.1) = false := by intro _; rfl) : XE S (.Call (.Name n p) (a :: es) [] pos) env d := by
  obtain ⟨f, fd, F, hm, hkp, hb⟩ := T.ex
  obtain ⟨t, pt, et⟩ := ha
  refine ⟨tCall (SpD S.toGc R) [] E0 t, fun X C => ?_, fun B w0 w σ s Q q => et B w0 w σ s _ fun vs w1 g1 r1 => ⟨w1, ds, _, rfl, by rw [List.append_nil]; exact r1, hR, fun d' e v w' g r => ?_, fun e he => by cases he⟩⟩
  · have F' : FnOk X.prog X.w X.K X.mg X.base (L2.CX X.prog X.w) lv f fd ps (SpD S.toGc R) := by rw [C.P, C.w, C.K, C.mg, C.base]; exact F
    exact pe_call F' ((C.room hc).mono hk) (hg.gl C) (by rw [C.mg]; exact hm) (by rw [C.K]; exact hkp) (by rw [C.K]; exact hb) .nil passL (pt X C) hdb (he _) (hpl _)
  · injection e with e
    subst e
    exact q v w' (g1.trans g) r
end
end Fw


namespace Fw
open PySem PySem.Spec L2 Emb
/-! ## what the printed proofs use -/
def Fr.go {S R : Type} (f : Fr S R) (k : S → R) : R := match f with
  | .nx s => k s
  | .rt r => r
  | .bk s => k s
theorem go_rt {S R : Type} {f : Fr S R} {k : S → R} {r : R} (h : f = .rt r) : f.go k = r := by rw [h]; rfl
theorem go_nx {S R : Type} {f : Fr S R} {k : S → R} {s : S} (h : f = .nx s) : f.go k = k s := by rw [h]; rfl
theorem go_bk {S R : Type} {f : Fr S R} {k : S → R} {s : S} (h : f = .bk s) : f.go k = k s := by rw [h]; rfl
def exE {β : Type} [Emb β] : Except Exn β → Except Exn PyData
  | .ok b => .ok (emb b)
  | .error e => .error e
def getI {α : Type} [Inhabited α] (xs : List α) (i : Int) : α := (atI xs i).getD default
theorem atI_ok {α : Type} [Inhabited α] {xs : List α} {i : Int} (h : -(xs.length : Int) ≤ i ∧ i < xs.length) : atI xs i = some (getI xs i) := by
  unfold getI
  cases e : atI xs i with
  | some x => rfl
  | none =>
    exfalso
    unfold atI ixN at e
    by_cases c : 0 ≤ i
    · rw [if_pos c, if_pos h.2] at e
      have e : xs[i.toNat]? = none := e
      rw [List.getElem?_eq_none_iff] at e
      omega
    · rw [if_neg c, if_pos h.1] at e
      have e : xs[(i + xs.length).toNat]? = none := e
      rw [List.getElem?_eq_none_iff] at e
      omega
theorem atI_map {α β : Type} (f : α → β) (xs : List α) (i : Int) : atI (xs.map f) i = (atI xs i).map f := by
  unfold atI
  rw [List.length_map]
  cases ixN xs.length i with
  | none => rfl
  | some k => exact List.getElem?_map ..
theorem getI_nat {α : Type} [Inhabited α] (xs : List α) (k : Nat) (h : k < xs.length) : getI xs (k : Int) = xs[k] := by
  unfold getI
  rw [atI_nat (List.getElem?_eq_getElem h)]
  rfl
theorem getI_pos {α : Type} [Inhabited α] (xs : List α) {i : Int} (h0 : 0 ≤ i) (h : i < xs.length) : getI xs i = xs[i.toNat]'(by omega) := by
  have e : i = (i.toNat : Int) := (Int.toNat_of_nonneg h0).symm
  conv => lhs; rw [e]
  exact getI_nat xs _ (by omega)
theorem getI_mem {α : Type} [Inhabited α] {xs : List α} {i : Int} (h : -(xs.length : Int) ≤ i ∧ i < xs.length) : getI xs i ∈ xs := by
  have e := atI_ok h
  unfold atI at e
  cases c : ixN xs.length i with
  | none => rw [c] at e; cases e
  | some k => rw [c] at e; exact List.mem_of_getElem? e
def getS (s : Str) (i : Int) : Nat := (atI s.cps.toList i).getD 0
theorem atS_ok {s : Str} {i : Int} (h : -(s.length : Int) ≤ i ∧ i < s.length) : atI s.cps.toList i = some (getS s i) := by
  have e := atI_ok (xs := s.cps.toList) (i := i) h
  rw [e]
  unfold getS getI at *
  rw [e]; rfl
def zipT {α β : Type} (xs : List α) (ys : List β) : List (T2 α β) := xs.zipWith T2.mk ys
def enumT {α : Type} (xs : List α) : List (T2 Int α) := (List.range xs.length).zipWith (fun (k : Nat) x => T2.mk (k : Int) x) xs
theorem zipT_emb {α β : Type} [Emb α] [Emb β] (xs : List α) (ys : List β) : (xs.map emb).zipWith (fun x y => PyData.tuple [x, y]) (ys.map emb) = (zipT xs ys).map emb := by
  unfold zipT
  rw [List.map_zipWith, List.zipWith_map]
  rfl
theorem enumT_emb {α : Type} [Emb α] (xs : List α) : enumD (xs.map emb) = (enumT xs).map emb := by
  unfold enumT enumD
  rw [List.map_zipWith, List.length_map, List.zipWith_map_right]
  rfl
theorem zipT_len {α β : Type} (xs : List α) (ys : List β) : (zipT xs ys).length = min xs.length ys.length := by unfold zipT; exact List.length_zipWith
theorem enumT_len {α : Type} (xs : List α) : (enumT xs).length = xs.length := by unfold enumT; rw [List.length_zipWith, List.length_range, Nat.min_self]
theorem cut_map {α β : Type} (f : α → β) (xs : List α) (l h : Option Int) : cut (xs.map f) l h = (cut xs l h).map f := by
  unfold cut
  rw [List.length_map, List.map_take, List.map_drop]
theorem cut_len {α : Type} (xs : List α) (l h : Option Int) : (cut xs l h).length ≤ xs.length := by
  unfold cut
  rw [List.length_take, List.length_drop]
  omega
section
variable {S : Sc} {env env' : Evm} {D : AE} {st : Stmt} {sts rest : List Stmt} {tg iter e a b c o : Expr} {es : List Expr} {d x y z : PyData} {pos p p' : Pos} {i j : Int} {s s' n : Str} {ds zs : List PyData} {k : Bool} {ts : List Nat} {F : PyData → Evm → Evm} {P : Evm → PyData → Prop}
variable {α β : Type} [Emb α] [Emb β]
theorem xe_ixI [Inhabited α] {xs : List α} (h : -(xs.length : Int) ≤ i ∧ i < xs.length) (ha : XE S a env (emb xs)) (hb : XE S b env (.int i)) (hs : PlainIx b := by intro _ _; rfl) : XE S (.Subscript a b pos) env (emb (getI xs i)) :=
  xe_ixL (by rw [atI_map, atI_ok h]; rfl) ha hb hs
theorem xe_ixR {ns : List Int} (h : -(ns.length : Int) ≤ i ∧ i < ns.length) (ha : XE S a env (scrD ns)) (hb : XE S b env (.int i)) (hs : PlainIx b := by intro _ _; rfl) : XE S (.Subscript a b pos) env (.int (getI ns i)) :=
  xe_ixScr (atI_ok h) ha hb hs
theorem xe_ixC (hl : s.length ≤ sizeLine) (h : -(s.length : Int) ≤ i ∧ i < s.length) (ha : XE S a env (.str s)) (hb : XE S b env (.int i)) (hs : PlainIx b := by intro _ _; rfl) : XE S (.Subscript a b pos) env (.str (sg (getS s i))) :=
  xe_ixS hl (atS_ok h) ha hb hs
theorem xn_slI {xs : List α} {lo hi : Option Expr} {l h : Option Int} {p2 : Pos} (ha : XE S a env (emb xs)) (hl : XO S lo env l) (hh : XO S hi env h) : XN S (.Subscript a (.Slice lo hi none p2) pos) env ((cut xs l h).map emb) := by
  rw [← cut_map]; exact xn_slL ha hl hh
theorem xi_zipT {xs : List α} {ys : List β} {elts : List Expr} {kk : Nat} {tpos : Pos} (hm : S.mg "zip" = none) (ha : XE S a env (emb xs)) (hb : XE S b env (emb ys)) (hg : Glo S "zip" := by rfl)
    (hs : ∀ env, starEach [a, b] env = (false, eval a env) :: starEach [b] env := by intro _; rfl) (hs2 : ∀ env, starEach [b] env = (false, eval b env) :: starEach [] env := by intro _; rfl) (hpl : ∀ env, (backTo pos (starEach [b] env)).any (·.1) = false := by intro _; rfl) :
    XI S (.Tuple elts kk tpos) (.Call (.Name "zip" p) [a, b] [] pos) env ((zipT xs ys).map emb) := by
  rw [← zipT_emb]; exact xi_zip hm ha hb hg hs hs2 hpl
theorem xi_enumT {xs : List α} {elts : List Expr} {kk : Nat} {tpos : Pos} (hm : S.mg "enumerate" = none) (ha : XE S a env (emb xs)) (hg : Glo S "enumerate" := by rfl) (hs : ∀ env, starEach [a] env = (false, eval a env) :: starEach [] env := by intro _; rfl) :
    XI S (.Tuple elts kk tpos) (.Call (.Name "enumerate" p) [a] [] pos) env ((enumT xs).map emb) := by
  rw [← enumT_emb]; exact xi_enum hm ha hg hs
theorem xi_revT {xs : List α} (hm : S.mg "reversed" = none) (ha : XE S a env (emb xs)) (hg : Glo S "reversed" := by rfl) (hs : ∀ env, starEach [a] env = (false, eval a env) :: starEach [] env := by intro _; rfl) :
    XI S tg (.Call (.Name "reversed" p) [a] [] pos) env (xs.reverse.map emb) := by
  rw [List.map_reverse]; exact xi_rev hm ha hg hs
/-- name = e, its value v by a name -/
theorem xss_setE {v w : α} (hv : v = w) (i : Nat) (hN : S.N.Nodup) (he : XE S e env (emb w)) (k : XSs S rest (env.set i (.dat (emb v))) D) (hi : i < env.length := by exact Nat.le_of_ble_eq_true rfl) (hs : Slot S i n := by first | exact ⟨rfl, .inl rfl⟩ | exact ⟨rfl, .inr rfl⟩) (hw : ∀ env, swapsWith e (some (.Name n p')) pos.line env = pure false := by intro _; rfl) :
    XSs S (.Assign [.Name n p'] e pos :: rest) env D := by
  subst hv; exact xss_set i hN he k hi hs hw
theorem xss_setNE {v w : List α} (hv : v = w) (i : Nat) (hN : S.N.Nodup) (he : XN S e env (w.map emb)) (k : XSs S rest (env.set i (.own (.lst (v.map emb)))) D) (hi : i < env.length := by exact Nat.le_of_ble_eq_true rfl) (hs : Slot S i n := by first | exact ⟨rfl, .inl rfl⟩ | exact ⟨rfl, .inr rfl⟩) (hw : ∀ env, swapsWith e (some (.Name n p')) pos.line env = pure false := by intro _; rfl) :
    XSs S (.Assign [.Name n p'] e pos :: rest) env D := by
  subst hv; exact xss_setN i hN he k hi hs hw
theorem xss_setLcE {elt : Expr} {ifs : List Expr} {scope : Scope} {pos' : Pos} {v w : List α} (hv : v = w) (i : Nat) (own : List (Str × Nat)) (h : XLc S elt tg iter ifs scope own env (w.map emb)) (hc : S.calm = true) (hN : S.N.Nodup) (k : XSs S rest (env.set i (.own (.lst (v.map emb)))) D) (hi : i < env.length := by exact Nat.le_of_ble_eq_true rfl)
    (hk : S.sc.kind = .function := by rfl) (hn : S.N[i]? = some n := by rfl) (hnl : S.sc.names.lookup n = some .local := by rfl) (ok : blkC S.N S.sc scope own = true := by first | (dsimp only; decide +kernel) | decide +kernel)
    (hl : (p'.line == pos'.line) = true := by rfl) (ha : (scope.names.any fun (m, k) => m == n && (k == .local || k == .cell)) = false := by decide +kernel) (hs : ∀ env x, foldedSetIterable iter env x = pure x := by intro _ _; rfl) :
    XSs S (.Assign [.Name n p'] (.ListComp elt [⟨tg, iter, ifs, 0⟩] scope pos') pos :: rest) env D := by
  subst hv; exact xss_setLc i own h hc hN k hi hk hn hnl ok hl ha hs
theorem xss_addE {v m : Int} (hv : v = m + j) (i : Nat) (hN : S.N.Nodup) (he : XE S e env (.int j)) (k : XSs S rest (env.set i (.dat (.int v))) D) (h : env[i]? = some (.dat (.int m)) := by rfl) (hs : Slot S i n := by first | exact ⟨rfl, .inl rfl⟩ | exact ⟨rfl, .inr rfl⟩) : XSs S (.AugAssign (.Name n p') .Add e pos :: rest) env D := by
  subst hv; exact xss_addI i hN he k h hs
theorem xss_subE {v m : Int} (hv : v = m - j) (i : Nat) (hN : S.N.Nodup) (he : XE S e env (.int j)) (k : XSs S rest (env.set i (.dat (.int v))) D) (h : env[i]? = some (.dat (.int m)) := by rfl) (hs : Slot S i n := by first | exact ⟨rfl, .inl rfl⟩ | exact ⟨rfl, .inr rfl⟩) : XSs S (.AugAssign (.Name n p') .Sub e pos :: rest) env D := by
  subst hv; exact xss_subI i hN he k h hs
theorem xss_appE {apos : Pos} {v xs : List α} {x : α} (hv : v = xs ++ [x]) (i : Nat) (hl : xs.length < sizeLine) (he : XE S e env (emb x)) (k : XSs S rest (env.set i (.own (.lst (v.map emb)))) D) (h : env[i]? = some (.own (.lst (xs.map emb))) := by rfl) (hn : S.N[i]? = some n := by rfl)
    (hvv : Vis S.sc n := by first | exact Or.inl rfl | exact Or.inr (Or.inl rfl) | exact Or.inr (Or.inr rfl)) (h1 : (n == ("__debug__" : Str)) = false := by decide) (h2 : (n == ("__classdict__" : Str)) = false := by decide)
    (hline : (apos.endLine == p.line) = true := by rfl) (hs : ∀ env, starEach (e :: []) env = (false, eval e env) :: starEach [] env := by intro _; rfl)
    (hbase : ∀ env, attributeBase (.Name n p') "append" env (eval (.Name n p') env) = eval (.Name n p') env := by intro _; rfl)
    (hfew : ∀ env, ((backTo p (starEach (e :: []) env)).all (fun x => !x.1) && (backToKw p (keywordEach [] env)).all (fun x => x.1.isSome)
      && decide ((e :: []).length + ([] : List Keyword).length + (if ([] : List Keyword).isEmpty then 0 else 1) < 30)) = true := by intro _; rfl)
    (hsw : ∀ env, swapsWith (.Call (.Attribute (.Name n p') "append" apos) [e] [] p) none pos.line env = pure false := by intro _; rfl) :
    XSs S (.Expr (.Call (.Attribute (.Name n p') "append" apos) [e] [] p) pos :: rest) env D := by
  subst hv
  rw [List.map_append] at k
  exact xss_app i (by rw [List.length_map]; exact hl) he k h hn hvv h1 h2 hline hs hbase hfew hsw
/-! targets of statements -/
def XGC (S : Sc) (tg : Expr) (ts : List Nat) (F : PyData → Evm → Evm) (P : Evm → PyData → Prop) : Prop := ∃ g, (∀ W X, Ctx S W X → PG X tg g) ∧ ∀ env d, P env d → EvG S.K g ts env d (F d env)
theorem xgc_name (i : Nat) (hN : S.N.Nodup) (hs : Slot S i n := by first | exact ⟨rfl, .inl rfl⟩ | exact ⟨rfl, .inr rfl⟩) : XGC S (.Name n pos) [i] (fun d env => env.set i (.dat d)) (fun env _ => i < env.length) :=
  ⟨gName i, fun W X C => pg_name (by rw [C.dyn.N]; exact hN) (by rw [C.dyn.N]; exact hs.1) (hs.loc C.dyn) (.inl (C.fn _)), fun env d hi => evg_name hi⟩
theorem xgc_tup2 {n2 : Str} (i j : Nat) {k : Nat} (hc : S.calm = true) (hN : S.N.Nodup) {p1 p2 : Pos} (hs : Slot S i n := by first | exact ⟨rfl, .inl rfl⟩ | exact ⟨rfl, .inr rfl⟩) (hs2 : Slot S j n2 := by first | exact ⟨rfl, .inl rfl⟩ | exact ⟨rfl, .inr rfl⟩) :
    XGC S (.Tuple [.Name n p1, .Name n2 p2] k pos) [i, j] (fun d env => putL [i, j] (itemsD d) env) (fun env d => i < env.length ∧ j < env.length ∧ ∃ a b, d = .tuple [a, b]) := by
  have n1 : ∀ W X, Ctx S W X → PG X (.Name n p1) (gName i) := fun W X C => pg_name (by rw [C.dyn.N]; exact hN) (by rw [C.dyn.N]; exact hs.1) (hs.loc C.dyn) (.inl (C.fn _))
  have n2 : ∀ W X, Ctx S W X → PG X (.Name n2 p2) (gName j) := fun W X C => pg_name (by rw [C.dyn.N]; exact hN) (by rw [C.dyn.N]; exact hs2.1) (hs2.loc C.dyn) (.inl (C.fn _))
  refine ⟨gTup S.K 2 (gCons (gName i) (gCons (gName j) gNil)), fun W X C => by rw [← C.dyn.K]; exact pg_tup (C.dyn.calm.trans hc) (pgs_cons (n1 W X C) (pgs_cons (n2 W X C) pgs_nil)), ?_⟩
  rintro env d ⟨h1, h2, a, b, rfl⟩ B w0 w σ v s r Q q
  cases r with
  | tup hp t =>
    cases t with
    | cons r1 t => cases t with
      | cons r2 t =>
        cases t
        refine ⟨_, _, rfl, ex_sqT w.le hp, rfl, _, _, rfl, _, _, rfl, rfl, ?_⟩
        refine q _ ((s.dat h1 r1).dat (by rw [List.length_set]; exact h2) r2) (by rw [List.length_set, List.length_set]) fun m hm => ?_
        rw [List.getElem?_set_ne (fun e => hm (by rw [← e]; exact List.mem_cons_of_mem _ List.mem_cons_self)), List.getElem?_set_ne (fun e => hm (by rw [← e]; exact List.mem_cons_self))]
theorem xgc_tup3 {n2 n3 : Str} (i j l : Nat) {k : Nat} (hc : S.calm = true) (hN : S.N.Nodup) {p1 p2 p3 : Pos} (hs : Slot S i n := by first | exact ⟨rfl, .inl rfl⟩ | exact ⟨rfl, .inr rfl⟩) (hs2 : Slot S j n2 := by first | exact ⟨rfl, .inl rfl⟩ | exact ⟨rfl, .inr rfl⟩) (hs3 : Slot S l n3 := by first | exact ⟨rfl, .inl rfl⟩ | exact ⟨rfl, .inr rfl⟩) :
    XGC S (.Tuple [.Name n p1, .Name n2 p2, .Name n3 p3] k pos) [i, j, l] (fun d env => putL [i, j, l] (itemsD d) env) (fun env d => i < env.length ∧ j < env.length ∧ l < env.length ∧ ∃ a b c, d = .tuple [a, b, c]) := by
  have n1 : ∀ W X, Ctx S W X → PG X (.Name n p1) (gName i) := fun W X C => pg_name (by rw [C.dyn.N]; exact hN) (by rw [C.dyn.N]; exact hs.1) (hs.loc C.dyn) (.inl (C.fn _))
  have n2 : ∀ W X, Ctx S W X → PG X (.Name n2 p2) (gName j) := fun W X C => pg_name (by rw [C.dyn.N]; exact hN) (by rw [C.dyn.N]; exact hs2.1) (hs2.loc C.dyn) (.inl (C.fn _))
  have n3 : ∀ W X, Ctx S W X → PG X (.Name n3 p3) (gName l) := fun W X C => pg_name (by rw [C.dyn.N]; exact hN) (by rw [C.dyn.N]; exact hs3.1) (hs3.loc C.dyn) (.inl (C.fn _))
  refine ⟨gTup S.K 3 (gCons (gName i) (gCons (gName j) (gCons (gName l) gNil))), fun W X C => by rw [← C.dyn.K]; exact pg_tup (C.dyn.calm.trans hc) (pgs_cons (n1 W X C) (pgs_cons (n2 W X C) (pgs_cons (n3 W X C) pgs_nil))), ?_⟩
  rintro env d ⟨h1, h2, h3, a, b, c, rfl⟩ B w0 w σ v s r Q q
  cases r with
  | tup hp t =>
    cases t with
    | cons r1 t => cases t with
      | cons r2 t => cases t with
        | cons r3 t =>
          cases t
          refine ⟨_, _, rfl, ex_sqT w.le hp, rfl, _, _, rfl, _, _, rfl, _, _, rfl, rfl, ?_⟩
          refine q _ (((s.dat h1 r1).dat (by rw [List.length_set]; exact h2) r2).dat (by rw [List.length_set, List.length_set]; exact h3) r3) (by rw [List.length_set, List.length_set, List.length_set]) fun m hm => ?_
          rw [List.getElem?_set_ne (fun e => hm (by rw [← e]; simp)), List.getElem?_set_ne (fun e => hm (by rw [← e]; simp)), List.getElem?_set_ne (fun e => hm (by rw [← e]; simp))]
/-- (a, b) = e -/
theorem xss_setT (F' : Evm) (hg : XGC S tg ts F P) (he : XE S e env d) (hP : P env d) (hF : F d env = F') (k : XSs S rest F' D) (hs : ∀ env, swapsWithSole [tg] e pos.line env = pure false := by intro _; rfl) (hw : ∀ env, swappedStores [tg] e env = pure none := by intro _; rfl) (h1 : ∀ env, List.map (·.2) (assignEach [tg] env) = [assign tg env] := by intro _; rfl) :
    XSs S (.Assign [tg] e pos :: rest) env D := by
  obtain ⟨t, pt, et⟩ := he
  obtain ⟨g, pg, eg⟩ := hg
  subst hF
  refine xss_of (fun W => ⟨tAsg t g, fun X C => ps_asg (pt X C.dyn) (pg W X C) (hs _) (hw _) (h1 _), fun u ru B w0 w σ D' sat l => ?_⟩) k
  exact et B w0 w σ sat (fun x H1 => g x σ H1 (u D')) fun v w1 g1 r1 => eg _ _ hP B w0 w1 σ v (sat.mono g1) r1 (u D') fun σ' sat' _ _ => ru B w0 w1 σ' D' sat' l
end
section
variable {S : Sc} {env env' : Evm} {D : AE} {st : Stmt} {sts rest : List Stmt} {tg iter e a b c o : Expr} {d x y z : PyData} {pos p p' : Pos} {n : Str} {ts : List Nat} {F : PyData → Evm → Evm} {P : Evm → PyData → Prop}
theorem xss_for {α S' R : Type} (e : α → PyData) {xs : List α} (en : S' → Evm) (body : S' → α → Fr S' R) (s0 : S') (hi : XI S tg iter env (xs.map e)) (hc : S.calm = true) (hg : XGC S tg ts F P) (h0 : Le env (en s0))
    (turn : ∀ i x s, xs[i]? = some x → forF body (xs.take i) s0 = .nx s → P (en s) (e x) ∧
      XSs S sts (F (e x) (en s)) { nx := fun ev => ∃ s', body s x = .nx s' ∧ Le ev (en s'), ct := fun ev => ∃ s', body s x = .nx s' ∧ Le ev (en s'), bk := fun ev => ∃ s', body s x = .bk s' ∧ Le ev (en s'), rt := D.rt, ex := D.ex })
    (done : ∀ s, (forF body xs s0 = .nx s ∨ forF body xs s0 = .bk s) → XSs S rest (en s) D)
    (hs : ∀ env x, foldedSetIterable iter env x = pure x := by intro _ _; rfl) : XSs S (.For tg iter sts [] pos :: rest) env D := by
  refine xss_cut (fun e => ∃ s, (forF body xs s0 = .nx s ∨ forF body xs s0 = .bk s) ∧ e = en s) ?_ (fun ev ⟨s, h, e⟩ => by subst e; exact done s h)
  intro W
  obtain ⟨g, pg, eg⟩ := hg
  have key : ∀ X, Ctx S W X → PG X tg g := pg W
  -- as xs_for, the target under Ctx
  obtain ⟨wi, pi, ei⟩ := hi
  let I := { q : Nat × α × S' // xs[q.1]? = some q.2.1 ∧ forF body (xs.take q.1) s0 = .nx q.2.2 }
  let tb : TS := fun D σ H => ∃ q : I, (Classical.choose ((turn q.1.1 q.1.2.1 q.1.2.2 q.2.1 q.2.2).2 W)) D σ H
  refine ⟨tFor wi g tb, fun X C => ps_for C.own (C.dyn.calm.trans hc) (pi X C.dyn) (key X C) (pss_sup fun q => (Classical.choose_spec ((turn q.1.1 q.1.2.1 q.1.2.2 q.2.1 q.2.2).2 W)).1 X C) (hs _), ?_⟩
  intro B w0 w σ D' sat l
  refine ei B w0 w σ sat _ fun J w1 g1 src => ?_
  have sat1 := ((sat.mono g1).weak h0).raise
  have ex1 : Ex w0.s w1.s := (sat.mono g1).grow.s
  refine ⟨fun i m σ H => i + m = xs.length ∧ ∃ (w : Wl) (s : S'), w.h = H ∧ Sat S.K B { w0 with s := w1.s } w σ (en s) ∧ forF body (xs.take i) s0 = .nx s, ⟨xs.length, by omega, w1, s0, rfl, sat1, rfl⟩, ?_⟩
  rintro i m σ H ⟨him, w2, s, rfl, sat2, hist⟩
  have hsrc := src i w2 sat2.grow.s
  rw [List.length_map] at hsrc
  by_cases hlt : i < xs.length
  · right
    obtain ⟨hgo, hy⟩ := hsrc.1 hlt
    refine ⟨hgo, fun σ' H' => i + 1 + (m - 1) = xs.length ∧ ∃ (w : Wl) (s : S'), w.h = H' ∧ Sat S.K B { w0 with s := w1.s } w σ' (en s) ∧ forF body (xs.take (i + 1)) s0 = .nx s, fun σ' H' h => ⟨m - 1, by omega, h⟩, ?_⟩
    intro x H' hx
    obtain ⟨w3, d, rfl, g3, hd, rd⟩ := hy x H' hx
    have hxi : xs[i]? = some xs[i] := List.getElem?_eq_getElem hlt
    rw [List.getElem?_map, hxi] at hd
    injection hd with hd
    subst hd
    obtain ⟨hP, hb⟩ := turn i xs[i] s hxi hist
    refine eg _ _ hP B _ w3 σ x (sat2.mono g3) rd _ fun σ' sat3 _ _ => ?_
    refine ⟨⟨(i, xs[i], s), hxi, hist⟩, ?_⟩
    refine (Classical.choose_spec ((turn i xs[i] s hxi hist).2 W)).2 B _ w3 σ' _ sat3 ⟨?_, ?_, ?_, ?_, ?_⟩
    · rintro ev w4 σ4 ⟨s', hb', le⟩ sat4
      exact ⟨by omega, w4, s', rfl, sat4.weak le, (forF_step hxi hist).trans hb'⟩
    · rintro ev w4 σ4 ⟨s', hb', le⟩ sat4
      exact l.nx _ _ _ ⟨s', .inr (forF_bk hxi hist hb'), rfl⟩ ((sat4.weak le).lower ex1)
    · rintro ev w4 σ4 ⟨s', hb', le⟩ sat4
      exact ⟨by omega, w4, s', rfl, sat4.weak le, (forF_step hxi hist).trans hb'⟩
    · intro ev d v w4 σ4 h sat4 r
      exact l.rt ev d v w4 σ4 h (sat4.lower ex1) r
    · intro ev e cls d w4 σ4 h sat4 r
      exact l.ex ev e cls d w4 σ4 h (sat4.lower ex1) r
  · left
    have hm0 : i = xs.length := by omega
    subst hm0
    rw [List.take_length] at hist
    exact ⟨hsrc.2 (Nat.le_refl _), l.nx _ _ _ ⟨s, .inl hist, rfl⟩ (sat2.lower ex1)⟩
theorem xss_forS {α S' : Type} (e : α → PyData) {xs : List α} (en : S' → Evm) (f : S' → α → S') (s0 : S') {sF : S'} (hF : sF = xs.foldl f s0) (hi : XI S tg iter env (xs.map e)) (hc : S.calm = true) (hg : XGC S tg ts F P) (h0 : Le env (en s0))
    (turn : ∀ i x s, xs[i]? = some x → s = (xs.take i).foldl f s0 → P (en s) (e x) ∧
      XSs S sts (F (e x) (en s)) { nx := fun ev => Le ev (en (f s x)), ct := fun ev => Le ev (en (f s x)), rt := D.rt, ex := D.ex })
    (done : XSs S rest (en sF) D) (hs : ∀ env x, foldedSetIterable iter env x = pure x := by intro _ _; rfl) : XSs S (.For tg iter sts [] pos :: rest) env D := by
  subst hF
  refine xss_for (R := Unit) e en (fun s x => .nx (f s x)) s0 hi hc hg h0 (fun i x s hx hist => ?_) (fun s h => ?_) hs
  · rw [forF_fold] at hist
    injection hist with hist
    obtain ⟨h1, h2⟩ := turn i x s hx hist.symm
    refine ⟨h1, fun W => ?_⟩
    obtain ⟨t, pt, rt⟩ := h2 W
    exact ⟨t, pt, fun B w0 w σ D' sat l => rt B w0 w σ D' sat ⟨fun ev w σ h s => l.nx ev w σ ⟨_, rfl, h⟩ s, fun ev w σ h s => h.elim, fun ev w σ h s => l.ct ev w σ ⟨_, rfl, h⟩ s, l.rt, l.ex⟩⟩
  · rw [forF_fold] at h
    rcases h with h | h
    · injection h with h
      rw [← h]; exact done
    · cases h
end
def intS (s : Str) : Int := (PySem.intText? s).getD 0
theorem intS_of {s : Str} {n : Int} (h : PySem.intText? s = some n) : PySem.intText? s = some (intS s) := by unfold intS; rw [h]; rfl
theorem cutS_len (s : Str) (l h : Option Int) : (cutS s l h).length ≤ s.length := by
  have e : (cutS s l h).length = ((s.cps.toList.drop (HT.sIx s.length 0 l)).take (HT.sIx s.length s.length h - HT.sIx s.length 0 l)).length := by
    show (List.toArray _).size = _
    simp
  rw [e, List.length_take, List.length_drop]
  have : s.cps.toList.length = s.length := rfl
  omega
theorem Le.nil : Le [] [] := trivial
theorem Le.cs {e : Sl} {a b : Evm} (h : Le a b) : Le (e :: a) (e :: b) := ⟨.inr rfl, h⟩
theorem Le.cj {e : Sl} {a b : Evm} (h : Le a b) : Le (e :: a) (.junk :: b) := ⟨.inl rfl, h⟩
end Fw


namespace Fw
open PySem PySem.Spec L2 Emb
/-! ## == of typed data -/
class DEq (α : Type) [Emb α] where
  dep : Nat
  lay : ∀ x : α, (emb x).canLay0 = true
  hd : ∀ x : α, (emb x).depth ≤ dep
  eqv : ∀ x y : α, PyData.eqv (emb x) (emb y) = true ↔ x = y
class NNone (α : Type) [Emb α] where
  nn : ∀ x : α, isN (emb x) = false
instance : DEq Int := ⟨0, fun _ => rfl, fun _ => Nat.le_refl _, fun x y => by show (x == y) = true ↔ _; exact beq_iff_eq⟩
instance : DEq Bool := ⟨0, fun _ => rfl, fun _ => Nat.le_refl _, fun x y => by show (x == y) = true ↔ _; exact beq_iff_eq⟩
instance : DEq Unit := ⟨0, fun _ => rfl, fun _ => Nat.le_refl _, fun x y => by constructor <;> intro <;> rfl⟩
instance : NNone Int := ⟨fun _ => rfl⟩
instance : NNone Bool := ⟨fun _ => rfl⟩
instance : NNone Str := ⟨fun _ => rfl⟩
section
variable {α β γ δ : Type} [Emb α] [Emb β] [Emb γ] [Emb δ]
instance : NNone (List α) := ⟨fun _ => rfl⟩
instance : NNone (T2 α β) := ⟨fun _ => rfl⟩
instance : NNone (T3 α β γ) := ⟨fun _ => rfl⟩
instance : NNone (T4 α β γ δ) := ⟨fun _ => rfl⟩
variable [DEq α] [DEq β] [DEq γ] [DEq δ]
theorem layAll : ∀ xs : List α, PyData.canLayAll0 (xs.map emb) = true
  | [] => rfl
  | x :: xs => by
    show ((emb x).canLay0 && PyData.canLayAll0 (xs.map emb)) = true
    rw [DEq.lay, layAll xs] <;> rfl
theorem depAll : ∀ xs : List α, PyData.depthAll (xs.map emb) ≤ DEq.dep α
  | [] => Nat.zero_le _
  | x :: xs => by
    show max (emb x).depth (PyData.depthAll (xs.map emb)) ≤ _
    exact Nat.max_le.mpr ⟨DEq.hd x, depAll xs⟩
theorem eqvAll' : ∀ xs ys : List α, PyData.eqvAll (xs.map emb) (ys.map emb) = true ↔ xs = ys
  | [], [] => by constructor <;> intro <;> rfl
  | [], _ :: _ => by constructor <;> intro h <;> cases h
  | _ :: _, [] => by constructor <;> intro h <;> cases h
  | x :: xs, y :: ys => by
    show (PyData.eqv (emb x) (emb y) && PyData.eqvAll (xs.map emb) (ys.map emb)) = true ↔ _
    rw [Bool.and_eq_true, DEq.eqv, eqvAll' xs ys, List.cons.injEq]
instance : DEq (List α) := ⟨DEq.dep α + 1, fun x => layAll x, fun x => Nat.succ_le_succ (depAll x), fun x y => eqvAll' x y⟩
theorem eqv_none {d : PyData} (h : isN d = false) : PyData.eqv .none d = false ∧ PyData.eqv d .none = false := by
  cases d <;> first | exact ⟨rfl, rfl⟩ | cases h
instance [NNone α] : DEq (Option α) := ⟨DEq.dep α, fun x => match x with | none => rfl | some v => DEq.lay v, fun x => match x with | none => Nat.zero_le _ | some v => DEq.hd v, fun x y => by
  cases x with
  | none => cases y with
    | none => constructor <;> intro <;> rfl
    | some y =>
      show PyData.eqv .none (emb y) = true ↔ _
      rw [(eqv_none (NNone.nn y)).1]
      constructor <;> intro h <;> cases h
  | some x => cases y with
    | none =>
      show PyData.eqv (emb x) .none = true ↔ _
      rw [(eqv_none (NNone.nn x)).2]
      constructor <;> intro h <;> cases h
    | some y =>
      show PyData.eqv (emb x) (emb y) = true ↔ _
      rw [DEq.eqv, Option.some.injEq]⟩
instance : DEq (T2 α β) := ⟨max (DEq.dep α) (DEq.dep β) + 1, fun x => by
    show ((emb x.p0).canLay0 && ((emb x.p1).canLay0 && true)) = true
    rw [DEq.lay, DEq.lay] <;> rfl, fun x => by
    show max (emb x.p0).depth (max (emb x.p1).depth 0) + 1 ≤ _
    have := DEq.hd x.p0; have := DEq.hd x.p1; omega, fun x y => by
    show (PyData.eqv (emb x.p0) (emb y.p0) && (PyData.eqv (emb x.p1) (emb y.p1) && true)) = true ↔ _
    rw [Bool.and_eq_true, Bool.and_true, DEq.eqv, DEq.eqv]
    obtain ⟨a, b⟩ := x; obtain ⟨c, d⟩ := y
    rw [T2.mk.injEq]⟩
instance : DEq (T3 α β γ) := ⟨max (max (DEq.dep α) (DEq.dep β)) (DEq.dep γ) + 1, fun x => by
    show ((emb x.p0).canLay0 && ((emb x.p1).canLay0 && ((emb x.p2).canLay0 && true))) = true
    rw [DEq.lay, DEq.lay, DEq.lay] <;> rfl, fun x => by
    show max (emb x.p0).depth (max (emb x.p1).depth (max (emb x.p2).depth 0)) + 1 ≤ _
    have := DEq.hd x.p0; have := DEq.hd x.p1; have := DEq.hd x.p2; omega, fun x y => by
    show (PyData.eqv (emb x.p0) (emb y.p0) && (PyData.eqv (emb x.p1) (emb y.p1) && (PyData.eqv (emb x.p2) (emb y.p2) && true))) = true ↔ _
    rw [Bool.and_eq_true, Bool.and_eq_true, Bool.and_true, DEq.eqv, DEq.eqv, DEq.eqv]
    obtain ⟨a, b, e⟩ := x; obtain ⟨c, d, f⟩ := y
    rw [T3.mk.injEq]⟩
instance : DEq (T4 α β γ δ) := ⟨max (max (DEq.dep α) (DEq.dep β)) (max (DEq.dep γ) (DEq.dep δ)) + 1, fun x => by
    show ((emb x.p0).canLay0 && ((emb x.p1).canLay0 && ((emb x.p2).canLay0 && ((emb x.p3).canLay0 && true)))) = true
    rw [DEq.lay, DEq.lay, DEq.lay, DEq.lay] <;> rfl, fun x => by
    show max (emb x.p0).depth (max (emb x.p1).depth (max (emb x.p2).depth (max (emb x.p3).depth 0))) + 1 ≤ _
    have := DEq.hd x.p0; have := DEq.hd x.p1; have := DEq.hd x.p2; have := DEq.hd x.p3; omega, fun x y => by
    show (PyData.eqv (emb x.p0) (emb y.p0) && (PyData.eqv (emb x.p1) (emb y.p1) && (PyData.eqv (emb x.p2) (emb y.p2) && (PyData.eqv (emb x.p3) (emb y.p3) && true)))) = true ↔ _
    rw [Bool.and_eq_true, Bool.and_eq_true, Bool.and_eq_true, Bool.and_true, DEq.eqv, DEq.eqv, DEq.eqv, DEq.eqv]
    obtain ⟨a, b, e, g⟩ := x; obtain ⟨c, d, f, h⟩ := y
    rw [T4.mk.injEq]⟩
theorem shp (x : α) (h : DEq.dep α ≤ 64 := by decide) : SeqAt.shaped (emb x) = true := by
  show ((emb x).canLay0 && decide ((emb x).depth ≤ 64)) = true
  rw [DEq.lay, Bool.true_and]
  exact decide_eq_true (Nat.le_trans (DEq.hd x) h)
theorem eqvT [DecidableEq α] (x y : α) : PyData.eqv (emb x) (emb y) = decide (x = y) := by
  by_cases h : x = y
  · rw [decide_eq_true h]; exact (DEq.eqv x y).mpr h
  · rw [decide_eq_false h]
    cases e : PyData.eqv (emb x) (emb y) with
    | false => rfl
    | true => exact absurd ((DEq.eqv x y).mp e) h
end
/-- texts -/
def okS (s : Str) : Bool := PyData.strOk s
theorem shp_str {s : Str} (h : okS s = true) : SeqAt.shaped (.str s) = true := by
  show (PyData.strOk s && decide (0 ≤ 64)) = true
  rw [show PyData.strOk s = true from h] <;> rfl
theorem lay_strs : ∀ {l : List Str}, (∀ s ∈ l, okS s = true) → PyData.canLayAll0 (l.map PyData.str) = true
  | [], _ => rfl
  | s :: l, h => by
    show (PyData.strOk s && PyData.canLayAll0 (l.map PyData.str)) = true
    rw [show PyData.strOk s = true from h s List.mem_cons_self, lay_strs (fun t ht => h t (List.mem_cons_of_mem _ ht))] <;> rfl
theorem dep_strs : ∀ l : List Str, PyData.depthAll (l.map PyData.str) = 0
  | [] => rfl
  | s :: l => by
    show max 0 (PyData.depthAll (l.map PyData.str)) = 0
    rw [dep_strs l] <;> rfl
theorem shp_strs {l : List Str} (h : ∀ s ∈ l, okS s = true) : SeqAt.shaped (emb l) = true := by
  show (PyData.canLayAll0 (l.map PyData.str) && decide (PyData.depthAll (l.map PyData.str) + 1 ≤ 64)) = true
  rw [lay_strs h, dep_strs] <;> rfl
theorem eqv_strs : ∀ l m : List Str, PyData.eqvAll (l.map PyData.str) (m.map PyData.str) = true ↔ l = m
  | [], [] => by constructor <;> intro <;> rfl
  | [], _ :: _ => by constructor <;> intro h <;> cases h
  | _ :: _, [] => by constructor <;> intro h <;> cases h
  | x :: xs, y :: ys => by
    show ((x == y) && PyData.eqvAll (xs.map PyData.str) (ys.map PyData.str)) = true ↔ _
    rw [Bool.and_eq_true, eqv_strs xs ys, List.cons.injEq, beq_iff_eq]
theorem eqv_strsD (l m : List Str) : PyData.eqv (emb l) (emb m) = decide (l = m) := by
  have e : PyData.eqv (emb l) (emb m) = PyData.eqvAll (l.map PyData.str) (m.map PyData.str) := by
    show PyData.eqv (.list (l.map PyData.str)) (.list (m.map PyData.str)) = _
    unfold PyData.eqv
    rfl
  rw [e]
  by_cases h : l = m
  · rw [decide_eq_true h]; exact (eqv_strs l m).mpr h
  · rw [decide_eq_false h]
    cases c : PyData.eqvAll (l.map PyData.str) (m.map PyData.str) with
    | false => rfl
    | true => exact absurd ((eqv_strs l m).mp c) h
theorem go_end {S R : Type} {f : Fr S R} {k : S → R} {s : S} (h : f = .nx s ∨ f = .bk s) : f.go k = k s := by
  rcases h with h | h <;> rw [h] <;> rfl
theorem opt_noScr (o : Option Int) : noScr (emb o) = true := by cases o <;> rfl
theorem opt_kit_int (o : Option Int) : kitB (tyD (emb o)) "int" = some o.isSome := match o with
  | none => show kitB "NoneType" "int" = some false by decide +kernel
  | some v => show kitB "int" "int" = some true by decide +kernel
theorem opt_kit_bool (o : Option Int) : kitB (tyD (emb o)) "bool" = some false := match o with
  | none => show kitB "NoneType" "bool" = some false by decide +kernel
  | some v => show kitB "int" "bool" = some false by decide +kernel
section
variable {S : Sc} {env : Evm} {e a b c o : Expr} {es : List Expr} {d x y z : PyData} {pos p : Pos} {i j : Int} {s s' : Str} {ds zs : List PyData} {k : Bool}
variable {α β : Type} [Emb α] [Emb β]
theorem xe_eqT [DEq α] [DecidableEq α] {x y : α} (ha : XE S a env (emb x)) (hb : XE S b env (emb y)) (h : DEq.dep α ≤ 64 := by decide) : XE S (.Compare a [.Eq] [b] pos) env (.bool (decide (x = y))) := by
  rw [← eqvT]; exact xe_eqD (shp x h) (shp y h) ha hb
theorem xe_neT [DEq α] [DecidableEq α] {x y : α} (ha : XE S a env (emb x)) (hb : XE S b env (emb y)) (h : DEq.dep α ≤ 64 := by decide) : XE S (.Compare a [.NotEq] [b] pos) env (.bool (!decide (x = y))) := by
  rw [← eqvT]; exact xe_neD (shp x h) (shp y h) ha hb
theorem xt_eqT [DEq α] [DecidableEq α] {x y : α} (ha : XE S a env (emb x)) (hb : XE S b env (emb y)) (h : DEq.dep α ≤ 64 := by decide) : XT S (.Compare a [.Eq] [b] pos) env (decide (x = y)) := by
  rw [← eqvT]; exact xt_eqD (shp x h) (shp y h) ha hb
theorem xt_neT [DEq α] [DecidableEq α] {x y : α} (ha : XE S a env (emb x)) (hb : XE S b env (emb y)) (h : DEq.dep α ≤ 64 := by decide) : XT S (.Compare a [.NotEq] [b] pos) env (!decide (x = y)) := by
  rw [← eqvT]; exact xt_neD (shp x h) (shp y h) ha hb
/-- xs or ys -/
theorem xe_orL {xs ys : List α} (ha : XE S a env (emb xs)) (hb : XE S (.BoolOp .Or (b :: es) pos) env (emb ys)) : XE S (.BoolOp .Or (a :: b :: es) pos) env (emb (if xs.isEmpty = true then ys else xs)) := by
  obtain ⟨ta, pa, ea⟩ := ha
  obtain ⟨tb, pb, eb⟩ := hb
  refine ⟨tOrT S.K ta tb, fun X D => by rw [← D.K]; exact pe_orT (pa X D) (pb X D), fun B w0 w σ s Q q => ea B w0 w σ s _ fun v w1 g1 r1 => ?_⟩
  obtain ⟨p, vs, rfl, hp, t⟩ := rp_list r1
  have he : vs.isEmpty = xs.isEmpty := by rw [isE_of t]; cases xs <;> rfl
  refine ⟨!xs.isEmpty, .inl ⟨vs, SqL.of (w1.le _ _ hp), by rw [he]⟩, ?_⟩
  cases c : xs.isEmpty with
  | true =>
    rw [c] at q
    exact eb B w0 w1 σ (s.mono g1) Q fun v2 w2 g2 r2 => q v2 w2 (g1.trans g2) r2
  | false =>
    rw [c] at q
    exact q _ w1 g1 r1
/-- xs + ys, xs * n -/
theorem xn_catI {xs ys : List α} (h : xs.length + ys.length ≤ sizeLine) (ha : XE S a env (emb xs)) (hb : XE S b env (emb ys)) : XN S (.BinOp a .Add b pos) env ((xs ++ ys).map emb) := by
  obtain ⟨ta, pa, ea⟩ := ha
  obtain ⟨tb, pb, eb⟩ := hb
  refine ⟨tOp rCat ta tb, fun X D => pe_op op_cat (pa X D) (pb X D), fun B w0 w σ s Q q => ea B w0 w σ s _ fun v w1 g1 r1 => eb B w0 w1 σ (s.mono g1) _ fun v2 w2 g2 r2 => ?_⟩
  obtain ⟨p, vs, rfl, hp, t⟩ := rp_list (r1.mono g2.s)
  obtain ⟨p2, vs2, rfl, hp2, t2⟩ := rp_list r2
  have l1 := t.length
  have l2 := t2.length
  rw [List.length_map] at l1 l2
  refine ⟨p, p2, vs, vs2, rfl, rfl, w2.le _ _ hp, w2.le _ _ hp2, by rw [l1, l2]; exact h, fun u hu => ?_⟩
  have g := g1.trans g2
  exact q u _ (w2.new u _ hu) (bk_none g hu) (g.trans (grow_new hu)) upd_same (s_none (w := w2) hu) (by rw [List.map_append]; exact t.append t2)
def repL {α : Type} (xs : List α) (n : Int) : List α := (List.replicate n.toNat xs).flatten
theorem RpAll.rep {K : PySem.W.Frag} {H : Hp} {vs : List V} (h : RpAll K H vs ds) : ∀ n : Nat, RpAll K H (List.replicate n vs).flatten (List.replicate n ds).flatten
  | 0 => .nil
  | n + 1 => by
    rw [List.replicate_succ, List.replicate_succ, List.flatten_cons, List.flatten_cons]
    exact h.append (RpAll.rep h n)
theorem repL_map (f : α → β) (xs : List α) (n : Int) : (repL xs n).map f = repL (xs.map f) n := by
  unfold repL
  rw [List.map_flatten, List.map_replicate]
theorem repL_one (x : α) (n : Int) : repL [x] n = List.replicate n.toNat x := by
  unfold repL
  generalize n.toNat = m
  induction m with
  | zero => rfl
  | succ m ih => rw [List.replicate_succ, List.flatten_cons, ih]; rfl
theorem xn_repI {xs : List α} (h : -(2 ^ 63) ≤ i ∧ i < 2 ^ 63 ∧ xs.length * i.toNat ≤ sizeLine) (ha : XE S a env (emb xs)) (hb : XE S b env (.int i)) : XN S (.BinOp a .Mult b pos) env ((repL xs i).map emb) := by
  obtain ⟨ta, pa, ea⟩ := ha
  obtain ⟨tb, pb, eb⟩ := hb
  refine ⟨tOp rRep ta tb, fun X D => pe_op op_rep (pa X D) (pb X D), fun B w0 w σ s Q q => ea B w0 w σ s _ fun v w1 g1 r1 => eb B w0 w1 σ (s.mono g1) _ fun v2 w2 g2 r2 => ?_⟩
  obtain ⟨p, vs, rfl, hp, t⟩ := rp_list (r1.mono g2.s)
  cases r2
  have l1 := t.length
  rw [List.length_map] at l1
  refine ⟨p, i, vs, rfl, rfl, w2.le _ _ hp, h.1, h.2.1, by rw [l1]; exact h.2.2, fun u hu => ?_⟩
  have g := g1.trans g2
  exact q u _ (w2.new u _ hu) (bk_none g hu) (g.trans (grow_new hu)) upd_same (s_none (w := w2) hu) (by rw [repL_map]; exact t.rep _)
/-- (..) + (..) of tuples -/
theorem xe_catT (h : ds ≠ []) (h2 : zs ≠ []) (hl : ds.length + zs.length ≤ sizeLine) (ha : XE S a env (.tuple ds)) (hb : XE S b env (.tuple zs)) : XE S (.BinOp a .Add b pos) env (.tuple (ds ++ zs)) := by
  obtain ⟨ta, pa, ea⟩ := ha
  obtain ⟨tb, pb, eb⟩ := hb
  refine ⟨tOp (rCatT S.K) ta tb, fun X D => by rw [← D.K]; exact pe_op op_catT (pa X D) (pb X D), fun B w0 w σ s Q q => ea B w0 w σ s _ fun v w1 g1 r1 => eb B w0 w1 σ (s.mono g1) _ fun v2 w2 g2 r2 => ?_⟩
  have r1 := r1.mono g2.s
  cases r1 with
  | tup hp t => cases r2 with
    | tup hp2 t2 =>
      refine ⟨_, _, _, _, rfl, rfl, ex_sqT w2.le hp, ex_sqT w2.le hp2, fun e => ?_, by rw [t.length, t2.length]; exact hl, fun e => ?_, fun e u hu => ?_⟩
      · have := t.length; rw [e] at this; exact h (List.eq_nil_of_length_eq_zero this.symm)
      · have := t2.length; rw [e] at this; exact absurd (List.eq_nil_of_length_eq_zero this.symm) h2
      · obtain ⟨w3, e3, g3, r3⟩ := rp_newT hu (t.append t2)
        rw [← e3]
        exact q _ w3 ((g1.trans g2).trans g3) r3
end
end Fw


namespace Fw
open PySem PySem.Spec L2 Emb
theorem relc_int {mg : Str → Option Value} {x : Str} {i : Int} (h : ∃ t, mg x = some (.int i t)) : RelC mg x (.int i) := by
  obtain ⟨t, h⟩ := h
  exact ⟨_, h, t, rfl⟩
theorem relc_str {mg : Str → Option Value} {x : Str} {s : Str} (h : ∃ t, mg x = some (.str s t)) : RelC mg x (.str s) := by
  obtain ⟨t, h⟩ := h
  exact ⟨_, h, t, rfl⟩
abbrev gcOf (P : Program) (w : World) (K : PySem.W.Frag) (mg : Str → Option Value) (base : Heap) (ct : Nat → Addr × Option Str) : Gc := ⟨P, w, K, mg, base, ct⟩
theorem law_end {l : PySem.W.OpenLaw} {k : Nat} {q : Program} {loose : List Str} {XP : (Str → Option Value) → Heap → Prop} {YP : World → Heap → Prop} {d : DefRec} {R : List PyData → Except Exn PyData → Prop} (ct : PySem.W.Frag → Nat → Addr × Option Str)
    (hn : l.most = some 63) (hdf : d.params.defaults = []) (hr : Room k callerA) (hR : ∀ ns : List Int, ns.length ≤ 63 → R [scrD ns] (.ok (.bool true)))
    (F : ∀ (w : World) (mg : Str → Option Value) (fa : Addr) (h : Heap), YP w h → h.Ns mainGlobals mg → mg d.name = some (.ref fa) →
      ∃ (K : PySem.W.Frag) (fd : FuncData), K.In h ∧ (∀ (s : Shared) (u : Value), BindsTo s fd ⟨[u], []⟩ [("script", u)]) ∧ ∀ base : Heap, FnOk l.prog w K mg base (L2.CX l.prog w) k fa fd ["script"] (SpD (gcOf l.prog w K mg base (ct K)) R)) :
    PySem.W.WalkO q loose XP YP l.row.toRowW d [] (fun f vs => PySem.call f vs) := by
  refine Att.attach_call hn hdf fun w s₀ s₁ mg mb fa o pm cd doc a vs ns G Y ho hd hcd hmg hobj hints hlen hg => ?_
  obtain ⟨K, fd, KX, hb, hF⟩ := F w mg fa _ Y G.T.g hmg
  refine law_call (CX := L2.CX l.prog w) (sp := fun vs H Q E => ∃ ns : List Int, ns.length ≤ 63 ∧ (∃ a, vs = [.ref a] ∧ SqL K H a (ns.map V.int)) ∧ ∀ v H', v = .bl true → Q v H') KX G.T.g G.T.b G.T.builtins G.T.nolimit hg hobj hints (Nat.le_trans hlen (by decide)) hr (fun base _ _ => ?_) hb (fun H hO hS => ⟨ns, hlen, ⟨a, rfl, hS⟩, fun _ _ h => h⟩) fun H e s' z => ?_
  · refine FnOk.imp (hF base) fun vs H Q E h => ?_
    obtain ⟨ns, hl, ⟨a, rfl, hS⟩, hq⟩ := h
    refine ⟨⟨H, H, fun _ _ e => e⟩, [scrD ns], _, rfl, .cons (.scr hS) .nil, hR ns hl, fun d e v w' g r => ?_, fun e z => by cases z⟩
    injection e with e
    subst e
    cases r
    exact hq _ _ rfl
  · obtain ⟨_, _, _, _, _, _, _, _, _, _, _, _, q⟩ := z
    exact q
end Fw


namespace K78
open PySem L2 Fw Emb
def are_figures (text : Str) : Bool :=
if ((!(decide ((1 : Int) ≤ (text.length : Int)) && decide ((text.length : Int) ≤ (18 : Int)))) || (!(((text.cps.toList).map (fun sign_1 => ((decide (sign_1 ∈ ("0123456789" : Str).cps.toList)) : Bool))).all id))) = true then
(false) else
(((decide ((text.length : Int) = (1 : Int))) || (!decide ((sg (getS text (0 : Int))) = ("0" : Str)))))
def read_number (text : Str) : (Option Int) :=
if (Txt.startswith text ("-" : Str)) = true then
(let rest_1 : Str := (cutS text (some (1 : Int)) none)
(if ((are_figures rest_1) && (!decide (rest_1 = ("0" : Str)))) = true then (some (-(intS rest_1))) else (none : (Option Int)))) else
((if (are_figures text) = true then (some (intS text)) else (none : (Option Int))))
def lines_of (text : Str) : (List Str) :=
(Txt.split text ("\n" : Str))
def bd_law_numbers_1 (at_ : Int) (s1 : (T2 (List Int) Int)) (x1 : Int) : (T2 (List Int) Int) :=
let numbers_2 : (List Int) := if (decide (((10 : Int) ^ (Int.toNat (18 : Int))) ≤ s1.p1)) = true then (s1.p0 ++ [(s1.p1 % (1009 : Int))]) else (s1.p0 ++ [(((((((((s1.p1 * (48271 : Int)) + ((x1 + (1 : Int)) * (69621 : Int))) + (at_ * (4001 : Int))) % (2147483647 : Int)) * ((((s1.p1 * (48271 : Int)) + ((x1 + (1 : Int)) * (69621 : Int))) + (at_ * (4001 : Int))) % (2147483647 : Int))) + ((16807 : Int) * (x1 + (3 : Int)))) % (2147483629 : Int)) / (7 : Int)) % (1009 : Int))])
let cell_4 : Int := if (decide (((10 : Int) ^ (Int.toNat (18 : Int))) ≤ s1.p1)) = true then (s1.p1 / (1009 : Int)) else s1.p1
(T2.mk numbers_2 cell_4)
def law_numbers (script : List Int) (at_ : Int) (many : Int) : (List Int) :=
let cell_1 : Int := ((1000003 : Int) * (at_ + (1 : Int)))
let cell_2 : Int := if (decide (at_ < (script.length : Int))) = true then (getI script at_) else cell_1
let cell_3 : Int := if (decide (cell_2 < (0 : Int))) = true then ((1 : Int) - ((2 : Int) * cell_2)) else cell_2
let numbers_1 : (List Int) := ([] : (List Int))
let fin_1 : (T2 (List Int) Int) := (rng 0 (Int.toNat many)).foldl (bd_law_numbers_1 at_) (T2.mk numbers_1 cell_3)
fin_1.p0
def law_is_integer (value : (Option Int)) : Bool :=
((value.isSome) && (!false))
def law_digits (text : Str) : Bool :=
if ((decide (text = ("" : Str))) || ((decide ((18 : Int) < (text.length : Int))) || (!PyData.eqv (emb ((((text.cps.toList).filter (fun sign_1 => (!decide (sign_1 ∈ ("0123456789" : Str).cps.toList)))).map (fun sign_1 => ((sg sign_1) : Str))) : (List Str))) (emb (([] : (List Str)) : (List Str)))))) = true then
(false) else
(((decide (text = ("0" : Str))) || (!decide ((sg (getS text (0 : Int))) = ("0" : Str)))))
def law_number (text : Str) : (Option Int) :=
if (decide ((cutS text none (some (1 : Int))) = ("-" : Str))) = true then
(if ((!(law_digits (cutS text (some (1 : Int)) none))) || (decide (text = ("-0" : Str)))) = true then
((none : (Option Int))) else
((some (-(intS (cutS text (some (1 : Int)) none)))))) else
(if (!(law_digits text)) = true then
((none : (Option Int))) else
((some (intS text))))
def bd_law_3 (s3 : Unit) (x3 : Str) : Fr Unit (Fr Unit (Fr Unit Bool)) :=
if (!decide (((read_number x3) : (Option Int)) = (law_number x3))) = true then
((.rt (.rt (.rt false)))) else
(.nx ())
def bd_law_2 (text_1 : Str) (at_1 : Int) (s2 : Unit) (x2 : Str) : Fr Unit (Fr Unit Bool) :=
(forF bd_law_3 ([(((cutS text_1 none (some at_1)) ++ x2) ++ (cutS text_1 (some at_1) none)), (((cutS text_1 none (some at_1)) ++ x2) ++ (cutS text_1 (some (at_1 + (1 : Int))) none)), (text_1 ++ x2), (x2 ++ text_1)]) ()).go (fun (fin_1 : Unit) =>
.nx ())
def bd_law_1 (numbers_1 : (List Int)) (s1 : Unit) (x1 : Int) : Fr Unit Bool :=
let told_1 : (Option Int) := (read_number (strI x1))
if ((!(law_is_integer told_1)) || (!decide ((told_1 : (Option Int)) = (some x1)))) = true then
((.rt false)) else
(let text_1 : Str := (strI x1)
let at_1 : Int := ((getI numbers_1 (4 : Int)) % (text_1.length : Int))
(forF (bd_law_2 text_1 at_1) ([("0" : Str), ("-" : Str), (" " : Str), ("x" : Str), ("1" : Str), ("" : Str), ("+" : Str), ("." : Str), ("\n" : Str)]) ()).go (fun (fin_2 : Unit) =>
.nx ()))
def bd_law_4 (s4 : Unit) (x4 : Str) : Fr Unit Bool :=
if (!(isN (emb ((read_number x4) : (Option Int))))) = true then
((.rt false)) else
(.nx ())
def law (script : List Int) : Bool :=
let numbers_1 : (List Int) := (law_numbers script (0 : Int) (20 : Int))
(forF (bd_law_1 numbers_1) ([(getI numbers_1 (0 : Int)), (-(getI numbers_1 (1 : Int))), ((((getI numbers_1 (2 : Int)) % (1000 : Int)) * ((10 : Int) ^ (Int.toNat (15 : Int)))) + (getI numbers_1 (3 : Int))), (((10 : Int) ^ (Int.toNat (18 : Int))) - (1 : Int)), ((1 : Int) - ((10 : Int) ^ (Int.toNat (18 : Int)))), (0 : Int), (-(1 : Int))]) ()).go (fun (fin_3 : Unit) =>
(forF bd_law_4 ([("" : Str), ("-" : Str), ("-0" : Str), ("00" : Str), ("01" : Str), (repS ("1" : Str) (19 : Int)), (("-" : Str) ++ (repS ("1" : Str) (19 : Int))), ("--1" : Str), ("1-" : Str), ("1 2" : Str), ("+1" : Str)]) ()).go (fun (fin_4 : Unit) =>
let words_1 : (List Str) := ((cut numbers_1 (some (5 : Int)) (some ((5 : Int) + ((getI numbers_1 (6 : Int)) % (6 : Int))))).map (fun number_1 => ((repS ("a" : Str) (number_1 % (3 : Int))) : Str)))
((PyData.eqv (emb ((lines_of (Txt.join ("\n" : Str) words_1)) : (List Str))) (emb ((if words_1.isEmpty = true then [("" : Str)] else words_1) : (List Str)))) && ((PyData.eqv (emb ((lines_of ("" : Str)) : (List Str))) (emb ([("" : Str)] : (List Str)))) && (PyData.eqv (emb ((lines_of ("\n" : Str)) : (List Str))) (emb ([("" : Str), ("" : Str)] : (List Str))))))))
end K78


namespace K78
open PySem L2 Fw Emb NumText
/-! ### lemmas: _law_numbers -/
theorem ln_len (at_ : Int) : ∀ (l : List Int) (s : T2 (List Int) Int), ((l.foldl (bd_law_numbers_1 at_) s).p0).length = s.p0.length + l.length
  | [], s => rfl
  | x :: l, s => by
    rw [List.foldl_cons, ln_len at_ l, List.length_cons]
    have : ((bd_law_numbers_1 at_ s x).p0).length = s.p0.length + 1 := by
      unfold bd_law_numbers_1
      dsimp only
      split <;> simp
    omega
theorem ln_app {at_ many : Int} {i1 : Nat} {s1 : T2 (List Int) Int} {n1 : List Int} {c3 : Int} (hist1 : s1 = ((rng 0 (Int.toNat many)).take i1).foldl (bd_law_numbers_1 at_) (T2.mk n1 c3)) (hn : n1 = []) (hm : 0 ≤ many ∧ many ≤ 1000) : s1.p0.length < sizeLine := by
  have h := ln_len at_ ((rng 0 (Int.toNat many)).take i1) (T2.mk n1 c3)
  rw [← hist1, hn, List.length_take, rng_len] at h
  have e := sizeLine_eq
  have h0 : ([] : List Int).length = 0 := rfl
  have h1 : s1.p0.length = ([] : List Int).length + min i1 many.toNat := h
  omega
theorem ln_mem (at_ : Int) : ∀ (l : List Int) (s : T2 (List Int) Int), (∀ n ∈ s.p0, 0 ≤ n ∧ n < 1009) → ∀ n ∈ (l.foldl (bd_law_numbers_1 at_) s).p0, 0 ≤ n ∧ n < 1009
  | [], s, h => h
  | x :: l, s, h => by
    rw [List.foldl_cons]
    refine ln_mem at_ l _ ?_
    have m : ∀ y : Int, 0 ≤ y % 1009 ∧ y % 1009 < 1009 := fun y => ⟨Int.emod_nonneg _ (by decide), Int.emod_lt_of_pos _ (by decide)⟩
    unfold bd_law_numbers_1
    dsimp only
    intro n hn
    split at hn
    all_goals
      rcases List.mem_append.mp hn with hn | hn
      · exact h n hn
      · rw [List.mem_singleton.mp hn]; exact m _
theorem numbers_len (script : List Int) (at_ many : Int) : (law_numbers script at_ many).length = many.toNat := by
  unfold law_numbers
  dsimp only
  rw [ln_len, rng_len]
  exact Nat.zero_add _
theorem numbers_bd (script : List Int) (at_ many : Int) : ∀ n ∈ law_numbers script at_ many, 0 ≤ n ∧ n < 1009 := by
  unfold law_numbers
  dsimp only
  exact ln_mem at_ _ _ (fun n h => nomatch h)
theorem numbers_get {l : List Int} {m : Int} (hl : l.length = m.toNat) (hb : ∀ n ∈ l, 0 ≤ n ∧ n < 1009) (i : Int) (h : 0 ≤ i ∧ i < m) : 0 ≤ getI l i ∧ getI l i < 1009 := hb _ (getI_mem ⟨by omega, by omega⟩)
/-! ### lemmas: numbers as texts -/
theorem figs : ("0123456789" : Str).cps.toList = [48, 49, 50, 51, 52, 53, 54, 55, 56, 57] := by decide
theorem mem_figs (c : Nat) : decide (c ∈ ("0123456789" : Str).cps.toList) = decide (48 ≤ c ∧ c ≤ 57) := by
  rw [figs]
  refine decide_eq_decide.mpr ?_
  simp only [List.mem_cons, List.not_mem_nil, or_false]
  omega
theorem sg_inj {a b : Nat} (h : sg a = sg b) : a = b := by
  have e := congrArg (fun s : Str => s.cps.toList) h
  have e : [a] = [b] := e
  injection e
theorem sg_zero (c : Nat) : decide (sg c = ("0" : Str)) = decide (c = 48) := decide_eq_decide.mpr ⟨fun h => sg_inj (h.trans (show ("0" : Str) = sg 48 by decide)), fun h => by rw [h]; decide⟩
/-- a text of 1 to 18 figures, without a leading zero -/
def Figs (l : List Nat) : Prop := 1 ≤ l.length ∧ l.length ≤ 18 ∧ (∀ c ∈ l, 48 ≤ c ∧ c ≤ 57) ∧ (l.length = 1 ∨ l.head? ≠ some 48)
theorem getS_zero {s : Str} (h : 1 ≤ s.length) : s.cps.toList.head? = some (getS s 0) := by
  have e := atS_ok (s := s) (i := 0) ⟨by omega, by omega⟩
  rw [← e]
  unfold atI ixN
  rw [if_pos (by omega), if_pos (by have h1 : s.cps.toList.length = s.length := Array.length_toList; omega)]
  show s.cps.toList.head? = s.cps.toList[0]?
  exact List.head?_eq_getElem? ..
theorem are_figures_iff (s : Str) : are_figures s = true ↔ Figs (TL.tl s) := by
  have hl := TL.len_tl s
  unfold are_figures Figs
  have ea : ((s.cps.toList).map (fun sign_1 => ((decide (sign_1 ∈ ("0123456789" : Str).cps.toList)) : Bool))).all id = true ↔ ∀ c ∈ TL.tl s, 48 ≤ c ∧ c ≤ 57 := by
    rw [List.all_eq_true]
    constructor
    · intro h c hc
      have := h _ (List.mem_map.mpr ⟨c, hc, rfl⟩)
      rw [id, mem_figs] at this
      exact of_decide_eq_true this
    · intro h b hb
      obtain ⟨c, hc, rfl⟩ := List.mem_map.mp hb
      rw [id, mem_figs]
      exact decide_eq_true (h c hc)
  split
  · rename_i h
    constructor
    · intro e; cases e
    · rintro ⟨h1, h2, h3, _⟩
      rw [ea.mpr h3] at h
      simp at h
      omega
  · rename_i h
    simp only [Bool.or_eq_true, Bool.not_eq_true', not_or, Bool.not_eq_false, Bool.and_eq_true, decide_eq_true_eq] at h
    obtain ⟨⟨h1, h2⟩, h3⟩ := h
    rw [Bool.or_eq_true, decide_eq_true_eq, sg_zero, Bool.not_eq_true', decide_eq_false_iff_not]
    have g := getS_zero (s := s) (by omega)
    rw [show s.cps.toList = TL.tl s from rfl] at g
    rw [g, ← hl]
    constructor
    · intro h
      refine ⟨by omega, by omega, ea.mp h3, ?_⟩
      rcases h with h | h
      · exact .inl (by omega)
      · exact .inr fun e => h (by injection e)
    · rintro ⟨_, _, _, h⟩
      rcases h with h | h
      · exact .inl (by omega)
      · exact .inr fun e => h (by rw [e])
theorem figs_int {s : Str} (h : Figs (TL.tl s)) : PySem.intText? s = some ((NumText.digitsVal (TL.tl s) : Nat) : Int) :=
  intText_digits h.2.2.1 (fun e => by have h1 := h.1; rw [show TL.tl s = [] from e] at h1; exact absurd h1 (by decide)) (by have := h.2.1; rw [TL.len_tl]; omega)
theorem fig_int {s : Str} (h : are_figures s = true) : PySem.intText? s = some (intS s) ∧ s.length ≤ 640 := by
  have f := (are_figures_iff s).mp h
  exact ⟨intS_of (figs_int f), by have := f.2.1; rw [TL.len_tl]; omega⟩
theorem tl_cut1 (s : Str) : TL.tl (cutS s (some 1) none) = (TL.tl s).drop 1 := by
  have hl := TL.len_tl s
  have e : TL.tl (cutS s (some 1) none) = ((TL.tl s).drop (HT.sIx s.length 0 (some 1))).take (HT.sIx s.length s.length none - HT.sIx s.length 0 (some 1)) := rfl
  rw [e]
  have e1 : HT.sIx s.length s.length none = s.length := rfl
  have e2 : HT.sIx s.length 0 (some 1) = min 1 s.length := by
    simp [HT.sIx]
    try omega
  rw [e1, e2]
  by_cases c : 1 ≤ s.length
  · rw [Nat.min_eq_left c]
    exact List.take_of_length_le (by rw [List.length_drop]; omega)
  · rw [Nat.min_eq_right (by omega)]
    have e0 : TL.tl s = [] := List.eq_nil_of_length_eq_zero (by omega)
    rw [e0]; simp
theorem tl_head1 (s : Str) : TL.tl (cutS s none (some 1)) = (TL.tl s).take 1 := by
  have hl := TL.len_tl s
  have e : TL.tl (cutS s none (some 1)) = ((TL.tl s).drop (HT.sIx s.length 0 none)).take (HT.sIx s.length s.length (some 1) - HT.sIx s.length 0 none) := rfl
  rw [e]
  have e1 : HT.sIx s.length 0 none = 0 := rfl
  have e2 : HT.sIx s.length s.length (some 1) = min 1 s.length := by
    simp [HT.sIx]
    try omega
  rw [e1, e2, List.drop_zero, Nat.sub_zero]
  by_cases c : 1 ≤ s.length
  · rw [Nat.min_eq_left c]
  · rw [Nat.min_eq_right (by omega)]
    have e0 : TL.tl s = [] := List.eq_nil_of_length_eq_zero (by omega)
    rw [e0]; simp
theorem minus_tl : TL.tl ("-" : Str) = [45] := by decide
theorem starts_minus (s : Str) : Txt.startswith s ("-" : Str) = decide ((TL.tl s).head? = some 45) := by
  have hl := TL.len_tl s
  unfold Txt.startswith
  rw [PySem.StrLaws.subAt_eq, show ("-" : Str).cps.toList = [45] from minus_tl, show ("-" : Str).length = 1 by decide, List.drop_zero]
  rw [show s.cps.toList = TL.tl s from rfl, hl]
  cases e : TL.tl s with
  | nil => rfl
  | cons c r =>
    rw [List.take_succ_cons, List.take_zero, List.head?_cons]
    by_cases h : c = 45
    · subst h; rw [decide_eq_true rfl]; simp
    · rw [decide_eq_false (p := some c = some 45) (by intro e1; injection e1 with e1; exact h e1)]
      simp [h]
theorem head_minus (s : Str) : decide (cutS s none (some 1) = ("-" : Str)) = decide ((TL.tl s).head? = some 45) := by
  refine decide_eq_decide.mpr ⟨fun h => ?_, fun h => TL.ext_tl ?_⟩
  · have e := congrArg TL.tl h
    rw [tl_head1, minus_tl] at e
    cases c : TL.tl s with
    | nil => rw [c] at e; cases e
    | cons x r => rw [c, List.take_succ_cons] at e; injection e with e; rw [e]; rfl
  · rw [tl_head1, minus_tl]
    cases c : TL.tl s with
    | nil => rw [c] at h; cases h
    | cons x r => rw [c] at h; injection h with h; rw [h]; rfl
theorem read_neg {s : Str} (h : (TL.tl s).head? = some 45) : read_number s = if (are_figures (cutS s (some 1) none) && !decide (cutS s (some 1) none = ("0" : Str))) = true then some (-(intS (cutS s (some 1) none))) else none := by
  unfold read_number
  rw [if_pos (by rw [starts_minus]; exact decide_eq_true h)]
theorem read_pos {s : Str} (h : (TL.tl s).head? ≠ some 45) : read_number s = if are_figures s = true then some (intS s) else none := by
  unfold read_number
  rw [if_neg (by rw [starts_minus, decide_eq_false h]; exact Bool.false_ne_true)]
/-! a number's text -/
theorem numL_head {n : Nat} (h : 1 ≤ n) : (TL.numL n).head? ≠ some 48 := by
  induction n using Nat.strongRecOn with
  | _ n ih =>
    by_cases c : n < 10
    · rw [TL.numL_lt c, List.head?_cons]
      intro e; injection e; omega
    · rw [TL.numL_step (by omega)]
      have := ih (n / 10) (by omega) (by omega)
      cases e : TL.numL (n / 10) with
      | nil => exact absurd e (TL.numL_ne _)
      | cons a r => rw [e] at this; exact this
theorem numL_figs {n : Nat} (h : n < 10 ^ 18) : Figs (TL.numL n) := by
  refine ⟨?_, TL.numL_len (by decide) h, fun c hc => TL.numL_digits n c hc, ?_⟩
  · exact List.length_pos_iff.mpr (TL.numL_ne n)
  · by_cases c : n < 10
    · left; rw [TL.numL_lt c]; rfl
    · right; exact numL_head (by omega)
theorem tl_strI_nat (n : Nat) : TL.tl (strI (n : Int)) = TL.numL n := TL.tl_num n
theorem tl_strI_neg (n : Nat) : TL.tl (strI (Int.negSucc n)) = 45 :: TL.numL (n + 1) := by
  have e : strI (Int.negSucc n) = Str.ofString ("-" ++ Nat.repr (n + 1)) := rfl
  have e2 : strI ((n + 1 : Nat) : Int) = Str.ofString (Nat.repr (n + 1)) := rfl
  rw [← tl_strI_nat, e, e2, TL.tl_ofString, TL.tl_ofString, String.toList_append, List.map_append]
  rfl
theorem read_strI {n : Int} (h : -(10 ^ 18) < n ∧ n < 10 ^ 18) : read_number (strI n) = some n := by
  cases n with
  | ofNat m =>
    have hm : m < 10 ^ 18 := by have h2 := h.2; simp only [Int.ofNat_eq_natCast] at h2; omega
    have t := tl_strI_nat m
    have f := numL_figs hm
    rw [show (Int.ofNat m) = (m : Int) from rfl]
    rw [read_pos (by
      rw [t]
      intro e
      have := TL.numL_digits m 45 (by cases c : TL.numL m with
        | nil => rw [c] at e; cases e
        | cons a r => rw [c] at e; injection e with e; rw [e]; exact List.mem_cons_self)
      omega)]
    rw [if_pos ((are_figures_iff _).mpr (by rw [t]; exact f))]
    have e := figs_int (s := strI (m : Int)) (by rw [t]; exact f)
    rw [t, TL.numL_val] at e
    unfold intS
    rw [e]; rfl
  | negSucc m =>
    have hm : m + 1 < 10 ^ 18 := by have h1 := h.1; rw [Int.negSucc_eq] at h1; omega
    have t := tl_strI_neg m
    have f := numL_figs hm
    have tc : TL.tl (cutS (strI (Int.negSucc m)) (some 1) none) = TL.numL (m + 1) := by rw [tl_cut1, t]; rfl
    rw [read_neg (by rw [t]; rfl)]
    have e := figs_int (s := cutS (strI (Int.negSucc m)) (some 1) none) (by rw [tc]; exact f)
    rw [tc, TL.numL_val] at e
    rw [if_pos]
    · unfold intS
      rw [e]
      show some (-(((m + 1 : Nat)) : Int)) = _
      rw [Int.negSucc_eq]
      rfl
    · rw [Bool.and_eq_true, Bool.not_eq_true', decide_eq_false_iff_not]
      refine ⟨(are_figures_iff _).mpr (by rw [tc]; exact f), fun z => ?_⟩
      have z := congrArg TL.tl z
      rw [tc] at z
      have hh := numL_head (n := m + 1) (by omega)
      rw [z] at hh
      exact hh (by decide)
theorem strI_len {n : Int} (h : -(10 ^ 18) < n ∧ n < 10 ^ 18) : 1 ≤ (strI n).length ∧ (strI n).length ≤ 19 := by
  cases n with
  | ofNat m =>
    have hm : m < 10 ^ 18 := by have h2 := h.2; simp only [Int.ofNat_eq_natCast] at h2; omega
    have f := numL_figs hm
    rw [show (Int.ofNat m) = (m : Int) from rfl, TL.len_tl, tl_strI_nat]
    exact ⟨f.1, by have := f.2.1; omega⟩
  | negSucc m =>
    have hm : m + 1 < 10 ^ 18 := by have h1 := h.1; rw [Int.negSucc_eq] at h1; omega
    have f := numL_figs hm
    rw [TL.len_tl, tl_strI_neg, List.length_cons]
    exact ⟨by omega, by have := f.2.1; omega⟩
theorem strI_log {n : Int} (h : -(10 ^ 18) < n ∧ n < 10 ^ 18) : n.natAbs.log2 < 1920 := by
  by_cases c : n.natAbs = 0
  · rw [c]; decide
  · have h1 : n.natAbs < 2 ^ 60 := by omega
    have := (Nat.log2_lt c).mpr h1
    omega
theorem app_len (a b : Str) : (a ++ b).length = a.length + b.length := by rw [TL.len_tl, TL.tl_append, List.length_append, ← TL.len_tl, ← TL.len_tl]
theorem len_pos {s : Str} (h : ¬ s = ("" : Str)) : 1 ≤ s.length := by
  rcases Nat.eq_zero_or_pos s.length with e | e
  · refine absurd (TL.ext_tl ?_) h
    rw [show TL.tl ("" : Str) = [] by decide]
    exact List.eq_nil_of_length_eq_zero (by rw [← TL.len_tl]; exact e)
  · exact e
theorem okS_iff (s : Str) : okS s = true ↔ ∀ c ∈ TL.tl s, c < 0x110000 := by
  show s.cps.all (· < 0x110000) = true ↔ _
  rw [← Array.all_toList, List.all_eq_true]
  refine forall_congr' fun c => forall_congr' fun _ => decide_eq_true_iff
theorem okS_app {a b : Str} (ha : okS a = true) (hb : okS b = true) : okS (a ++ b) = true := by
  rw [okS_iff] at *
  rw [TL.tl_append]
  intro c hc
  rcases List.mem_append.mp hc with h | h
  · exact ha c h
  · exact hb c h
theorem okS_cut {a : Str} (ha : okS a = true) (l h : Option Int) : okS (cutS a l h) = true := by
  rw [okS_iff] at *
  have e : TL.tl (cutS a l h) = ((TL.tl a).drop (HT.sIx a.length 0 l)).take (HT.sIx a.length a.length h - HT.sIx a.length 0 l) := rfl
  rw [e]
  intro c hc
  exact ha c (List.mem_of_mem_drop (List.mem_of_mem_take hc))
theorem okS_strI (n : Int) : okS (strI n) = true := by
  rw [okS_iff]
  intro c hc
  cases n with
  | ofNat m =>
    rw [show (Int.ofNat m) = (m : Int) from rfl, tl_strI_nat] at hc
    have := TL.numL_digits m c hc
    omega
  | negSucc m =>
    rw [tl_strI_neg] at hc
    rcases List.mem_cons.mp hc with h | h
    · omega
    · have := TL.numL_digits _ c h
      omega
theorem sg_shp {s : Str} (h : okS s = true) (p : Nat → Bool) : SeqAt.shaped (emb ((s.cps.toList.filter p).map (fun c => ((sg c) : Str)))) = true := by
  refine shp_strs fun x hx => ?_
  obtain ⟨c, hc, rfl⟩ := List.mem_map.mp hx
  rw [okS_iff] at *
  intro d hd
  have hd : d ∈ [c] := hd
  rw [List.mem_singleton.mp hd]
  exact h c (List.mem_filter.mp hc).1
/-! ### lemmas: k78 -/
theorem law_digits_iff (s : Str) : law_digits s = true ↔ Figs (TL.tl s) := by
  have hl := TL.len_tl s
  have en : ("" : Str).cps.toList = [] := by decide
  unfold law_digits Figs
  rw [eqv_strsD]
  have ea : decide ((((s.cps.toList).filter (fun sign_1 => (!decide (sign_1 ∈ ("0123456789" : Str).cps.toList)))).map (fun sign_1 => ((sg sign_1) : Str))) = []) = true ↔ ∀ c ∈ TL.tl s, 48 ≤ c ∧ c ≤ 57 := by
    rw [decide_eq_true_eq, List.map_eq_nil_iff, List.filter_eq_nil_iff]
    refine forall_congr' fun c => forall_congr' fun _ => ?_
    rw [mem_figs, Bool.not_eq_true', decide_eq_false_iff_not, Classical.not_not]
  have ee : decide (s = ("" : Str)) = true ↔ s.length = 0 := by
    rw [decide_eq_true_eq]
    constructor
    · intro h; rw [h]; decide
    · intro h; exact TL.ext_tl (by rw [show TL.tl ("" : Str) = [] from en]; exact List.eq_nil_of_length_eq_zero (by omega))
  split
  · rename_i h
    constructor
    · intro e; cases e
    · rintro ⟨h1, h2, h3, _⟩
      rw [ea.mpr h3, Bool.or_eq_true, ee] at h
      simp at h
      omega
  · rename_i h
    rw [Bool.or_eq_true, ee, Bool.or_eq_true, decide_eq_true_eq, Bool.not_eq_true', not_or, not_or, Bool.not_eq_false] at h
    obtain ⟨h1, h2, h3⟩ := h
    rw [Bool.or_eq_true, decide_eq_true_eq, sg_zero, Bool.not_eq_true', decide_eq_false_iff_not]
    have g := getS_zero (s := s) (by omega)
    rw [show s.cps.toList = TL.tl s from rfl] at g
    rw [g, ← hl]
    constructor
    · intro h
      refine ⟨by omega, by omega, ea.mp h3, ?_⟩
      rcases h with h | h
      · left; rw [h]; decide
      · exact .inr fun e => h (by injection e)
    · rintro ⟨_, _, _, h⟩
      by_cases c : getS s 0 = 48
      · left
        have l1 : s.length = 1 := by
          rcases h with h | h
          · exact h
          · exact absurd (by rw [c]) h
        refine TL.ext_tl ?_
        rw [show TL.tl ("0" : Str) = [48] by decide]
        match e : TL.tl s with
        | [] => rw [e] at hl; rw [hl] at l1; cases l1
        | [a] => rw [e] at g; injection g with g; rw [g, c]
        | _ :: _ :: r => rw [e] at hl; rw [List.length_cons, List.length_cons] at hl; omega
      · exact .inr c
theorem digits_eq (s : Str) : law_digits s = are_figures s := Bool.eq_iff_iff.mpr ((law_digits_iff s).trans (are_figures_iff s).symm)
theorem read_eq (s : Str) : read_number s = law_number s := by
  unfold law_number
  rw [head_minus, digits_eq, digits_eq]
  by_cases h : (TL.tl s).head? = some 45
  · rw [if_pos (decide_eq_true h), read_neg h]
    have e0 : decide (s = ("-0" : Str)) = decide (cutS s (some 1) none = ("0" : Str)) := by
      refine decide_eq_decide.mpr ⟨fun e => by rw [e]; decide, fun e => TL.ext_tl ?_⟩
      have e := congrArg TL.tl e
      rw [tl_cut1, show TL.tl ("0" : Str) = [48] by decide] at e
      rw [show TL.tl ("-0" : Str) = [45, 48] by decide]
      cases c : TL.tl s with
      | nil => rw [c] at h; cases h
      | cons a r => rw [c] at h e; injection h with h; rw [h]; rw [show r = [48] from e]
    rw [e0]
    generalize are_figures (cutS s (some 1) none) = a
    generalize decide (cutS s (some 1) none = ("0" : Str)) = b
    cases a <;> cases b <;> rfl
  · rw [if_neg (by rw [decide_eq_false h]; exact Bool.false_ne_true), read_pos h]
    cases are_figures s <;> rfl
theorem ten18 : ((10 : Int) ^ (Int.toNat 18)) = 1000000000000000000 := by decide
theorem ten15 : ((10 : Int) ^ (Int.toNat 15)) = 1000000000000000 := by decide
theorem l1_bd {n : List Int} (h : ∀ i : Int, 0 ≤ i ∧ i < 20 → 0 ≤ getI n i ∧ getI n i < 1009) {i : Nat} {x : Int} (hx : [(getI n (0 : Int)), (-(getI n (1 : Int))), ((((getI n (2 : Int)) % (1000 : Int)) * ((10 : Int) ^ (Int.toNat (15 : Int)))) + (getI n (3 : Int))), (((10 : Int) ^ (Int.toNat (18 : Int))) - (1 : Int)), ((1 : Int) - ((10 : Int) ^ (Int.toNat (18 : Int)))), (0 : Int), (-(1 : Int))][i]? = some x) : -(10 ^ 18) < x ∧ x < 10 ^ 18 := by
  have hm := List.mem_of_getElem? hx
  have h0 := h 0 (by decide)
  have h1 := h 1 (by decide)
  have h2 := h 2 (by decide)
  have h3 := h 3 (by decide)
  rw [ten18, ten15] at hm
  simp only [List.mem_cons, List.not_mem_nil, or_false] at hm
  omega
theorem l2_ok {i : Nat} {x : Str} (hx : [("0" : Str), ("-" : Str), (" " : Str), ("x" : Str), ("1" : Str), ("" : Str), ("+" : Str), ("." : Str), ("\n" : Str)][i]? = some x) : okS x = true := by
  have hm := List.mem_of_getElem? hx
  have : ∀ y ∈ [("0" : Str), ("-" : Str), (" " : Str), ("x" : Str), ("1" : Str), ("" : Str), ("+" : Str), ("." : Str), ("\n" : Str)], okS y = true := by decide +kernel
  exact this x hm
theorem l3_ok {t x2 : Str} {at_1 : Int} (ht : okS t = true) (h2 : okS x2 = true) {i : Nat} {x : Str} (hx : [(((cutS t none (some at_1)) ++ x2) ++ (cutS t (some at_1) none)), (((cutS t none (some at_1)) ++ x2) ++ (cutS t (some (at_1 + (1 : Int))) none)), (t ++ x2), (x2 ++ t)][i]? = some x) : okS x = true := by
  have hm := List.mem_of_getElem? hx
  simp only [List.mem_cons, List.not_mem_nil, or_false] at hm
  rcases hm with rfl | rfl | rfl | rfl
  · exact okS_app (okS_app (okS_cut ht _ _) h2) (okS_cut ht _ _)
  · exact okS_app (okS_app (okS_cut ht _ _) h2) (okS_cut ht _ _)
  · exact okS_app ht h2
  · exact okS_app h2 ht
theorem cat_small {a b t : Str} (ht : 1 ≤ t.length ∧ t.length ≤ 19) {k : Nat} (ha : a.length ≤ 19 + k) (hb : b.length ≤ 19) (hk : k ≤ 20) : a.length + b.length ≤ sizeLine := by
  have := sizeLine_eq
  omega
theorem rep_small (n : Int) : 0 ≤ n % 3 ∧ n % 3 < 2 ^ 62 ∧ ("a" : Str).length * (n % 3).toNat ≤ sizeLine := by
  have := sizeLine_eq
  have e : ("a" : Str).length = 1 := by decide
  rw [e]
  omega
theorem words_join {l : List Str} (h : l.length ≤ 20 ∧ ∀ w ∈ l, w.length ≤ 2 ∧ ∀ c ∈ TL.tl w, c = 97) : (l.map (·.length)).sum + l.length * ("\n" : Str).length ≤ 16777216 := by
  have hs : (l.map (·.length)).sum ≤ l.length * 2 := by
    have : ∀ l : List Str, (∀ w ∈ l, w.length ≤ 2) → (l.map (·.length)).sum ≤ l.length * 2 := by
      intro l
      induction l with
      | nil => intro _; exact Nat.le_refl _
      | cons x l ih =>
        intro h
        have h1 := ih fun w hw => h w (List.mem_cons_of_mem _ hw)
        have h2 := h x List.mem_cons_self
        rw [List.map_cons, List.sum_cons, List.length_cons]
        omega
    exact this l fun w hw => (h.2 w hw).1
  have e : ("\n" : Str).length = 1 := by decide
  have := h.1
  rw [e]
  omega
theorem dig_int {s : Str} (h : law_digits s = true) : PySem.intText? s = some (intS s) ∧ s.length ≤ 640 := fig_int (by rw [← digits_eq]; exact h)
theorem l2_len {i : Nat} {x : Str} (hx : [("0" : Str), ("-" : Str), (" " : Str), ("x" : Str), ("1" : Str), ("" : Str), ("+" : Str), ("." : Str), ("\n" : Str)][i]? = some x) : x.length ≤ 1 := by
  have hm := List.mem_of_getElem? hx
  have : ∀ y ∈ [("0" : Str), ("-" : Str), (" " : Str), ("x" : Str), ("1" : Str), ("" : Str), ("+" : Str), ("." : Str), ("\n" : Str)], y.length ≤ 1 := by decide
  exact this x hm
theorem l3_len {t x2 : Str} {at_1 : Int} (ht : 1 ≤ t.length ∧ t.length ≤ 19) (h2 : x2.length ≤ 1) {i : Nat} {x : Str} (hx : [(((cutS t none (some at_1)) ++ x2) ++ (cutS t (some at_1) none)), (((cutS t none (some at_1)) ++ x2) ++ (cutS t (some (at_1 + (1 : Int))) none)), (t ++ x2), (x2 ++ t)][i]? = some x) : x.length ≤ 100 := by
  have hm := List.mem_of_getElem? hx
  simp only [List.mem_cons, List.not_mem_nil, or_false] at hm
  have c1 := cutS_len t none (some at_1)
  have c2 := cutS_len t (some at_1) none
  have c3 := cutS_len t (some (at_1 + 1)) none
  rcases hm with rfl | rfl | rfl | rfl
  all_goals
    simp only [app_len]
    omega
theorem l4_len {i : Nat} {x : Str} (hx : [("" : Str), ("-" : Str), ("-0" : Str), ("00" : Str), ("01" : Str), (repS ("1" : Str) (19 : Int)), (("-" : Str) ++ (repS ("1" : Str) (19 : Int))), ("--1" : Str), ("1-" : Str), ("1 2" : Str), ("+1" : Str)][i]? = some x) : x.length ≤ 100 := by
  have hm := List.mem_of_getElem? hx
  have : ∀ y ∈ [("" : Str), ("-" : Str), ("-0" : Str), ("00" : Str), ("01" : Str), (repS ("1" : Str) (19 : Int)), (("-" : Str) ++ (repS ("1" : Str) (19 : Int))), ("--1" : Str), ("1-" : Str), ("1 2" : Str), ("+1" : Str)], y.length ≤ 100 := by decide +kernel
  exact this x hm
theorem forF_unit {R α : Type} {f : Unit → α → Fr Unit R} : ∀ {l : List α}, (∀ x ∈ l, f () x = .nx ()) → forF f l () = .nx ()
  | [], _ => rfl
  | x :: l, h => by
    unfold forF
    rw [h x List.mem_cons_self]
    exact forF_unit fun y hy => h y (List.mem_cons_of_mem _ hy)
theorem read_odd : ∀ y ∈ [("" : Str), ("-" : Str), ("-0" : Str), ("00" : Str), ("01" : Str), (repS ("1" : Str) (19 : Int)), (("-" : Str) ++ (repS ("1" : Str) (19 : Int))), ("--1" : Str), ("1-" : Str), ("1 2" : Str), ("+1" : Str)], read_number y = none := by
  have h : ∀ y ∈ [("" : Str), ("-" : Str), ("-0" : Str), ("00" : Str), ("01" : Str), (repS ("1" : Str) (19 : Int)), (("-" : Str) ++ (repS ("1" : Str) (19 : Int))), ("--1" : Str), ("1-" : Str), ("1 2" : Str), ("+1" : Str)], (read_number y).isNone = true := by decide +kernel
  intro y hy
  exact Option.isNone_iff_eq_none.mp (h y hy)
/-! words and lines -/
def Words (l : List Str) : Prop := l.length ≤ 20 ∧ ∀ w ∈ l, w.length ≤ 2 ∧ ∀ c ∈ TL.tl w, c = 97
theorem repS_tl (s : Str) (n : Int) : TL.tl (repS s n) = (List.replicate n.toNat (TL.tl s)).flatten := rfl
theorem words_ok {n : List Int} (hl : n.length = 20) (lo hi : Option Int) : Words ((cut n lo hi).map (fun number_1 => ((repS ("a" : Str) (number_1 % (3 : Int))) : Str))) := by
  refine ⟨by rw [List.length_map]; exact Nat.le_trans (cut_len ..) (by omega), fun w hw => ?_⟩
  obtain ⟨k, _, rfl⟩ := List.mem_map.mp hw
  have h3 : (k % 3).toNat ≤ 2 := by omega
  refine ⟨?_, fun c hc => ?_⟩
  · rw [TL.len_tl, repS_tl, show TL.tl ("a" : Str) = [97] by decide]
    simp only [List.length_flatten, List.map_replicate, List.length_cons, List.length_nil, List.sum_replicate_nat]
    omega
  · rw [repS_tl, show TL.tl ("a" : Str) = [97] by decide] at hc
    obtain ⟨l, hl, hc⟩ := List.mem_flatten.mp hc
    have := List.eq_of_mem_replicate hl
    rw [this] at hc
    exact List.mem_singleton.mp hc
theorem sum_le {k : Nat} : ∀ {l : List Nat}, (∀ x ∈ l, x ≤ k) → l.sum ≤ l.length * k
  | [], _ => Nat.zero_le _
  | x :: l, h => by
    rw [List.sum_cons, List.length_cons, Nat.add_mul]
    have := sum_le (l := l) fun y hy => h y (List.mem_cons_of_mem _ hy)
    have := h x List.mem_cons_self
    omega
theorem words_sum {l : List Str} (h : Words l) : (l.map (·.length)).sum ≤ 40 := by
  have := sum_le (k := 2) (l := l.map (·.length)) fun x hx => by
    obtain ⟨w, hw, rfl⟩ := List.mem_map.mp hx
    exact (h.2 w hw).1
  rw [List.length_map] at this
  have := h.1
  omega
theorem joinL_len (S : List Nat) : ∀ l : List (List Nat), (TL.joinL S l).length ≤ (l.map (·.length)).sum + l.length * S.length
  | [] => Nat.zero_le _
  | [p] => by simp [TL.joinL]
  | p :: q :: r => by
    have := joinL_len S (q :: r)
    show (p ++ (S ++ TL.joinL S (q :: r))).length ≤ _
    rw [List.length_append, List.length_append, List.map_cons, List.sum_cons, List.length_cons (a := p), Nat.add_mul]
    omega
theorem join_len (y : Str) (l : List Str) : (Txt.join y l).length ≤ (l.map (·.length)).sum + l.length * y.length := by
  rw [TL.len_tl, TL.join_eq, TL.tl_join]
  have := joinL_len (TL.tl y) (l.map TL.tl)
  rw [List.map_map, List.length_map, ← TL.len_tl] at this
  refine Nat.le_trans this ?_
  exact Nat.le_refl _
theorem join_small {l : List Str} (h : Words l) : (Txt.join ("\n" : Str) l).length ≤ 1000000 := by
  have h0 := join_len ("\n" : Str) l
  have h2 := words_sum h
  have h3 := h.1
  have e : ("\n" : Str).length = 1 := by decide
  rw [e] at h0
  omega
theorem lines_words {l : List Str} (h : Words l) : lines_of (Txt.join ("\n" : Str) l) = if l.isEmpty = true then [("" : Str)] else l := by
  unfold lines_of
  cases l with
  | nil =>
    have e : Txt.join ("\n" : Str) [] = Txt.join ("\n" : Str) [("" : Str)] := by decide +kernel
    rw [e]
    exact TL.split_join (s := 10) (S := []) (by decide) (by decide +kernel) (by simp) (by decide +kernel)
  | cons w l =>
    refine TL.split_join (s := 10) (S := []) (by decide) (by decide +kernel) (by simp) fun p hp hc => ?_
    have := (h.2 p hp).2 _ hc
    omega
theorem words_shp {l : List Str} (h : Words l) : SeqAt.shaped (emb (if l.isEmpty = true then [("" : Str)] else l)) = true := by
  refine shp_strs fun s hs => ?_
  split at hs
  · rw [List.mem_singleton.mp hs]; decide +kernel
  · have := (h.2 s hs).2
    show s.cps.all (· < 0x110000) = true
    rw [← Array.all_toList, List.all_eq_true]
    intro c hc
    rw [this c hc]; decide
theorem lines_empty : lines_of ("" : Str) = [("" : Str)] := by decide +kernel
theorem lines_nl : lines_of ("\n" : Str) = [("" : Str), ("" : Str)] := by decide +kernel
theorem law_true (script : List Int) : law script = true := by
  have hnl := numbers_len script 0 20
  have hnb := numbers_bd script 0 20
  unfold law
  dsimp only
  generalize law_numbers script 0 20 = n at hnl hnb ⊢
  have hng := numbers_get (m := 20) hnl hnb
  rw [forF_unit]
  · dsimp only [Fr.go]
    rw [forF_unit]
    · dsimp only [Fr.go]
      have hw := words_ok (n := n) hnl (some 5) (some (5 + getI n 6 % 6))
      rw [eqv_strsD, eqv_strsD, eqv_strsD, lines_words hw, lines_empty, lines_nl]
      simp
    · intro x hx
      unfold bd_law_4
      rw [read_odd x hx]
      rfl
  · intro x hx
    obtain ⟨i, hi⟩ := List.getElem?_of_mem hx
    have hb := l1_bd hng hi
    unfold bd_law_1
    dsimp only
    rw [read_strI hb]
    have e : ((!law_is_integer (some x)) || !decide ((some x : Option Int) = some x)) = false := by simp [law_is_integer]
    rw [if_neg (by rw [e]; exact Bool.false_ne_true), forF_unit]
    · rfl
    · intro y hy
      unfold bd_law_2
      rw [forF_unit]
      · rfl
      · intro z hz
        unfold bd_law_3
        rw [read_eq]
        simp
end K78


namespace K78
open PySem L2 Fw Emb
def top (i : Nat) : Stmt := PySem.Challenge.pw_paidatonce_k78_numbers_and_lines.main.body.getD i (.Pass ⟨0, 0, 0, 0⟩)
structure Tx (G : Gc) : Prop where
  b_all : G.mg "all" = none
  b_bool : G.mg "bool" = none
  b_int : G.mg "int" = none
  b_isinstance : G.mg "isinstance" = none
  b_len : G.mg "len" = none
  b_range : G.mg "range" = none
  b_str : G.mg "str" = none
  c_FIGURES : RelC G.mg "FIGURES" (.str ("0123456789" : Str))
  c_MOST_FIGURES : RelC G.mg "MOST_FIGURES" (.int 18)
/-! ### are_figures -/
def R_are_figures : List PyData → Except Exn PyData → Prop := fun ds r => ∃ (text : Str), ds = [(.str text)] ∧ (text.length ≤ 1000000) ∧ r = .ok (.bool (are_figures text))
theorem sc_are_figures : FnScope ["text", "sign"] ["text"] (defScope (top 3)) := ⟨rfl, rfl, rfl, by decide +kernel, rfl, by decide +kernel, by decide +kernel⟩
theorem ok_are_figures {G : Gc} (T : Tx G) {f : Addr} {fd : FuncData} (F : Fun G.K "are_figures" "are_figures" (top 3) f fd) : FnOk G.P G.w G.K G.mg G.base (L2.CX G.P G.w) 1 f fd ["text"] (SpD G R_are_figures) := by
  have hSz := sizeLine_eq
  refine def_body F sc_are_figures (fun ds r h => ?_) (by decide) (fun ds r h => ?_)
  · obtain ⟨_, rfl, _⟩ := h; rfl
  · obtain ⟨text, rfl, hz, rfl⟩ := h
    obtain ⟨q0, hk0⟩ : ∃ q, q = (are_figures text) := ⟨_, rfl⟩
    rw [← hk0]
    have hq0 := hk0
    unfold are_figures at hq0
    show XSs _ _ [.dat (.str text), .junk] _
    refine' xss_if (k := ((!(decide ((1 : Int) ≤ (text.length : Int)) && decide ((text.length : Int) ≤ (18 : Int)))) || (!(((text.cps.toList).map (fun sign_1 => ((decide (sign_1 ∈ ("0123456789" : Str).cps.toList)) : Bool))).all id)))) ?t_1 (fun hb2 => ?a_1) (fun hb2 => ?b_1)
    case t_1 => exact (XW.pt (xw_or (xt_not (xt_lele xe_int (xe_lenS (by first | assumption | omega | decide | (simp; done)) T.b_len (xe_var 0)) (xe_globI T.c_MOST_FIGURES))) (fun hs1 => (xw_or1 (xt_not (xt_val (xe_all rfl T.b_all (XN.xe (xn_lc [("sign", 1)] (xlc_map (fun c => PyData.str (sg c)) (fun sign_1 => ((decide (sign_1 ∈ ("0123456789" : Str).cps.toList)) : Bool)) (xi_str (xe_var 0)) rfl sc_are_figures.nd (by exact (show Str.length _ ≤ _ by omega)) (xg_name 1 sc_are_figures.nd) (by decide) (fun _ _ => Nat.le_of_ble_eq_true rfl) (fun sign_1 hm_sign_1 => (xe_inS (xe_var 1) (xe_globS T.c_FIGURES)))) rfl sc_are_figures.nd)))))))))
    case a_1 =>
      have hp2 := hb2
      try simp only [Bool.and_eq_true, Bool.or_eq_true, Bool.not_eq_true', Bool.not_eq_false', Bool.or_eq_false_iff, Bool.and_eq_false_iff, decide_eq_true_eq, decide_eq_false_iff_not, Bool.not_eq_true, Bool.not_eq_false] at hp2
      rw [if_pos hb2] at hq0
      refine xss_ret (d := (.bool false)) ?_ (by rw [hq0]; try rfl)
      exact xe_bl
    case b_1 =>
      have hp2 := hb2
      try simp only [Bool.and_eq_true, Bool.or_eq_true, Bool.not_eq_true', Bool.not_eq_false', Bool.or_eq_false_iff, Bool.and_eq_false_iff, decide_eq_true_eq, decide_eq_false_iff_not, Bool.not_eq_true, Bool.not_eq_false] at hp2
      rw [if_neg (by rw [hb2]; exact Bool.false_ne_true)] at hq0
      refine xss_nil ?_
      show XSs _ _ [.dat (.str text), .junk] _
      refine xss_ret (d := (.bool ((decide ((text.length : Int) = (1 : Int))) || (!decide ((sg (getS text (0 : Int))) = ("0" : Str)))))) ?_ (by rw [hq0]; try rfl)
      exact (xe_or (xe_eqI (xe_lenS (by first | assumption | omega | decide | (simp; done)) T.b_len (xe_var 0)) xe_int) (fun hs3 => (xe_one (xe_neS (xe_ixC (by first | assumption | omega | decide | (simp; done)) (by exact ⟨by omega, by omega⟩) (xe_var 0) xe_int) xe_str))))
/-! ### read_number -/
def R_read_number : List PyData → Except Exn PyData → Prop := fun ds r => ∃ (text : Str), ds = [(.str text)] ∧ (text.length ≤ 1000000) ∧ r = .ok (emb ((read_number text) : (Option Int)))
theorem sc_read_number : FnScope ["text", "rest"] ["text"] (defScope (top 4)) := ⟨rfl, rfl, rfl, by decide +kernel, rfl, by decide +kernel, by decide +kernel⟩
theorem ok_read_number {G : Gc} (T : Tx G) (D_are_figures : DefD G "are_figures" 1 ["text"] R_are_figures) {f : Addr} {fd : FuncData} (F : Fun G.K "read_number" "read_number" (top 4) f fd) : FnOk G.P G.w G.K G.mg G.base (L2.CX G.P G.w) 2 f fd ["text"] (SpD G R_read_number) := by
  have hSz := sizeLine_eq
  refine def_body F sc_read_number (fun ds r h => ?_) (by decide) (fun ds r h => ?_)
  · obtain ⟨_, rfl, _⟩ := h; rfl
  · obtain ⟨text, rfl, hz, rfl⟩ := h
    obtain ⟨q0, hk0⟩ : ∃ q, q = (read_number text) := ⟨_, rfl⟩
    rw [← hk0]
    have hq0 := hk0
    unfold read_number at hq0
    show XSs _ _ [.dat (.str text), .junk] _
    refine' xss_if (k := (Txt.startswith text ("-" : Str))) ?t_1 (fun hb1 => ?a_1) (fun hb1 => ?b_1)
    case t_1 => exact (xt_val (xe_starts (xe_var 0) xe_str))
    case a_1 =>
      have hp1 := hb1
      try simp only [Bool.and_eq_true, Bool.or_eq_true, Bool.not_eq_true', Bool.not_eq_false', Bool.or_eq_false_iff, Bool.and_eq_false_iff, decide_eq_true_eq, decide_eq_false_iff_not, Bool.not_eq_true, Bool.not_eq_false] at hp1
      rw [if_pos hb1] at hq0
      extract_lets +onlyGivenNames rest_1 at hq0
      have hx_rest_1 : rest_1 = ((cutS text (some (1 : Int)) none) : Str) := rfl
      clear_value rest_1
      refine' xss_setE hx_rest_1 1 sc_read_number.nd ?t_2 ?k_2
      case t_2 => exact (xe_slS (by first | assumption | omega | decide | (simp; done)) (xe_var 0) (xo_some xe_int) xo_none)
      case k_2 =>
        show XSs _ _ [.dat (.str text), .dat (.str rest_1)] _
        refine xss_ret (d := (emb ((if ((are_figures rest_1) && (!decide (rest_1 = ("0" : Str)))) = true then (some (-(intS rest_1))) else (none : (Option Int))) : (Option Int)))) ?_ (by rw [hq0]; try rfl)
        exact (xe_if (k := ((are_figures rest_1) && (!decide (rest_1 = ("0" : Str))))) (XW.pt (xw_and (xt_val (xe_call D_are_figures (Nat.le_of_ble_eq_true rfl) rfl ⟨rest_1, rfl, (by rw [hx_rest_1]; exact Nat.le_trans (cutS_len ..) hz), rfl⟩ (xa_cons (xe_var 1) xa_nil))) (fun hs2 => (xw_and1 (xt_neS (xe_var 1) xe_str))))) (fun hc1 => XE.to (xe_neg (xe_intS (by exact (fig_int (Bool.and_eq_true_iff.mp hc1).1).1) (by exact (fig_int (Bool.and_eq_true_iff.mp hc1).1).2) T.b_int (xe_var 1))) (by rw [if_pos hc1]; try rfl)) (fun hc1 => XE.to xe_non (by rw [if_neg (by rw [hc1]; exact Bool.false_ne_true)]; try rfl)))
    case b_1 =>
      have hp1 := hb1
      try simp only [Bool.and_eq_true, Bool.or_eq_true, Bool.not_eq_true', Bool.not_eq_false', Bool.or_eq_false_iff, Bool.and_eq_false_iff, decide_eq_true_eq, decide_eq_false_iff_not, Bool.not_eq_true, Bool.not_eq_false] at hp1
      rw [if_neg (by rw [hb1]; exact Bool.false_ne_true)] at hq0
      refine xss_nil ?_
      show XSs _ _ [.dat (.str text), .junk] _
      refine xss_ret (d := (emb ((if (are_figures text) = true then (some (intS text)) else (none : (Option Int))) : (Option Int)))) ?_ (by rw [hq0]; try rfl)
      exact (xe_if (k := (are_figures text)) (xt_val (xe_call D_are_figures (Nat.le_of_ble_eq_true rfl) rfl ⟨text, rfl, (by first | assumption | omega | decide | (simp; done)), rfl⟩ (xa_cons (xe_var 0) xa_nil))) (fun hc2 => XE.to (xe_intS (by exact (fig_int hc2).1) (by exact (fig_int hc2).2) T.b_int (xe_var 0)) (by rw [if_pos hc2]; try rfl)) (fun hc2 => XE.to xe_non (by rw [if_neg (by rw [hc2]; exact Bool.false_ne_true)]; try rfl)))
/-! ### lines_of -/
def R_lines_of : List PyData → Except Exn PyData → Prop := fun ds r => ∃ (text : Str), ds = [(.str text)] ∧ (text.length ≤ 1000000) ∧ r = .ok (emb ((lines_of text) : (List Str)))
theorem sc_lines_of : FnScope ["text"] ["text"] (defScope (top 5)) := ⟨rfl, rfl, rfl, by decide +kernel, rfl, by decide +kernel, by decide +kernel⟩
theorem ok_lines_of {G : Gc} (T : Tx G) {f : Addr} {fd : FuncData} (F : Fun G.K "lines_of" "lines_of" (top 5) f fd) : FnOk G.P G.w G.K G.mg G.base (L2.CX G.P G.w) 1 f fd ["text"] (SpD G R_lines_of) := by
  have hSz := sizeLine_eq
  refine def_body F sc_lines_of (fun ds r h => ?_) (by decide) (fun ds r h => ?_)
  · obtain ⟨_, rfl, _⟩ := h; rfl
  · obtain ⟨text, rfl, hz, rfl⟩ := h
    obtain ⟨q0, hk0⟩ : ∃ q, q = (lines_of text) := ⟨_, rfl⟩
    rw [← hk0]
    have hq0 := hk0
    unfold lines_of at hq0
    show XSs _ _ [.dat (.str text)] _
    refine xss_ret (d := (emb ((Txt.split text ("\n" : Str)) : (List Str)))) ?_ (by rw [hq0]; try rfl)
    exact (XN.xe (xn_split (by rfl) (by first | assumption | omega | decide | (simp; done)) (xe_var 0) xe_str))
/-! ### _law_numbers -/
def R_law_numbers : List PyData → Except Exn PyData → Prop := fun ds r => ∃ (script : List Int) (at_ : Int) (many : Int), ds = [(scrD script), (.int at_), (.int many)] ∧ (0 ≤ at_) ∧ (0 ≤ many ∧ many ≤ 1000) ∧ r = .ok (emb ((law_numbers script at_ many) : (List Int)))
theorem sc_law_numbers : FnScope ["script", "at", "many", "cell", "numbers", "k", "mixed"] ["script", "at", "many"] (defScope (top 7)) := ⟨rfl, rfl, rfl, by decide +kernel, rfl, by decide +kernel, by decide +kernel⟩
theorem ok_law_numbers {G : Gc} (T : Tx G) {f : Addr} {fd : FuncData} (F : Fun G.K "_law_numbers" "_law_numbers" (top 7) f fd) : FnOk G.P G.w G.K G.mg G.base (L2.CX G.P G.w) 1 f fd ["script", "at", "many"] (SpD G R_law_numbers) := by
  have hSz := sizeLine_eq
  refine def_body F sc_law_numbers (fun ds r h => ?_) (by decide) (fun ds r h => ?_)
  · obtain ⟨_, _, _, rfl, _⟩ := h; rfl
  · obtain ⟨script, at_, many, rfl, ha, hm, rfl⟩ := h
    obtain ⟨q0, hk0⟩ : ∃ q, q = (law_numbers script at_ many) := ⟨_, rfl⟩
    rw [← hk0]
    have hq0 := hk0
    unfold law_numbers at hq0
    show XSs _ _ [.dat (scrD script), .dat (.int at_), .dat (.int many), .junk, .junk, .junk, .junk] _
    extract_lets +onlyGivenNames cell_1 at hq0
    have hx_cell_1 : cell_1 = (((1000003 : Int) * (at_ + (1 : Int))) : Int) := rfl
    clear_value cell_1
    refine' xss_setE hx_cell_1 3 sc_law_numbers.nd ?t_1 ?k_1
    case t_1 => exact (xe_mul (by exact .inl ⟨by decide, by decide⟩) xe_int (xe_add (xe_var 1) xe_int))
    case k_1 =>
      show XSs _ _ [.dat (scrD script), .dat (.int at_), .dat (.int many), .dat (.int cell_1), .junk, .junk, .junk] _
      extract_lets +onlyGivenNames cell_2 at hq0
      have hx_cell_2 : cell_2 = (if (decide (at_ < (script.length : Int))) = true then (getI script at_) else cell_1 : Int) := rfl
      clear_value cell_2
      refine' xss_ifJ (k := (decide (at_ < (script.length : Int)))) [.dat (scrD script), .dat (.int at_), .dat (.int many), .dat (.int cell_2), .junk, .junk, .junk] ?t_2 (fun hb1 => ?a_2) (fun hb1 => ?b_2) ?k_2
      case t_2 => exact (xt_lt (xe_var 1) (xe_lenScr T.b_len (xe_var 0)))
      case a_2 =>
        have hp1 := hb1
        try simp only [Bool.and_eq_true, Bool.or_eq_true, Bool.not_eq_true', Bool.not_eq_false', Bool.or_eq_false_iff, Bool.and_eq_false_iff, decide_eq_true_eq, decide_eq_false_iff_not, Bool.not_eq_true, Bool.not_eq_false] at hp1
        rw [if_pos hb1] at hx_cell_2
        subst hx_cell_2
        refine xss_setE (v := (getI script at_)) rfl 3 sc_law_numbers.nd ?_ ?_
        · exact (xe_intI T.b_int (xe_ixR (by exact ⟨by omega, by omega⟩) (xe_var 0) (xe_var 1)))
        exact xss_nil (Le.cs (Le.cs (Le.cs (Le.cs (Le.cj (Le.cj (Le.cj Le.nil)))))))
      case b_2 =>
        have hp1 := hb1
        try simp only [Bool.and_eq_true, Bool.or_eq_true, Bool.not_eq_true', Bool.not_eq_false', Bool.or_eq_false_iff, Bool.and_eq_false_iff, decide_eq_true_eq, decide_eq_false_iff_not, Bool.not_eq_true, Bool.not_eq_false] at hp1
        rw [if_neg (by rw [hb1]; exact Bool.false_ne_true)] at hx_cell_2
        subst hx_cell_2
        exact xss_nil (Le.cs (Le.cs (Le.cs (Le.cs (Le.cj (Le.cj (Le.cj Le.nil)))))))
      case k_2 =>
        extract_lets +onlyGivenNames cell_3 at hq0
        have hx_cell_3 : cell_3 = (if (decide (cell_2 < (0 : Int))) = true then ((1 : Int) - ((2 : Int) * cell_2)) else cell_2 : Int) := rfl
        clear_value cell_3
        refine' xss_ifJ (k := (decide (cell_2 < (0 : Int)))) [.dat (scrD script), .dat (.int at_), .dat (.int many), .dat (.int cell_3), .junk, .junk, .junk] ?t_3 (fun hb2 => ?a_3) (fun hb2 => ?b_3) ?k_3
        case t_3 => exact (xt_lt (xe_var 3) xe_int)
        case a_3 =>
          have hp2 := hb2
          try simp only [Bool.and_eq_true, Bool.or_eq_true, Bool.not_eq_true', Bool.not_eq_false', Bool.or_eq_false_iff, Bool.and_eq_false_iff, decide_eq_true_eq, decide_eq_false_iff_not, Bool.not_eq_true, Bool.not_eq_false] at hp2
          rw [if_pos hb2] at hx_cell_3
          subst hx_cell_3
          refine xss_setE (v := ((1 : Int) - ((2 : Int) * cell_2))) rfl 3 sc_law_numbers.nd ?_ ?_
          · exact (xe_sub xe_int (xe_mul (by exact .inl ⟨by decide, by decide⟩) xe_int (xe_var 3)))
          exact xss_nil (Le.cs (Le.cs (Le.cs (Le.cs (Le.cj (Le.cj (Le.cj Le.nil)))))))
        case b_3 =>
          have hp2 := hb2
          try simp only [Bool.and_eq_true, Bool.or_eq_true, Bool.not_eq_true', Bool.not_eq_false', Bool.or_eq_false_iff, Bool.and_eq_false_iff, decide_eq_true_eq, decide_eq_false_iff_not, Bool.not_eq_true, Bool.not_eq_false] at hp2
          rw [if_neg (by rw [hb2]; exact Bool.false_ne_true)] at hx_cell_3
          subst hx_cell_3
          exact xss_nil (Le.cs (Le.cs (Le.cs (Le.cs (Le.cj (Le.cj (Le.cj Le.nil)))))))
        case k_3 =>
          extract_lets +onlyGivenNames numbers_1 at hq0
          have hx_numbers_1 : numbers_1 = (([] : (List Int)) : (List Int)) := rfl
          clear_value numbers_1
          refine' xss_setNE hx_numbers_1 4 sc_law_numbers.nd ?t_4 ?k_4
          case t_4 => exact (xn_lst xa_nil)
          case k_4 =>
            show XSs _ _ [.dat (scrD script), .dat (.int at_), .dat (.int many), .dat (.int cell_3), .own (.lst (numbers_1.map (emb : Int → PyData))), .junk, .junk] _
            extract_lets +onlyGivenNames fin_1 at hq0
            have hF1 : fin_1 = (rng 0 (Int.toNat many)).foldl (bd_law_numbers_1 at_) (T2.mk numbers_1 cell_3) := rfl
            clear_value fin_1
            refine' xss_forS (emb : Int → PyData) (fun (s1 : (T2 (List Int) Int)) => ([.dat (scrD script), .dat (.int at_), .dat (.int many), .dat (.int s1.p1), .own (.lst (s1.p0.map (emb : Int → PyData))), .junk, .junk] : Evm)) (bd_law_numbers_1 at_) (T2.mk numbers_1 cell_3) hF1 ?i_5 rfl (xgc_name 5 sc_law_numbers.nd) (Le.cs (Le.cs (Le.cs (Le.cs (Le.cs (Le.cj (Le.cj Le.nil))))))) (fun i1 x1 s1 hx1 hist1 => ?tn_5) ?k_5
            case i_5 => exact (xi_range1 (by exact ⟨by omega, by omega⟩) T.b_range (xe_var 2))
            case tn_5 =>
              refine ⟨by exact Nat.le_of_ble_eq_true rfl, ?_⟩
              obtain ⟨q1, hk1⟩ : ∃ q, q = (bd_law_numbers_1 at_) s1 x1 := ⟨_, rfl⟩
              have hq1 := hk1
              unfold bd_law_numbers_1 at hq1
              show XSs _ _ [.dat (scrD script), .dat (.int at_), .dat (.int many), .dat (.int s1.p1), .own (.lst (s1.p0.map (emb : Int → PyData))), .dat (.int x1), .junk] _
              extract_lets +onlyGivenNames numbers_2 at hq1
              have hx_numbers_2 : numbers_2 = (if (decide (((10 : Int) ^ (Int.toNat (18 : Int))) ≤ s1.p1)) = true then (s1.p0 ++ [(s1.p1 % (1009 : Int))]) else (s1.p0 ++ [(((((((((s1.p1 * (48271 : Int)) + ((x1 + (1 : Int)) * (69621 : Int))) + (at_ * (4001 : Int))) % (2147483647 : Int)) * ((((s1.p1 * (48271 : Int)) + ((x1 + (1 : Int)) * (69621 : Int))) + (at_ * (4001 : Int))) % (2147483647 : Int))) + ((16807 : Int) * (x1 + (3 : Int)))) % (2147483629 : Int)) / (7 : Int)) % (1009 : Int))]) : (List Int)) := rfl
              clear_value numbers_2
              extract_lets +onlyGivenNames cell_4 at hq1
              have hx_cell_4 : cell_4 = (if (decide (((10 : Int) ^ (Int.toNat (18 : Int))) ≤ s1.p1)) = true then (s1.p1 / (1009 : Int)) else s1.p1 : Int) := rfl
              clear_value cell_4
              refine' xss_ifJ (k := (decide (((10 : Int) ^ (Int.toNat (18 : Int))) ≤ s1.p1))) [.dat (scrD script), .dat (.int at_), .dat (.int many), .dat (.int cell_4), .own (.lst (numbers_2.map (emb : Int → PyData))), .dat (.int x1), .junk] ?t_6 (fun hb3 => ?a_6) (fun hb3 => ?b_6) ?k_6
              case t_6 => exact (xt_ge (xe_var 3) (xe_pow (by exact ⟨by decide, by decide, by decide⟩) xe_int xe_int))
              case a_6 =>
                have hp3 := hb3
                try simp only [Bool.and_eq_true, Bool.or_eq_true, Bool.not_eq_true', Bool.not_eq_false', Bool.or_eq_false_iff, Bool.and_eq_false_iff, decide_eq_true_eq, decide_eq_false_iff_not, Bool.not_eq_true, Bool.not_eq_false] at hp3
                rw [if_pos hb3] at hx_numbers_2
                rw [if_pos hb3] at hx_cell_4
                subst hx_numbers_2
                subst hx_cell_4
                refine xss_appE (v := (s1.p0 ++ [(s1.p1 % (1009 : Int))])) rfl 4 (by exact ln_app hist1 hx_numbers_1 hm) ?_ ?_
                · exact (xe_mod (by decide) (xe_var 3) xe_int)
                refine xss_setE (v := (s1.p1 / (1009 : Int))) rfl 3 sc_law_numbers.nd ?_ ?_
                · exact (xe_div (by exact ⟨by decide, by decide⟩) (xe_var 3) xe_int)
                exact xss_nil (Le.cs (Le.cs (Le.cs (Le.cs (Le.cs (Le.cs (Le.cj Le.nil)))))))
              case b_6 =>
                have hp3 := hb3
                try simp only [Bool.and_eq_true, Bool.or_eq_true, Bool.not_eq_true', Bool.not_eq_false', Bool.or_eq_false_iff, Bool.and_eq_false_iff, decide_eq_true_eq, decide_eq_false_iff_not, Bool.not_eq_true, Bool.not_eq_false] at hp3
                rw [if_neg (by rw [hb3]; exact Bool.false_ne_true)] at hx_numbers_2
                rw [if_neg (by rw [hb3]; exact Bool.false_ne_true)] at hx_cell_4
                subst hx_numbers_2
                subst hx_cell_4
                refine xss_setE (v := ((((s1.p1 * (48271 : Int)) + ((x1 + (1 : Int)) * (69621 : Int))) + (at_ * (4001 : Int))) % (2147483647 : Int))) rfl 6 sc_law_numbers.nd ?_ ?_
                · exact (xe_mod (by decide) (xe_add (xe_add (xe_mul (by exact .inr ⟨by decide, by decide⟩) (xe_var 3) xe_int) (xe_mul (by exact .inr ⟨by decide, by decide⟩) (xe_add (xe_var 5) xe_int) xe_int)) (xe_mul (by exact .inr ⟨by decide, by decide⟩) (xe_var 1) xe_int)) xe_int)
                refine xss_setE (v := (((((((s1.p1 * (48271 : Int)) + ((x1 + (1 : Int)) * (69621 : Int))) + (at_ * (4001 : Int))) % (2147483647 : Int)) * ((((s1.p1 * (48271 : Int)) + ((x1 + (1 : Int)) * (69621 : Int))) + (at_ * (4001 : Int))) % (2147483647 : Int))) + ((16807 : Int) * (x1 + (3 : Int)))) % (2147483629 : Int))) rfl 6 sc_law_numbers.nd ?_ ?_
                · exact (xe_mod (by decide) (xe_add (xe_mul (by exact .inl ⟨by omega, by omega⟩) (xe_var 6) (xe_var 6)) (xe_mul (by exact .inl ⟨by decide, by decide⟩) xe_int (xe_add (xe_var 5) xe_int))) xe_int)
                refine xss_appE (v := (s1.p0 ++ [(((((((((s1.p1 * (48271 : Int)) + ((x1 + (1 : Int)) * (69621 : Int))) + (at_ * (4001 : Int))) % (2147483647 : Int)) * ((((s1.p1 * (48271 : Int)) + ((x1 + (1 : Int)) * (69621 : Int))) + (at_ * (4001 : Int))) % (2147483647 : Int))) + ((16807 : Int) * (x1 + (3 : Int)))) % (2147483629 : Int)) / (7 : Int)) % (1009 : Int))])) rfl 4 (by exact ln_app hist1 hx_numbers_1 hm) ?_ ?_
                · exact (xe_mod (by decide) (xe_div (by exact ⟨by decide, by decide⟩) (xe_var 6) xe_int) xe_int)
                exact xss_nil (Le.cs (Le.cs (Le.cs (Le.cs (Le.cs (Le.cs (Le.cj Le.nil)))))))
              case k_6 =>
                exact xss_nil (by rw [← hk1, hq1]; exact (Le.cs (Le.cs (Le.cs (Le.cs (Le.cs (Le.cj (Le.cj Le.nil))))))))
            case k_5 =>
              show XSs _ _ [.dat (scrD script), .dat (.int at_), .dat (.int many), .dat (.int fin_1.p1), .own (.lst (fin_1.p0.map (emb : Int → PyData))), .junk, .junk] _
              refine xss_frz 4 ?_
              refine xss_ret (d := (emb (fin_1.p0 : (List Int)))) ?_ (by rw [hq0]; try rfl)
              exact (xe_var 4)
/-! ### _law_is_integer -/
def R_law_is_integer : List PyData → Except Exn PyData → Prop := fun ds r => ∃ (value : (Option Int)), ds = [(emb (value : (Option Int)))] ∧ r = .ok (.bool (law_is_integer value))
theorem sc_law_is_integer : FnScope ["value"] ["value"] (defScope (top 8)) := ⟨rfl, rfl, rfl, by decide +kernel, rfl, by decide +kernel, by decide +kernel⟩
theorem ok_law_is_integer {G : Gc} (T : Tx G) {f : Addr} {fd : FuncData} (F : Fun G.K "_law_is_integer" "_law_is_integer" (top 8) f fd) : FnOk G.P G.w G.K G.mg G.base (L2.CX G.P G.w) 1 f fd ["value"] (SpD G R_law_is_integer) := by
  have hSz := sizeLine_eq
  refine def_body F sc_law_is_integer (fun ds r h => ?_) (by decide) (fun ds r h => ?_)
  · obtain ⟨_, rfl, _⟩ := h; rfl
  · obtain ⟨value, rfl, rfl⟩ := h
    obtain ⟨q0, hk0⟩ : ∃ q, q = (law_is_integer value) := ⟨_, rfl⟩
    rw [← hk0]
    have hq0 := hk0
    unfold law_is_integer at hq0
    show XSs _ _ [.dat (emb (value : (Option Int)))] _
    refine xss_ret (d := (.bool ((value.isSome) && (!false)))) ?_ (by rw [hq0]; try rfl)
    exact (xe_and (xe_isi (k := (value.isSome)) (opt_noScr _) (opt_kit_int _) T.b_isinstance T.b_int (by decide +kernel) (xe_var 0)) (fun hs1 => (xe_one (xe_not (xe_isi (k := false) (opt_noScr _) (opt_kit_bool _) T.b_isinstance T.b_bool (by decide +kernel) (xe_var 0))))))
/-! ### _law_digits -/
def R_law_digits : List PyData → Except Exn PyData → Prop := fun ds r => ∃ (text : Str), ds = [(.str text)] ∧ (text.length ≤ 1000000) ∧ (okS text = true) ∧ r = .ok (.bool (law_digits text))
theorem sc_law_digits : FnScope ["text", "sign"] ["text"] (defScope (top 9)) := ⟨rfl, rfl, rfl, by decide +kernel, rfl, by decide +kernel, by decide +kernel⟩
theorem ok_law_digits {G : Gc} (T : Tx G) {f : Addr} {fd : FuncData} (F : Fun G.K "_law_digits" "_law_digits" (top 9) f fd) : FnOk G.P G.w G.K G.mg G.base (L2.CX G.P G.w) 1 f fd ["text"] (SpD G R_law_digits) := by
  have hSz := sizeLine_eq
  refine def_body F sc_law_digits (fun ds r h => ?_) (by decide) (fun ds r h => ?_)
  · obtain ⟨_, rfl, _⟩ := h; rfl
  · obtain ⟨text, rfl, hz, hok, rfl⟩ := h
    obtain ⟨q0, hk0⟩ : ∃ q, q = (law_digits text) := ⟨_, rfl⟩
    rw [← hk0]
    have hq0 := hk0
    unfold law_digits at hq0
    show XSs _ _ [.dat (.str text), .junk] _
    refine' xss_if (k := ((decide (text = ("" : Str))) || ((decide ((18 : Int) < (text.length : Int))) || (!PyData.eqv (emb ((((text.cps.toList).filter (fun sign_1 => (!decide (sign_1 ∈ ("0123456789" : Str).cps.toList)))).map (fun sign_1 => ((sg sign_1) : Str))) : (List Str))) (emb (([] : (List Str)) : (List Str))))))) ?t_1 (fun hb3 => ?a_1) (fun hb3 => ?b_1)
    case t_1 => exact (XW.pt (xw_or (xt_eqS (xe_var 0) xe_str) (fun hs2 => (xw_or (xt_gt (xe_lenS (by first | assumption | omega | decide | (simp; done)) T.b_len (xe_var 0)) xe_int) (fun hs1 => (xw_or1 (xt_neD (x := (emb ((((text.cps.toList).filter (fun sign_1 => (!decide (sign_1 ∈ ("0123456789" : Str).cps.toList)))).map (fun sign_1 => ((sg sign_1) : Str))) : (List Str)))) (y := (emb (([] : (List Str)) : (List Str)))) (by exact sg_shp hok _) (by decide +kernel) (XN.xe (xn_lc [("sign", 1)] (xlc_filter (fun c => PyData.str (sg c)) (fun sign_1 => ((sg sign_1) : Str)) (fun sign_1 => (!decide (sign_1 ∈ ("0123456789" : Str).cps.toList))) (xi_str (xe_var 0)) rfl sc_law_digits.nd (by exact (show Str.length _ ≤ _ by omega)) (xg_name 1 sc_law_digits.nd) (by decide) (fun _ _ => Nat.le_of_ble_eq_true rfl) (fun sign_1 hm_sign_1 => (xt_notInS (xe_var 1) xe_str)) (fun sign_1 hm_sign_1 hf_sign_1 => (xe_var 1))) rfl sc_law_digits.nd)) (XN.xe (xn_lst xa_nil)))))))))
    case a_1 =>
      have hp3 := hb3
      try simp only [Bool.and_eq_true, Bool.or_eq_true, Bool.not_eq_true', Bool.not_eq_false', Bool.or_eq_false_iff, Bool.and_eq_false_iff, decide_eq_true_eq, decide_eq_false_iff_not, Bool.not_eq_true, Bool.not_eq_false] at hp3
      rw [if_pos hb3] at hq0
      refine xss_ret (d := (.bool false)) ?_ (by rw [hq0]; try rfl)
      exact xe_bl
    case b_1 =>
      have hp3 := hb3
      try simp only [Bool.and_eq_true, Bool.or_eq_true, Bool.not_eq_true', Bool.not_eq_false', Bool.or_eq_false_iff, Bool.and_eq_false_iff, decide_eq_true_eq, decide_eq_false_iff_not, Bool.not_eq_true, Bool.not_eq_false] at hp3
      rw [if_neg (by rw [hb3]; exact Bool.false_ne_true)] at hq0
      refine xss_nil ?_
      show XSs _ _ [.dat (.str text), .junk] _
      refine xss_ret (d := (.bool ((decide (text = ("0" : Str))) || (!decide ((sg (getS text (0 : Int))) = ("0" : Str)))))) ?_ (by rw [hq0]; try rfl)
      exact (xe_or (xe_eqS (xe_var 0) xe_str) (fun hs4 => (xe_one (xe_neS (xe_ixC (by first | assumption | omega | decide | (simp; done)) (by have := len_pos hp3.1; exact ⟨by omega, by omega⟩) (xe_var 0) xe_int) xe_str))))
/-! ### _law_number -/
def R_law_number : List PyData → Except Exn PyData → Prop := fun ds r => ∃ (text : Str), ds = [(.str text)] ∧ (text.length ≤ 1000000) ∧ (okS text = true) ∧ r = .ok (emb ((law_number text) : (Option Int)))
theorem sc_law_number : FnScope ["text"] ["text"] (defScope (top 10)) := ⟨rfl, rfl, rfl, by decide +kernel, rfl, by decide +kernel, by decide +kernel⟩
theorem ok_law_number {G : Gc} (T : Tx G) (D__law_digits : DefD G "_law_digits" 1 ["text"] R_law_digits) {f : Addr} {fd : FuncData} (F : Fun G.K "_law_number" "_law_number" (top 10) f fd) : FnOk G.P G.w G.K G.mg G.base (L2.CX G.P G.w) 2 f fd ["text"] (SpD G R_law_number) := by
  have hSz := sizeLine_eq
  refine def_body F sc_law_number (fun ds r h => ?_) (by decide) (fun ds r h => ?_)
  · obtain ⟨_, rfl, _⟩ := h; rfl
  · obtain ⟨text, rfl, hz, hok, rfl⟩ := h
    obtain ⟨q0, hk0⟩ : ∃ q, q = (law_number text) := ⟨_, rfl⟩
    rw [← hk0]
    have hq0 := hk0
    unfold law_number at hq0
    show XSs _ _ [.dat (.str text)] _
    refine' xss_if (k := (decide ((cutS text none (some (1 : Int))) = ("-" : Str)))) ?t_1 (fun hb1 => ?a_1) (fun hb1 => ?b_1)
    case t_1 => exact (xt_eqS (xe_slS (by first | assumption | omega | decide | (simp; done)) (xe_var 0) xo_none (xo_some xe_int)) xe_str)
    case a_1 =>
      have hp1 := hb1
      try simp only [Bool.and_eq_true, Bool.or_eq_true, Bool.not_eq_true', Bool.not_eq_false', Bool.or_eq_false_iff, Bool.and_eq_false_iff, decide_eq_true_eq, decide_eq_false_iff_not, Bool.not_eq_true, Bool.not_eq_false] at hp1
      rw [if_pos hb1] at hq0
      refine' xss_if (k := ((!(law_digits (cutS text (some (1 : Int)) none))) || (decide (text = ("-0" : Str))))) ?t_2 (fun hb3 => ?a_2) (fun hb3 => ?b_2)
      case t_2 => exact (XW.pt (xw_or (xt_not (xt_val (xe_call D__law_digits (Nat.le_of_ble_eq_true rfl) rfl ⟨(cutS text (some (1 : Int)) none), rfl, (by exact Nat.le_trans (cutS_len ..) hz), (by exact okS_cut hok _ _), rfl⟩ (xa_cons (xe_slS (by first | assumption | omega | decide | (simp; done)) (xe_var 0) (xo_some xe_int) xo_none) xa_nil)))) (fun hs2 => (xw_or1 (xt_eqS (xe_var 0) xe_str)))))
      case a_2 =>
        have hp3 := hb3
        try simp only [Bool.and_eq_true, Bool.or_eq_true, Bool.not_eq_true', Bool.not_eq_false', Bool.or_eq_false_iff, Bool.and_eq_false_iff, decide_eq_true_eq, decide_eq_false_iff_not, Bool.not_eq_true, Bool.not_eq_false] at hp3
        rw [if_pos hb3] at hq0
        refine xss_ret (d := (emb ((none : (Option Int)) : (Option Int)))) ?_ (by rw [hq0]; try rfl)
        exact xe_non
      case b_2 =>
        have hp3 := hb3
        try simp only [Bool.and_eq_true, Bool.or_eq_true, Bool.not_eq_true', Bool.not_eq_false', Bool.or_eq_false_iff, Bool.and_eq_false_iff, decide_eq_true_eq, decide_eq_false_iff_not, Bool.not_eq_true, Bool.not_eq_false] at hp3
        rw [if_neg (by rw [hb3]; exact Bool.false_ne_true)] at hq0
        refine xss_nil ?_
        show XSs _ _ [.dat (.str text)] _
        refine xss_ret (d := (emb ((some (-(intS (cutS text (some (1 : Int)) none)))) : (Option Int)))) ?_ (by rw [hq0]; try rfl)
        exact (xe_neg (xe_intS (by exact (dig_int hp3.1).1) (by exact (dig_int hp3.1).2) T.b_int (xe_slS (by first | assumption | omega | decide | (simp; done)) (xe_var 0) (xo_some xe_int) xo_none)))
    case b_1 =>
      have hp1 := hb1
      try simp only [Bool.and_eq_true, Bool.or_eq_true, Bool.not_eq_true', Bool.not_eq_false', Bool.or_eq_false_iff, Bool.and_eq_false_iff, decide_eq_true_eq, decide_eq_false_iff_not, Bool.not_eq_true, Bool.not_eq_false] at hp1
      rw [if_neg (by rw [hb1]; exact Bool.false_ne_true)] at hq0
      refine xss_nil ?_
      show XSs _ _ [.dat (.str text)] _
      refine' xss_if (k := (!(law_digits text))) ?t_3 (fun hb4 => ?a_3) (fun hb4 => ?b_3)
      case t_3 => exact (xt_not (xt_val (xe_call D__law_digits (Nat.le_of_ble_eq_true rfl) rfl ⟨text, rfl, (by first | assumption | omega | decide | (simp; done)), (by first | assumption | omega | decide | (simp; done)), rfl⟩ (xa_cons (xe_var 0) xa_nil))))
      case a_3 =>
        have hp4 := hb4
        try simp only [Bool.and_eq_true, Bool.or_eq_true, Bool.not_eq_true', Bool.not_eq_false', Bool.or_eq_false_iff, Bool.and_eq_false_iff, decide_eq_true_eq, decide_eq_false_iff_not, Bool.not_eq_true, Bool.not_eq_false] at hp4
        rw [if_pos hb4] at hq0
        refine xss_ret (d := (emb ((none : (Option Int)) : (Option Int)))) ?_ (by rw [hq0]; try rfl)
        exact xe_non
      case b_3 =>
        have hp4 := hb4
        try simp only [Bool.and_eq_true, Bool.or_eq_true, Bool.not_eq_true', Bool.not_eq_false', Bool.or_eq_false_iff, Bool.and_eq_false_iff, decide_eq_true_eq, decide_eq_false_iff_not, Bool.not_eq_true, Bool.not_eq_false] at hp4
        rw [if_neg (by rw [hb4]; exact Bool.false_ne_true)] at hq0
        refine xss_nil ?_
        show XSs _ _ [.dat (.str text)] _
        refine xss_ret (d := (emb ((some (intS text)) : (Option Int)))) ?_ (by rw [hq0]; try rfl)
        exact (xe_intS (by exact (dig_int hp4).1) (by exact (dig_int hp4).2) T.b_int (xe_var 0))
/-! ### law -/
def R_law : List PyData → Except Exn PyData → Prop := fun ds r => ∃ (script : List Int), ds = [(scrD script)] ∧ (script.length ≤ 63) ∧ r = .ok (.bool (law script))
theorem sc_law : FnScope ["script", "numbers", "number", "odd", "words", "told", "text", "at", "sign", "changed"] ["script"] (defScope (top 11)) := ⟨rfl, rfl, rfl, by decide +kernel, rfl, by decide +kernel, by decide +kernel⟩
theorem ok_law {G : Gc} (T : Tx G) (D__law_numbers : DefD G "_law_numbers" 1 ["script", "at", "many"] R_law_numbers) (D_read_number : DefD G "read_number" 2 ["text"] R_read_number) (D__law_is_integer : DefD G "_law_is_integer" 1 ["value"] R_law_is_integer) (D__law_number : DefD G "_law_number" 2 ["text"] R_law_number) (D_lines_of : DefD G "lines_of" 1 ["text"] R_lines_of) {f : Addr} {fd : FuncData} (F : Fun G.K "law" "law" (top 11) f fd) : FnOk G.P G.w G.K G.mg G.base (L2.CX G.P G.w) 3 f fd ["script"] (SpD G R_law) := by
  have hSz := sizeLine_eq
  refine def_body F sc_law (fun ds r h => ?_) (by decide) (fun ds r h => ?_)
  · obtain ⟨_, rfl, _⟩ := h; rfl
  · obtain ⟨script, rfl, hz, rfl⟩ := h
    obtain ⟨q0, hk0⟩ : ∃ q, q = (law script) := ⟨_, rfl⟩
    rw [← hk0]
    have hq0 := hk0
    unfold law at hq0
    show XSs _ _ [.dat (scrD script), .junk, .junk, .junk, .junk, .junk, .junk, .junk, .junk, .junk] _
    extract_lets +onlyGivenNames numbers_1 at hq0
    have hx_numbers_1 : numbers_1 = ((law_numbers script (0 : Int) (20 : Int)) : (List Int)) := rfl
    clear_value numbers_1
    have hnl : numbers_1.length = 20 := by rw [hx_numbers_1]; exact numbers_len ..
    have hnb : ∀ n ∈ numbers_1, 0 ≤ n ∧ n < 1009 := by rw [hx_numbers_1]; exact numbers_bd _ _ _
    have hng := numbers_get (m := 20) hnl hnb
    refine' xss_setE hx_numbers_1 1 sc_law.nd ?t_1 ?k_1
    case t_1 => exact (xe_call D__law_numbers (Nat.le_of_ble_eq_true rfl) rfl ⟨script, (0 : Int), (20 : Int), rfl, (by first | assumption | omega | decide | (simp; done)), (by first | assumption | omega | decide | (simp; done)), rfl⟩ (xa_cons (xe_var 0) (xa_cons xe_int (xa_cons xe_int xa_nil))))
    case k_1 =>
      show XSs _ _ [.dat (scrD script), .dat (emb (numbers_1 : (List Int))), .junk, .junk, .junk, .junk, .junk, .junk, .junk, .junk] _
      refine' xss_for (emb : Int → PyData) (xs := [(getI numbers_1 (0 : Int)), (-(getI numbers_1 (1 : Int))), ((((getI numbers_1 (2 : Int)) % (1000 : Int)) * ((10 : Int) ^ (Int.toNat (15 : Int)))) + (getI numbers_1 (3 : Int))), (((10 : Int) ^ (Int.toNat (18 : Int))) - (1 : Int)), ((1 : Int) - ((10 : Int) ^ (Int.toNat (18 : Int)))), (0 : Int), (-(1 : Int))]) (fun (s1 : Unit) => ([.dat (scrD script), .dat (emb (numbers_1 : (List Int))), .junk, .junk, .junk, .junk, .junk, .junk, .junk, .junk] : Evm)) (bd_law_1 numbers_1) () ?i_2 rfl (xgc_name 2 sc_law.nd) (Le.cs (Le.cs (Le.cj (Le.cj (Le.cj (Le.cj (Le.cj (Le.cj (Le.cj (Le.cj Le.nil)))))))))) (fun i1 x1 s1 hx1 hist1 => ?tn_2) (fun fin_3 hF1 => ?k_2)
      case i_2 => exact (xi_list (XN.xe (xn_lst (xa_cons (xe_ixI (xs := numbers_1) (by first | assumption | omega | decide | (simp; done)) (xe_var 1) xe_int) (xa_cons (xe_neg (xe_ixI (xs := numbers_1) (by first | assumption | omega | decide | (simp; done)) (xe_var 1) xe_int)) (xa_cons (xe_add (xe_mul (by exact .inl ⟨by omega, by omega⟩) (xe_mod (by decide) (xe_ixI (xs := numbers_1) (by first | assumption | omega | decide | (simp; done)) (xe_var 1) xe_int) xe_int) (xe_pow (by exact ⟨by decide, by decide, by decide⟩) xe_int xe_int)) (xe_ixI (xs := numbers_1) (by first | assumption | omega | decide | (simp; done)) (xe_var 1) xe_int)) (xa_cons (xe_sub (xe_pow (by exact ⟨by decide, by decide, by decide⟩) xe_int xe_int) xe_int) (xa_cons (xe_sub xe_int (xe_pow (by exact ⟨by decide, by decide, by decide⟩) xe_int xe_int)) (xa_cons xe_int (xa_cons (xe_neg xe_int) xa_nil))))))))))
      case tn_2 =>
        refine ⟨by exact Nat.le_of_ble_eq_true rfl, ?_⟩
        obtain ⟨q1, hk1⟩ : ∃ q, q = (bd_law_1 numbers_1) s1 x1 := ⟨_, rfl⟩
        have hq1 := hk1
        unfold bd_law_1 at hq1
        have hxb := l1_bd hng hx1
        show XSs _ _ [.dat (scrD script), .dat (emb (numbers_1 : (List Int))), .dat (.int x1), .junk, .junk, .junk, .junk, .junk, .junk, .junk] _
        extract_lets +onlyGivenNames told_1 at hq1
        have hx_told_1 : told_1 = ((read_number (strI x1)) : (Option Int)) := rfl
        clear_value told_1
        refine' xss_setE hx_told_1 5 sc_law.nd ?t_3 ?k_3
        case t_3 => exact (xe_call D_read_number (Nat.le_of_ble_eq_true rfl) rfl ⟨(strI x1), rfl, (by exact Nat.le_trans (strI_len hxb).2 (by decide)), rfl⟩ (xa_cons (xe_strI (by exact strI_log hxb) T.b_str (xe_var 2)) xa_nil))
        case k_3 =>
          show XSs _ _ [.dat (scrD script), .dat (emb (numbers_1 : (List Int))), .dat (.int x1), .junk, .junk, .dat (emb (told_1 : (Option Int))), .junk, .junk, .junk, .junk] _
          refine' xss_if (k := ((!(law_is_integer told_1)) || (!decide ((told_1 : (Option Int)) = (some x1))))) ?t_4 (fun hb2 => ?a_4) (fun hb2 => ?b_4)
          case t_4 => exact (XW.pt (xw_or (xt_not (xt_val (xe_call D__law_is_integer (Nat.le_of_ble_eq_true rfl) rfl ⟨told_1, rfl, rfl⟩ (xa_cons (xe_var 5) xa_nil)))) (fun hs1 => (xw_or1 (xt_neT (x := (told_1 : (Option Int))) (y := ((some x1) : (Option Int))) (xe_var 5) (xe_var 2))))))
          case a_4 =>
            have hp2 := hb2
            try simp only [Bool.and_eq_true, Bool.or_eq_true, Bool.not_eq_true', Bool.not_eq_false', Bool.or_eq_false_iff, Bool.and_eq_false_iff, decide_eq_true_eq, decide_eq_false_iff_not, Bool.not_eq_true, Bool.not_eq_false] at hp2
            rw [if_pos hb2] at hq1
            rw [go_rt (forF_rt hx1 hist1 (hk1.symm.trans hq1))] at hq0
            refine xss_ret (d := (.bool false)) ?_ (by rw [hq0]; try rfl)
            exact xe_bl
          case b_4 =>
            have hp2 := hb2
            try simp only [Bool.and_eq_true, Bool.or_eq_true, Bool.not_eq_true', Bool.not_eq_false', Bool.or_eq_false_iff, Bool.and_eq_false_iff, decide_eq_true_eq, decide_eq_false_iff_not, Bool.not_eq_true, Bool.not_eq_false] at hp2
            rw [if_neg (by rw [hb2]; exact Bool.false_ne_true)] at hq1
            refine xss_nil ?_
            show XSs _ _ [.dat (scrD script), .dat (emb (numbers_1 : (List Int))), .dat (.int x1), .junk, .junk, .dat (emb (told_1 : (Option Int))), .junk, .junk, .junk, .junk] _
            extract_lets +onlyGivenNames text_1 at hq1
            have hx_text_1 : text_1 = ((strI x1) : Str) := rfl
            clear_value text_1
            have htl : 1 ≤ text_1.length ∧ text_1.length ≤ 19 := by rw [hx_text_1]; exact strI_len hxb
            refine' xss_setE hx_text_1 6 sc_law.nd ?t_5 ?k_5
            case t_5 => exact (xe_strI (by exact strI_log hxb) T.b_str (xe_var 2))
            case k_5 =>
              show XSs _ _ [.dat (scrD script), .dat (emb (numbers_1 : (List Int))), .dat (.int x1), .junk, .junk, .dat (emb (told_1 : (Option Int))), .dat (.str text_1), .junk, .junk, .junk] _
              extract_lets +onlyGivenNames at_1 at hq1
              have hx_at_1 : at_1 = (((getI numbers_1 (4 : Int)) % (text_1.length : Int)) : Int) := rfl
              clear_value at_1
              refine' xss_setE hx_at_1 7 sc_law.nd ?t_6 ?k_6
              case t_6 => exact (xe_mod (by first | assumption | omega | decide | (simp; done)) (xe_ixI (xs := numbers_1) (by first | assumption | omega | decide | (simp; done)) (xe_var 1) xe_int) (xe_lenS (by first | assumption | omega | decide | (simp; done)) T.b_len (xe_var 6)))
              case k_6 =>
                show XSs _ _ [.dat (scrD script), .dat (emb (numbers_1 : (List Int))), .dat (.int x1), .junk, .junk, .dat (emb (told_1 : (Option Int))), .dat (.str text_1), .dat (.int at_1), .junk, .junk] _
                refine' xss_for (emb : Str → PyData) (xs := [("0" : Str), ("-" : Str), (" " : Str), ("x" : Str), ("1" : Str), ("" : Str), ("+" : Str), ("." : Str), ("\n" : Str)]) (fun (s2 : Unit) => ([.dat (scrD script), .dat (emb (numbers_1 : (List Int))), .dat (.int x1), .junk, .junk, .dat (emb (told_1 : (Option Int))), .dat (.str text_1), .dat (.int at_1), .junk, .junk] : Evm)) (bd_law_2 text_1 at_1) () ?i_7 rfl (xgc_name 8 sc_law.nd) (Le.cs (Le.cs (Le.cs (Le.cj (Le.cj (Le.cs (Le.cs (Le.cs (Le.cj (Le.cj Le.nil)))))))))) (fun i2 x2 s2 hx2 hist2 => ?tn_7) (fun fin_2 hF2 => ?k_7)
                case i_7 => exact (xi_list (XN.xe (xn_lst (xa_cons xe_str (xa_cons xe_str (xa_cons xe_str (xa_cons xe_str (xa_cons xe_str (xa_cons xe_str (xa_cons xe_str (xa_cons xe_str (xa_cons xe_str xa_nil))))))))))))
                case tn_7 =>
                  refine ⟨by exact Nat.le_of_ble_eq_true rfl, ?_⟩
                  obtain ⟨q2, hk2⟩ : ∃ q, q = (bd_law_2 text_1 at_1) s2 x2 := ⟨_, rfl⟩
                  have hq2 := hk2
                  unfold bd_law_2 at hq2
                  have h2l := l2_len hx2
                  have c1 := cutS_len text_1 none (some at_1)
                  have c2 := cutS_len text_1 (some at_1) none
                  have c3 := cutS_len text_1 (some (at_1 + 1)) none
                  show XSs _ _ [.dat (scrD script), .dat (emb (numbers_1 : (List Int))), .dat (.int x1), .junk, .junk, .dat (emb (told_1 : (Option Int))), .dat (.str text_1), .dat (.int at_1), .dat (.str x2), .junk] _
                  refine' xss_for (emb : Str → PyData) (xs := [(((cutS text_1 none (some at_1)) ++ x2) ++ (cutS text_1 (some at_1) none)), (((cutS text_1 none (some at_1)) ++ x2) ++ (cutS text_1 (some (at_1 + (1 : Int))) none)), (text_1 ++ x2), (x2 ++ text_1)]) (fun (s3 : Unit) => ([.dat (scrD script), .dat (emb (numbers_1 : (List Int))), .dat (.int x1), .junk, .junk, .dat (emb (told_1 : (Option Int))), .dat (.str text_1), .dat (.int at_1), .dat (.str x2), .junk] : Evm)) bd_law_3 () ?i_8 rfl (xgc_name 9 sc_law.nd) (Le.cs (Le.cs (Le.cs (Le.cj (Le.cj (Le.cs (Le.cs (Le.cs (Le.cs (Le.cj Le.nil)))))))))) (fun i3 x3 s3 hx3 hist3 => ?tn_8) (fun fin_1 hF3 => ?k_8)
                  case i_8 => exact (xi_list (XN.xe (xn_lst (xa_cons (xe_cat (by (try rw [app_len]); omega) (xe_cat (by (try rw [app_len]); omega) (xe_slS (by first | assumption | omega | decide | (simp; done)) (xe_var 6) xo_none (xo_some (xe_var 7))) (xe_var 8)) (xe_slS (by first | assumption | omega | decide | (simp; done)) (xe_var 6) (xo_some (xe_var 7)) xo_none)) (xa_cons (xe_cat (by (try rw [app_len]); omega) (xe_cat (by (try rw [app_len]); omega) (xe_slS (by first | assumption | omega | decide | (simp; done)) (xe_var 6) xo_none (xo_some (xe_var 7))) (xe_var 8)) (xe_slS (by first | assumption | omega | decide | (simp; done)) (xe_var 6) (xo_some (xe_add (xe_var 7) xe_int)) xo_none)) (xa_cons (xe_cat (by (try rw [app_len]); omega) (xe_var 6) (xe_var 8)) (xa_cons (xe_cat (by (try rw [app_len]); omega) (xe_var 8) (xe_var 6)) xa_nil)))))))
                  case tn_8 =>
                    refine ⟨by exact Nat.le_of_ble_eq_true rfl, ?_⟩
                    obtain ⟨q3, hk3⟩ : ∃ q, q = bd_law_3 s3 x3 := ⟨_, rfl⟩
                    have hq3 := hk3
                    unfold bd_law_3 at hq3
                    have h3l := l3_len htl h2l hx3
                    have h3o := l3_ok (by rw [hx_text_1]; exact okS_strI _) (l2_ok hx2) hx3
                    show XSs _ _ [.dat (scrD script), .dat (emb (numbers_1 : (List Int))), .dat (.int x1), .junk, .junk, .dat (emb (told_1 : (Option Int))), .dat (.str text_1), .dat (.int at_1), .dat (.str x2), .dat (.str x3)] _
                    refine' xss_if (k := (!decide (((read_number x3) : (Option Int)) = (law_number x3)))) ?t_9 (fun hb3 => ?a_9) (fun hb3 => ?b_9)
                    case t_9 => exact (xt_neT (x := ((read_number x3) : (Option Int))) (y := ((law_number x3) : (Option Int))) (xe_call D_read_number (Nat.le_of_ble_eq_true rfl) rfl ⟨x3, rfl, (by omega), rfl⟩ (xa_cons (xe_var 9) xa_nil)) (xe_call D__law_number (Nat.le_of_ble_eq_true rfl) rfl ⟨x3, rfl, (by omega), (by exact h3o), rfl⟩ (xa_cons (xe_var 9) xa_nil)))
                    case a_9 =>
                      have hp3 := hb3
                      try simp only [Bool.and_eq_true, Bool.or_eq_true, Bool.not_eq_true', Bool.not_eq_false', Bool.or_eq_false_iff, Bool.and_eq_false_iff, decide_eq_true_eq, decide_eq_false_iff_not, Bool.not_eq_true, Bool.not_eq_false] at hp3
                      rw [if_pos hb3] at hq3
                      rw [go_rt (forF_rt hx3 hist3 (hk3.symm.trans hq3))] at hq2
                      rw [go_rt (forF_rt hx2 hist2 (hk2.symm.trans hq2))] at hq1
                      rw [go_rt (forF_rt hx1 hist1 (hk1.symm.trans hq1))] at hq0
                      refine xss_ret (d := (.bool false)) ?_ (by rw [hq0]; try rfl)
                      exact xe_bl
                    case b_9 =>
                      have hp3 := hb3
                      try simp only [Bool.and_eq_true, Bool.or_eq_true, Bool.not_eq_true', Bool.not_eq_false', Bool.or_eq_false_iff, Bool.and_eq_false_iff, decide_eq_true_eq, decide_eq_false_iff_not, Bool.not_eq_true, Bool.not_eq_false] at hp3
                      rw [if_neg (by rw [hb3]; exact Bool.false_ne_true)] at hq3
                      refine xss_nil ?_
                      show XSs _ _ [.dat (scrD script), .dat (emb (numbers_1 : (List Int))), .dat (.int x1), .junk, .junk, .dat (emb (told_1 : (Option Int))), .dat (.str text_1), .dat (.int at_1), .dat (.str x2), .dat (.str x3)] _
                      exact xss_nil ⟨_, hk3.symm.trans hq3, (Le.cs (Le.cs (Le.cs (Le.cj (Le.cj (Le.cs (Le.cs (Le.cs (Le.cs (Le.cj Le.nil))))))))))⟩
                  case k_8 =>
                    have hq_ := hq2.trans (go_end hF3)
                    clear hq2
                    have hq2 := hq_
                    clear hq_
                    show XSs _ _ [.dat (scrD script), .dat (emb (numbers_1 : (List Int))), .dat (.int x1), .junk, .junk, .dat (emb (told_1 : (Option Int))), .dat (.str text_1), .dat (.int at_1), .dat (.str x2), .junk] _
                    exact xss_nil ⟨_, hk2.symm.trans hq2, (Le.cs (Le.cs (Le.cs (Le.cj (Le.cj (Le.cs (Le.cs (Le.cs (Le.cj (Le.cj Le.nil))))))))))⟩
                case k_7 =>
                  have hq_ := hq1.trans (go_end hF2)
                  clear hq1
                  have hq1 := hq_
                  clear hq_
                  show XSs _ _ [.dat (scrD script), .dat (emb (numbers_1 : (List Int))), .dat (.int x1), .junk, .junk, .dat (emb (told_1 : (Option Int))), .dat (.str text_1), .dat (.int at_1), .junk, .junk] _
                  exact xss_nil ⟨_, hk1.symm.trans hq1, (Le.cs (Le.cs (Le.cj (Le.cj (Le.cj (Le.cj (Le.cj (Le.cj (Le.cj (Le.cj Le.nil))))))))))⟩
      case k_2 =>
        have hq_ := hq0.trans (go_end hF1)
        clear hq0
        have hq0 := hq_
        clear hq_
        show XSs _ _ [.dat (scrD script), .dat (emb (numbers_1 : (List Int))), .junk, .junk, .junk, .junk, .junk, .junk, .junk, .junk] _
        refine' xss_for (emb : Str → PyData) (xs := [("" : Str), ("-" : Str), ("-0" : Str), ("00" : Str), ("01" : Str), (repS ("1" : Str) (19 : Int)), (("-" : Str) ++ (repS ("1" : Str) (19 : Int))), ("--1" : Str), ("1-" : Str), ("1 2" : Str), ("+1" : Str)]) (fun (s4 : Unit) => ([.dat (scrD script), .dat (emb (numbers_1 : (List Int))), .junk, .junk, .junk, .junk, .junk, .junk, .junk, .junk] : Evm)) bd_law_4 () ?i_10 rfl (xgc_name 3 sc_law.nd) (Le.cs (Le.cs (Le.cj (Le.cj (Le.cj (Le.cj (Le.cj (Le.cj (Le.cj (Le.cj Le.nil)))))))))) (fun i4 x4 s4 hx4 hist4 => ?tn_10) (fun fin_4 hF4 => ?k_10)
        case i_10 => exact (xi_list (XN.xe (xn_lst (xa_cons xe_str (xa_cons xe_str (xa_cons xe_str (xa_cons xe_str (xa_cons xe_str (xa_cons (xe_repS (by exact ⟨by decide, by decide, by decide⟩) xe_str xe_int) (xa_cons (xe_cat (by decide +kernel) xe_str (xe_repS (by exact ⟨by decide, by decide, by decide⟩) xe_str xe_int)) (xa_cons xe_str (xa_cons xe_str (xa_cons xe_str (xa_cons xe_str xa_nil))))))))))))))
        case tn_10 =>
          refine ⟨by exact Nat.le_of_ble_eq_true rfl, ?_⟩
          obtain ⟨q4, hk4⟩ : ∃ q, q = bd_law_4 s4 x4 := ⟨_, rfl⟩
          have hq4 := hk4
          unfold bd_law_4 at hq4
          have h4l := l4_len hx4
          show XSs _ _ [.dat (scrD script), .dat (emb (numbers_1 : (List Int))), .junk, .dat (.str x4), .junk, .junk, .junk, .junk, .junk, .junk] _
          refine' xss_if (k := (!(isN (emb ((read_number x4) : (Option Int)))))) ?t_11 (fun hb4 => ?a_11) (fun hb4 => ?b_11)
          case t_11 => exact (xt_notN (xe_call D_read_number (Nat.le_of_ble_eq_true rfl) rfl ⟨x4, rfl, (by omega), rfl⟩ (xa_cons (xe_var 3) xa_nil)))
          case a_11 =>
            have hp4 := hb4
            try simp only [Bool.and_eq_true, Bool.or_eq_true, Bool.not_eq_true', Bool.not_eq_false', Bool.or_eq_false_iff, Bool.and_eq_false_iff, decide_eq_true_eq, decide_eq_false_iff_not, Bool.not_eq_true, Bool.not_eq_false] at hp4
            rw [if_pos hb4] at hq4
            rw [go_rt (forF_rt hx4 hist4 (hk4.symm.trans hq4))] at hq0
            refine xss_ret (d := (.bool false)) ?_ (by rw [hq0]; try rfl)
            exact xe_bl
          case b_11 =>
            have hp4 := hb4
            try simp only [Bool.and_eq_true, Bool.or_eq_true, Bool.not_eq_true', Bool.not_eq_false', Bool.or_eq_false_iff, Bool.and_eq_false_iff, decide_eq_true_eq, decide_eq_false_iff_not, Bool.not_eq_true, Bool.not_eq_false] at hp4
            rw [if_neg (by rw [hb4]; exact Bool.false_ne_true)] at hq4
            refine xss_nil ?_
            show XSs _ _ [.dat (scrD script), .dat (emb (numbers_1 : (List Int))), .junk, .dat (.str x4), .junk, .junk, .junk, .junk, .junk, .junk] _
            exact xss_nil ⟨_, hk4.symm.trans hq4, (Le.cs (Le.cs (Le.cj (Le.cj (Le.cj (Le.cj (Le.cj (Le.cj (Le.cj (Le.cj Le.nil))))))))))⟩
        case k_10 =>
          have hq_ := hq0.trans (go_end hF4)
          clear hq0
          have hq0 := hq_
          clear hq_
          show XSs _ _ [.dat (scrD script), .dat (emb (numbers_1 : (List Int))), .junk, .junk, .junk, .junk, .junk, .junk, .junk, .junk] _
          extract_lets +onlyGivenNames words_1 at hq0
          have hx_words_1 : words_1 = (((cut numbers_1 (some (5 : Int)) (some ((5 : Int) + ((getI numbers_1 (6 : Int)) % (6 : Int))))).map (fun number_1 => ((repS ("a" : Str) (number_1 % (3 : Int))) : Str))) : (List Str)) := rfl
          clear_value words_1
          have hw : Words words_1 := by rw [hx_words_1]; exact words_ok hnl _ _
          refine' xss_setLcE hx_words_1 4 [("number", 2)] ?t_12 rfl sc_law.nd ?k_12
          case t_12 => exact (xlc_map (emb : Int → PyData) (fun number_1 => ((repS ("a" : Str) (number_1 % (3 : Int))) : Str)) (xi_list (XN.xe (xn_slI (xs := numbers_1) (xe_var 1) (xo_some xe_int) (xo_some (xe_add xe_int (xe_mod (by decide) (xe_ixI (xs := numbers_1) (by first | assumption | omega | decide | (simp; done)) (xe_var 1) xe_int) xe_int)))))) rfl sc_law.nd (by exact Nat.le_trans (cut_len ..) (by omega)) (xg_name 2 sc_law.nd) (by decide) (fun _ _ => Nat.le_of_ble_eq_true rfl) (fun number_1 hm_number_1 => (xe_repS (by exact rep_small _) xe_str (xe_mod (by decide) (xe_var 2) xe_int))))
          case k_12 =>
            show XSs _ _ [.dat (scrD script), .dat (emb (numbers_1 : (List Int))), .junk, .junk, .own (.lst (words_1.map (emb : Str → PyData))), .junk, .junk, .junk, .junk, .junk] _
            refine xss_frz 4 ?_
            show XSs _ _ [.dat (scrD script), .dat (emb (numbers_1 : (List Int))), .junk, .junk, .dat (emb (words_1 : (List Str))), .junk, .junk, .junk, .junk, .junk] _
            refine xss_ret (d := (.bool ((PyData.eqv (emb ((lines_of (Txt.join ("\n" : Str) words_1)) : (List Str))) (emb ((if words_1.isEmpty = true then [("" : Str)] else words_1) : (List Str)))) && ((PyData.eqv (emb ((lines_of ("" : Str)) : (List Str))) (emb ([("" : Str)] : (List Str)))) && (PyData.eqv (emb ((lines_of ("\n" : Str)) : (List Str))) (emb ([("" : Str), ("" : Str)] : (List Str)))))))) ?_ (by rw [hq0]; try rfl)
            exact (xe_and (xe_eqD (x := (emb ((lines_of (Txt.join ("\n" : Str) words_1)) : (List Str)))) (y := (emb ((if words_1.isEmpty = true then [("" : Str)] else words_1) : (List Str)))) (by rw [lines_words hw]; exact words_shp hw) (by exact words_shp hw) (xe_call D_lines_of (Nat.le_of_ble_eq_true rfl) rfl ⟨(Txt.join ("\n" : Str) words_1), rfl, (by exact join_small hw), rfl⟩ (xa_cons (xe_join (by exact words_join hw) xe_str (xe_var 4)) xa_nil)) (xe_orL (xs := words_1) (ys := [("" : Str)]) (xe_var 4) (xe_one (XN.xe (xn_lst (xa_cons xe_str xa_nil)))))) (fun hs6 => (xe_and (xe_eqD (x := (emb ((lines_of ("" : Str)) : (List Str)))) (y := (emb ([("" : Str)] : (List Str)))) (by decide +kernel) (by decide +kernel) (xe_call D_lines_of (Nat.le_of_ble_eq_true rfl) rfl ⟨("" : Str), rfl, (by decide), rfl⟩ (xa_cons xe_str xa_nil)) (XN.xe (xn_lst (xa_cons xe_str xa_nil)))) (fun hs5 => (xe_one (xe_eqD (x := (emb ((lines_of ("\n" : Str)) : (List Str)))) (y := (emb ([("" : Str), ("" : Str)] : (List Str)))) (by decide +kernel) (by decide +kernel) (xe_call D_lines_of (Nat.le_of_ble_eq_true rfl) rfl ⟨("\n" : Str), rfl, (by decide), rfl⟩ (xa_cons xe_str xa_nil)) (XN.xe (xn_lst (xa_cons xe_str (xa_cons xe_str xa_nil))))))))))
end K78


namespace K78
open PySem L2 Fw Emb PyProof.Rows
def ct (K : PySem.W.Frag) : Nat → Addr × Option Str := fun _ => (0, none)
def dd (i : Nat) (x : Str) : He.DefD := ⟨(x, none), x, x, defArgs (top i), defBody (top i), defScope (top i), [], []⟩
def fn : List He.DefD := [dd 3 "are_figures", dd 4 "read_number", dd 5 "lines_of", dd 7 "_law_numbers", dd 8 "_law_is_integer", dd 9 "_law_digits", dd 10 "_law_number", dd 11 "law"]
def fa : List He.Fa := [.glo "are_figures", .glo "read_number", .glo "lines_of", .glo "_law_numbers", .glo "_law_is_integer", .glo "_law_digits", .glo "_law_number", .glo "law", .free "all", .free "bool", .free "int", .free "isinstance", .free "len", .free "range", .free "str", .str "FIGURES" ("0123456789" : Str), .int "MOST_FIGURES" 18]
abbrev hk : PySem.W.Hook := He.hookD 4 fa fn
def ob (s : PySem.W.SharedT) : He.AlD := He.obsDG 4 fa fn (HandSHeadRun.getT s)
theorem ob_eq (s : PySem.W.SharedT) : ob s = hk.obs s.abs := He.obsDG_eq (HandSHeadRun.getT_eq s)
abbrev loose0 : List Str := ["FIGURES", "MOST_FIGURES", "are_figures", "read_number", "lines_of", "_law_numbers", "_law_is_integer", "_law_digits", "_law_number"]
abbrev loose : List Str := loose0
theorem run (w : World) : HandSHeadRun.RunEq (PySem.W.OpenLaw.row PySem.Challenge.rw_paidatonce_k78_numbers_and_lines) (PySem.W.view (PySem.W.OpenLaw.row PySem.Challenge.rw_paidatonce_k78_numbers_and_lines).prog [11]) hk ob 20000 loose w := by
  intro os
  kernel_rfl
theorem facts {P : Program} {w : World} {K : PySem.W.Frag} {h : Heap} {mg : Str → Option Value} {f : Addr} (X : K.In h) (N : h.Ns mainGlobals mg) (hfa : mg ("law" : Str) = some (.ref f)) (c : He.SaysD fa fn K) :
    ∃ fd : FuncData, (∀ (s : Shared) (v : Value), BindsTo s fd ⟨[v], []⟩ [("script", v)]) ∧ ∀ base : Heap, FnOk P w K mg base (L2.CX P w) 3 f fd ["script"] (SpD (gcOf P w K mg base (ct K)) R_law) := by
  obtain ⟨fd_are_figures, U_are_figures⟩ := c.def_ 0 (d := dd 3 "are_figures") rfl
  have F_are_figures := He5.fun_of (st := top 3) U_are_figures
  obtain ⟨fd_read_number, U_read_number⟩ := c.def_ 1 (d := dd 4 "read_number") rfl
  have F_read_number := He5.fun_of (st := top 4) U_read_number
  obtain ⟨fd_lines_of, U_lines_of⟩ := c.def_ 2 (d := dd 5 "lines_of") rfl
  have F_lines_of := He5.fun_of (st := top 5) U_lines_of
  obtain ⟨fd_law_numbers, U_law_numbers⟩ := c.def_ 3 (d := dd 7 "_law_numbers") rfl
  have F_law_numbers := He5.fun_of (st := top 7) U_law_numbers
  obtain ⟨fd_law_is_integer, U_law_is_integer⟩ := c.def_ 4 (d := dd 8 "_law_is_integer") rfl
  have F_law_is_integer := He5.fun_of (st := top 8) U_law_is_integer
  obtain ⟨fd_law_digits, U_law_digits⟩ := c.def_ 5 (d := dd 9 "_law_digits") rfl
  have F_law_digits := He5.fun_of (st := top 9) U_law_digits
  obtain ⟨fd_law_number, U_law_number⟩ := c.def_ 6 (d := dd 10 "_law_number") rfl
  have F_law_number := He5.fun_of (st := top 10) U_law_number
  obtain ⟨fd_law, U_law⟩ := c.def_ 7 (d := dd 11 "law") rfl
  have F_law := He5.fun_of (st := top 11) U_law
  have e := hfa.symm.trans (He.glo_ok X N (c.fact 7 (f := .glo "law") rfl))
  cases e
  refine ⟨fd_law, fun s v => (FunD.bindsA (ps := ["script"]) U_law fun _ _ _ _ _ _ us hl => match us, hl with | [_], _ => rfl) s [v] rfl, fun base => ?_⟩
  have T : Tx (gcOf P w K mg base (ct K)) := ⟨He.free_ok X N (c.fact 8 (f := .free "all") rfl), He.free_ok X N (c.fact 9 (f := .free "bool") rfl), He.free_ok X N (c.fact 10 (f := .free "int") rfl), He.free_ok X N (c.fact 11 (f := .free "isinstance") rfl), He.free_ok X N (c.fact 12 (f := .free "len") rfl), He.free_ok X N (c.fact 13 (f := .free "range") rfl), He.free_ok X N (c.fact 14 (f := .free "str") rfl), relc_str (He.str_ok X N (c.fact 15 (f := .str "FIGURES" ("0123456789" : Str)) rfl)), relc_int (He.int_ok X N (c.fact 16 (f := .int "MOST_FIGURES" 18) rfl))⟩
  have O_are_figures := ok_are_figures (G := gcOf P w K mg base (ct K)) T F_are_figures
  have D_are_figures : DefD (gcOf P w K mg base (ct K)) "are_figures" 1 ["text"] R_are_figures := ⟨⟨_, fd_are_figures, O_are_figures, He.glo_ok X N (c.fact 0 (f := .glo "are_figures") rfl), F_are_figures.kp, F_are_figures.binds (ps := ["text"]) fun _ _ _ _ _ _ us hl => match us, hl with | [_], _ => rfl⟩⟩
  have O_read_number := ok_read_number (G := gcOf P w K mg base (ct K)) T D_are_figures F_read_number
  have D_read_number : DefD (gcOf P w K mg base (ct K)) "read_number" 2 ["text"] R_read_number := ⟨⟨_, fd_read_number, O_read_number, He.glo_ok X N (c.fact 1 (f := .glo "read_number") rfl), F_read_number.kp, F_read_number.binds (ps := ["text"]) fun _ _ _ _ _ _ us hl => match us, hl with | [_], _ => rfl⟩⟩
  have O_lines_of := ok_lines_of (G := gcOf P w K mg base (ct K)) T F_lines_of
  have D_lines_of : DefD (gcOf P w K mg base (ct K)) "lines_of" 1 ["text"] R_lines_of := ⟨⟨_, fd_lines_of, O_lines_of, He.glo_ok X N (c.fact 2 (f := .glo "lines_of") rfl), F_lines_of.kp, F_lines_of.binds (ps := ["text"]) fun _ _ _ _ _ _ us hl => match us, hl with | [_], _ => rfl⟩⟩
  have O_law_numbers := ok_law_numbers (G := gcOf P w K mg base (ct K)) T F_law_numbers
  have D__law_numbers : DefD (gcOf P w K mg base (ct K)) "_law_numbers" 1 ["script", "at", "many"] R_law_numbers := ⟨⟨_, fd_law_numbers, O_law_numbers, He.glo_ok X N (c.fact 3 (f := .glo "_law_numbers") rfl), F_law_numbers.kp, F_law_numbers.binds (ps := ["script", "at", "many"]) fun _ _ _ _ _ _ us hl => match us, hl with | [_, _, _], _ => rfl⟩⟩
  have O_law_is_integer := ok_law_is_integer (G := gcOf P w K mg base (ct K)) T F_law_is_integer
  have D__law_is_integer : DefD (gcOf P w K mg base (ct K)) "_law_is_integer" 1 ["value"] R_law_is_integer := ⟨⟨_, fd_law_is_integer, O_law_is_integer, He.glo_ok X N (c.fact 4 (f := .glo "_law_is_integer") rfl), F_law_is_integer.kp, F_law_is_integer.binds (ps := ["value"]) fun _ _ _ _ _ _ us hl => match us, hl with | [_], _ => rfl⟩⟩
  have O_law_digits := ok_law_digits (G := gcOf P w K mg base (ct K)) T F_law_digits
  have D__law_digits : DefD (gcOf P w K mg base (ct K)) "_law_digits" 1 ["text"] R_law_digits := ⟨⟨_, fd_law_digits, O_law_digits, He.glo_ok X N (c.fact 5 (f := .glo "_law_digits") rfl), F_law_digits.kp, F_law_digits.binds (ps := ["text"]) fun _ _ _ _ _ _ us hl => match us, hl with | [_], _ => rfl⟩⟩
  have O_law_number := ok_law_number (G := gcOf P w K mg base (ct K)) T D__law_digits F_law_number
  have D__law_number : DefD (gcOf P w K mg base (ct K)) "_law_number" 2 ["text"] R_law_number := ⟨⟨_, fd_law_number, O_law_number, He.glo_ok X N (c.fact 6 (f := .glo "_law_number") rfl), F_law_number.kp, F_law_number.binds (ps := ["text"]) fun _ _ _ _ _ _ us hl => match us, hl with | [_], _ => rfl⟩⟩
  have O_law := ok_law (G := gcOf P w K mg base (ct K)) T D__law_numbers D_read_number D__law_is_integer D__law_number D_lines_of F_law
  exact O_law
end K78
open PySem PySem.W PySem.Calls PyProof.Rows in
set_option maxRecDepth 100000 in
set_option maxHeartbeats 0 in
theorem PySem.Challenge.cw_paidatonce_k78_numbers_and_lines_holds : PySem.Challenge.rw_paidatonce_k78_numbers_and_lines.Holds := by
  w_on; o_law
  refine HandSHeadRun.head_any (r := OpenLaw.row PySem.Challenge.rw_paidatonce_k78_numbers_and_lines) (q := view (OpenLaw.row PySem.Challenge.rw_paidatonce_k78_numbers_and_lines).prog [11]) (H := K78.hk) (ob := K78.ob) (M := 20000) (loose := K78.loose) (d := HandSHeadRun.topDef (OpenLaw.row PySem.Challenge.rw_paidatonce_k78_numbers_and_lines).prog 11) (kwd := []) K78.ob_eq
    (by kernel_rfl) (fun s => by kernel_rfl) K78.run (by kernel_rfl) (by kernel_rfl) (by kernel_rfl) (by rfl) (by first | assumption | decide +kernel) (by decide +kernel) ⟨rfl, rfl, rfl, rfl, rfl, by decide +kernel⟩ ?hw ?hc
  case hw => w_witness2
  case hc =>
    refine Fw.law_end (l := PySem.Challenge.rw_paidatonce_k78_numbers_and_lines) (k := 3) (R := K78.R_law) K78.ct rfl (by kernel_rfl) ⟨rfl, by decide, by decide⟩ (fun ns hl => ⟨ns, rfl, hl, by rw [K78.law_true ns]⟩) fun w mg fa h Y G hmg0 => ?_
    obtain ⟨K, KX, c⟩ := Y
    have hmg : mg ("law" : PySem.Str) = some (.ref fa) := by
      have e : (HandSHeadRun.topDef (OpenLaw.row PySem.Challenge.rw_paidatonce_k78_numbers_and_lines).prog 11).name = ("law" : PySem.Str) := by kernel_rfl
      rw [← e]
      exact hmg0
    obtain ⟨fd, hb, hF⟩ := K78.facts (P := (PySem.Challenge.rw_paidatonce_k78_numbers_and_lines).prog) (w := w) KX G hmg c
    exact ⟨K, fd, KX, hb, hF⟩


