import PyProof.Rows.All
import HandS.ForMost
import HandS.ForExc
import HandS.DictComp
import HandS.Wide
import HandS.Defaults
import HandS.IsInst
import KE.KOpsOwn
import OpenK.AllK
import HandS.ListEq
import HandS.DictEq
import PyProof.EqKinds
import PyProof.NeKinds
import HandS.TupLe
import PyProof.Rows.RuleB_bool
import HandS.RaiseMore
import HandS.SlotsOwn
import HandS.Small
import HandS.Text
import HandS.Rev
import HandS.Walk
import HandS.Star
import HandS.CallRecv
import HandS.ExcField
import HandS.TryMany
import KE.KExcIs
import HandS.ExcOwn
import HandS.Head0
import HandS.Head1
import HandS.Head2
import HandS.HeadEnd
import HandS.HeadHook1
import HandS.HeadHook2
import PySem.Challenge.RW_sceneskips_k13_notes_before_a_change
import HandS.Ends
import HandS.More
import KE.KStateDown
import Lean
section
set_option Elab.async false
set_option linter.all false
set_option maxRecDepth 100000
set_option maxHeartbeats 4000000
set_option autoImplicit false
/-! Core1: values of the small language, its heap, and how they stand for the layer's. -/
namespace Core
open PySem L2

inductive Vl where
  | non | bl (b : Bool) | int (i : Int) | str (s : Str)
  | tup (l : List Vl) | fl (l : List Vl) | fd (l : List (Key × Vl)) | fo (c : Nat) (fs : List (Nat × Vl))
  | ref (n : Nat)
inductive Cell where
  | lst (l : List Vl) | dct (l : List (Key × Vl)) | lck (l : List (Key × Vl)) | obj (c : Nat) (fs : List (Nat × Vl)) | dead
abbrev Hv := List Cell

/-- what stays: the written part, where the classes stand, the fields' names -/
structure Gs where
  K : PySem.W.Frag
  cA : Nat → Addr
  fN : List Str
/-- where the small heap's places stand, which of them are live, the layer's heap -/
structure Wd where
  φ : List Addr
  V : Addr → Prop
  Z : List Addr
  H : Hp
/-- live, or hidden -/
def Wd.L (w : Wd) (a : Addr) : Prop := w.V a ∨ a ∈ w.Z

def KL (K : PySem.W.Frag) (a : Addr) (xs : List V) : Prop := ∃ (o : Obj) (its : Array Value) (n : Nat), K.lookup a = some o ∧ o.cls = .type "list" ∧ o.dict = none ∧ o.data = .seq its n ∧ its.size ≤ sizeLine ∧ Vals xs its.toList
def KT' (K : PySem.W.Frag) (a : Addr) (xs : List V) : Prop := ∃ (o : Obj) (its : Array Value) (n : Nat), K.lookup a = some o ∧ o.cls = .type "tuple" ∧ o.data = .seq its n ∧ its.size ≤ sizeLine ∧ Vals xs its.toList
def FzL (K : PySem.W.Frag) (w : Wd) (a : Addr) (vs : List V) : Prop := (Rd w.H a (.lst vs) ∧ ¬ w.L a) ∨ KL K a vs
def FzT (K : PySem.W.Frag) (w : Wd) (a : Addr) (vs : List V) : Prop := (Rd w.H a (.tup vs) ∧ ¬ w.L a) ∨ KT' K a vs
def FzD (w : Wd) (a : Addr) (kvs : List (Key × V)) : Prop := Rd w.H a (.dK kvs) ∧ ¬ w.L a
def FzO (w : Wd) (a C dx : Addr) (fs : List (Str × V)) : Prop := w.H a = some (.ins C dx fs) ∧ ¬ w.L a
theorem FzL.sq {K w a vs} (h : FzL K w a vs) : SqL K w.H a vs := h.elim (fun h => .inl h.1) .inr
theorem FzT.sq {K w a vs} (h : FzT K w a vs) : SqT K w.H a vs := h.elim (fun h => .inl h.1) .inr

mutual
inductive RV (G : Gs) (w : Wd) : Vl → V → Prop
  | non : RV G w .non .non
  | bl (b : Bool) : RV G w (.bl b) (.bl b)
  | int (i : Int) : RV G w (.int i) (.int i)
  | str (s : Str) : RV G w (.str s) (.str s)
  | tup {l a vs} (h : FzT G.K w a vs) (r : RVs G w l vs) : RV G w (.tup l) (.ref a)
  | fl {l a vs} (h : FzL G.K w a vs) (r : RVs G w l vs) : RV G w (.fl l) (.ref a)
  | fd {l a kvs} (h : FzD w a kvs) (r : RKs G w l kvs) : RV G w (.fd l) (.ref a)
  | fo {c fs a dx fs'} (h : FzO w a (G.cA c) dx fs') (r : RFs G w fs fs') : RV G w (.fo c fs) (.ref a)
  | ref {n a} (h : w.φ[n]? = some a) : RV G w (.ref n) (.ref a)
inductive RVs (G : Gs) (w : Wd) : List Vl → List V → Prop
  | nil : RVs G w [] []
  | cons {v x l m} (h : RV G w v x) (r : RVs G w l m) : RVs G w (v :: l) (x :: m)
inductive RKs (G : Gs) (w : Wd) : List (Key × Vl) → List (Key × V) → Prop
  | nil : RKs G w [] []
  | cons {k v x l m} (h : RV G w v x) (r : RKs G w l m) : RKs G w ((k, v) :: l) ((k, x) :: m)
inductive RFs (G : Gs) (w : Wd) : List (Nat × Vl) → List (Str × V) → Prop
  | nil : RFs G w [] []
  | cons {k : Nat} {f : Str} {v x l m} (e : G.fN[k]? = some f) (h : RV G w v x) (r : RFs G w l m) : RFs G w ((k, v) :: l) ((f, x) :: m)
end

/-- a dict, perhaps locked -/
def Dk (o : HO) (kvs : List (Key × V)) : Prop := o = .dK kvs ∨ ∃ ob, o = .frz ob (.dK kvs)
/-- the same, but that a dict may be locked or not -/
def Kp (o o' : HO) : Prop := o' = o ∨ ∃ kvs, Dk o kvs ∧ Dk o' kvs
theorem Dk.fun {o : HO} {k l : List (Key × V)} (a : Dk o k) (b : Dk o l) : k = l := by
  rcases a with rfl | ⟨x, rfl⟩ <;> rcases b with e | ⟨y, e⟩ <;> cases e <;> rfl
theorem Kp.trans {a b c : HO} (x : Kp a b) (y : Kp b c) : Kp a c := by
  rcases x with rfl | ⟨k, x1, x2⟩
  · exact y
  · rcases y with rfl | ⟨l, y1, y2⟩
    · exact .inr ⟨k, x1, x2⟩
    · cases x2.fun y1; exact .inr ⟨k, x1, y2⟩
theorem Kp.plain {o o' : HO} (n : ∀ k, ¬ Dk o k) (x : Kp o o') : o' = o := x.elim id fun ⟨k, h, _⟩ => absurd h (n k)
theorem kp {H : Hp} {a : Addr} {o : HO} (h : H a = some o) : ∃ o', H a = some o' ∧ Kp o o' := ⟨o, h, .inl rfl⟩
/-- what a step of the program keeps -/
structure Ext0 (w w' : Wd) : Prop where
  pre : w.φ <+: w'.φ
  keep : ∀ a o, w.H a = some o → ¬ w.L a → (∃ o', w'.H a = some o' ∧ Kp o o') ∧ ¬ w'.L a
/-- .. and what is locked stays so -/
structure Ext (w w' : Wd) : Prop extends Ext0 w w' where
  fz : ∀ a o u, w.H a = some (.frz o u) → w'.H a = some (.frz o u)
  hid : ∀ a ∈ w.Z, a ∈ w'.Z ∧ w'.H a = w.H a
theorem Ext.refl (w : Wd) : Ext w w := ⟨⟨List.prefix_rfl, fun _ _ h n => ⟨kp h, n⟩⟩, fun _ _ _ h => h, fun _ h => ⟨h, rfl⟩⟩
theorem Ext0.trans {a b c : Wd} (h : Ext0 a b) (k : Ext0 b c) : Ext0 a c := ⟨h.pre.trans k.pre, fun x o e n => let ⟨⟨o1, e1, p1⟩, n1⟩ := h.keep x o e n; let ⟨⟨o2, e2, p2⟩, n2⟩ := k.keep x o1 e1 n1; ⟨⟨o2, e2, p1.trans p2⟩, n2⟩⟩
theorem Ext.trans {a b c : Wd} (h : Ext a b) (k : Ext b c) : Ext a c := ⟨h.toExt0.trans k.toExt0, fun x o u e => k.fz x o u (h.fz x o u e), fun x hx => let ⟨e1, e2⟩ := h.hid x hx; let ⟨e3, e4⟩ := k.hid x e1; ⟨e3, e4.trans e2⟩⟩
theorem prefix_get {α : Type} {l m : List α} (h : l <+: m) {n : Nat} {x : α} (e : l[n]? = some x) : m[n]? = some x := by
  obtain ⟨t, rfl⟩ := h
  have := (List.getElem?_eq_some_iff.mp e).1
  rw [List.getElem?_append_left this]; exact e
section
variable {G : Gs} {w w' : Wd}
theorem Rd.ext0 (e : Ext0 w w') {a u} (h : Rd w.H a u) (n : ¬ w.L a) (nf : ∀ o v, u ≠ .frz o v) : Rd w'.H a u ∧ ¬ w'.L a := by
  rcases h with h | ⟨o, h⟩
  · obtain ⟨⟨o', h1, p⟩, h2⟩ := e.keep _ _ h n
    refine ⟨?_, h2⟩
    rcases p with rfl | ⟨k, d1, d2⟩
    · exact .inl h1
    · rcases d1 with rfl | ⟨ob, rfl⟩
      · rcases d2 with rfl | ⟨oc, rfl⟩
        · exact .inl h1
        · exact .inr ⟨oc, h1⟩
      · exact absurd rfl (nf _ _)
  · obtain ⟨⟨o', h1, p⟩, h2⟩ := e.keep _ _ h n
    refine ⟨?_, h2⟩
    rcases p with rfl | ⟨k, d1, d2⟩
    · exact .inr ⟨o, h1⟩
    · rcases d1 with z | ⟨ob, z⟩
      · cases z
      · cases z
        rcases d2 with rfl | ⟨oc, rfl⟩
        · exact .inl h1
        · exact .inr ⟨oc, h1⟩
theorem FzL.ext0 {K} (e : Ext0 w w') {a vs} (h : FzL K w a vs) : FzL K w' a vs := h.elim (fun h => .inl (Rd.ext0 e h.1 h.2 fun _ _ z => nomatch z)) .inr
theorem FzT.ext0 {K} (e : Ext0 w w') {a vs} (h : FzT K w a vs) : FzT K w' a vs := h.elim (fun h => .inl (Rd.ext0 e h.1 h.2 fun _ _ z => nomatch z)) .inr
theorem FzD.ext0 (e : Ext0 w w') {a vs} (h : FzD w a vs) : FzD w' a vs := Rd.ext0 e h.1 h.2 fun _ _ z => nomatch z
theorem keep_plain (e : Ext0 w w') {a o} (h : w.H a = some o) (n : ¬ w.L a) (np : ∀ k, ¬ Dk o k) : w'.H a = some o ∧ ¬ w'.L a := by
  obtain ⟨⟨o', h1, p⟩, h2⟩ := e.keep _ _ h n
  cases p.plain np
  exact ⟨h1, h2⟩
theorem FzO.ext0 (e : Ext0 w w') {a C dx vs} (h : FzO w a C dx vs) : FzO w' a C dx vs := keep_plain e h.1 h.2 fun k z => z.elim (fun z => nomatch z) fun ⟨_, z⟩ => nomatch z

mutual
theorem RV.ext0 (e : Ext0 w w') : ∀ {v x}, RV G w v x → RV G w' v x
  | _, _, .non => .non
  | _, _, .bl b => .bl b
  | _, _, .int i => .int i
  | _, _, .str s => .str s
  | _, _, .tup h r => .tup (h.ext0 e) (RVs.ext0 e r)
  | _, _, .fl h r => .fl (h.ext0 e) (RVs.ext0 e r)
  | _, _, .fd h r => .fd (h.ext0 e) (RKs.ext0 e r)
  | _, _, .fo h r => .fo (h.ext0 e) (RFs.ext0 e r)
  | _, _, .ref h => .ref (prefix_get e.pre h)
theorem RVs.ext0 (e : Ext0 w w') : ∀ {v x}, RVs G w v x → RVs G w' v x
  | _, _, .nil => .nil
  | _, _, .cons h r => .cons (RV.ext0 e h) (RVs.ext0 e r)
theorem RKs.ext0 (e : Ext0 w w') : ∀ {v x}, RKs G w v x → RKs G w' v x
  | _, _, .nil => .nil
  | _, _, .cons h r => .cons (RV.ext0 e h) (RKs.ext0 e r)
theorem RFs.ext0 (e : Ext0 w w') : ∀ {v x}, RFs G w v x → RFs G w' v x
  | _, _, .nil => .nil
  | _, _, .cons q h r => .cons q (RV.ext0 e h) (RFs.ext0 e r)
end
theorem RV.ext (e : Ext w w') {v x} (h : RV G w v x) : RV G w' v x := RV.ext0 e.toExt0 h
theorem RVs.ext (e : Ext w w') {v x} (h : RVs G w v x) : RVs G w' v x := RVs.ext0 e.toExt0 h
theorem RKs.ext (e : Ext w w') {v x} (h : RKs G w v x) : RKs G w' v x := RKs.ext0 e.toExt0 h
theorem RFs.ext (e : Ext w w') {v x} (h : RFs G w v x) : RFs G w' v x := RFs.ext0 e.toExt0 h
theorem RVs.length {l : List Vl} {m : List V} (h : RVs G w l m) : l.length = m.length := by
  induction l generalizing m with
  | nil => cases h; rfl
  | cons a l ih => cases h with | cons h r => simp [ih r]
theorem RKs.length {l : List (Key × Vl)} {m : List (Key × V)} (h : RKs G w l m) : l.length = m.length := by
  induction l generalizing m with
  | nil => cases h; rfl
  | cons a l ih => cases h with | cons h r => simp [ih r]
theorem RVs.get : ∀ {l : List Vl} {m : List V} {i : Nat} {v : Vl}, RVs G w l m → l[i]? = some v → ∃ x, m[i]? = some x ∧ RV G w v x
  | _, _, i, _, .nil, e => by simp at e
  | _, _, 0, _, .cons h r, e => by simp at e; subst e; exact ⟨_, rfl, h⟩
  | _, _, i + 1, _, .cons h r, e => by
    obtain ⟨x, e1, r1⟩ := RVs.get (i := i) r (by simpa using e)
    exact ⟨x, by simpa using e1, r1⟩
theorem RVs.append : ∀ {l l' : List Vl} {m m' : List V}, RVs G w l m → RVs G w l' m' → RVs G w (l ++ l') (m ++ m')
  | _, _, _, _, .nil, s => s
  | _, _, _, _, .cons h r, s => .cons h (RVs.append r s)
theorem RVs.set : ∀ {l : List Vl} {m : List V} {v x} (i : Nat), RVs G w l m → RV G w v x → RVs G w (l.set i v) (m.set i x)
  | _, _, _, _, _, .nil, _ => .nil
  | _, _, _, _, 0, .cons h r, s => .cons s r
  | _, _, _, _, i + 1, .cons h r, s => .cons h (RVs.set i r s)
theorem RVs.take : ∀ {l : List Vl} {m : List V} (i : Nat), RVs G w l m → RVs G w (l.take i) (m.take i)
  | _, _, _, .nil => by simp; exact .nil
  | _, _, 0, .cons h r => .nil
  | _, _, i + 1, .cons h r => .cons h (RVs.take i r)
theorem RVs.drop : ∀ {l : List Vl} {m : List V} (i : Nat), RVs G w l m → RVs G w (l.drop i) (m.drop i)
  | _, _, _, .nil => by simp; exact .nil
  | _, _, 0, .cons h r => .cons h r
  | _, _, i + 1, .cons h r => RVs.drop i r
theorem RVs.reverse {l : List Vl} {m : List V} (h : RVs G w l m) : RVs G w l.reverse m.reverse := by
  induction l generalizing m with
  | nil => cases h; exact .nil
  | cons a l ih => cases h with | cons h r => simpa using (ih r).append (.cons h .nil)
end

/-! ### the heap -/
def CellOk (G : Gs) (w : Wd) (a : Addr) : Cell → Prop
  | .lst l => ∃ vs, w.H a = some (.lst vs) ∧ RVs G w l vs
  | .dct l => ∃ kvs, w.H a = some (.dK kvs) ∧ RKs G w l kvs
  | .lck l => ∃ o kvs, w.H a = some (.frz o (.dK kvs)) ∧ RKs G w l kvs
  | .obj c fs => ∃ dx fs', w.H a = some (.ins (G.cA c) dx fs') ∧ RFs G w fs fs'
  | .dead => ∃ o, w.H a = some o
/-- it may be written -/
def Cell.wr : Cell → Bool
  | .lst _ => true | .dct _ => true | .obj _ _ => true | _ => false
theorem CellOk.nofrz {G : Gs} {w : Wd} {a : Addr} {c : Cell} (hc : CellOk G w a c) (hw : c.wr = true) (o : Obj) (u : HO) : w.H a ≠ some (.frz o u) := fun e => by
  cases c with
  | lst l => obtain ⟨vs, e1, _⟩ := hc; rw [e1] at e; cases e
  | dct l => obtain ⟨vs, e1, _⟩ := hc; rw [e1] at e; cases e
  | obj c fs => obtain ⟨dx, vs, e1, _⟩ := hc; rw [e1] at e; cases e
  | lck l => cases hw
  | dead => cases hw
structure Sim (G : Gs) (w : Wd) (h : Hv) : Prop where
  len : w.φ.length = h.length
  nd : w.φ.Nodup
  zs : ∀ a ∈ w.Z, a ∉ w.φ ∧ ∃ o, w.H a = some o
  live : ∀ a, w.V a ↔ ∃ (n : Nat) (c : Cell), w.φ[n]? = some a ∧ h[n]? = some c ∧ c ≠ Cell.dead
  ok : ∀ (n : Nat) (c : Cell) (a : Addr), h[n]? = some c → w.φ[n]? = some a → CellOk G w a c
section
variable {G : Gs} {w w' : Wd} {h h' : Hv}
theorem CellOk.ext0 (e : Ext0 w w') {a : Addr} {c : Cell} (hc : CellOk G w a c) (hH : w'.H a = w.H a) : CellOk G w' a c := by
  cases c with
  | lst l => obtain ⟨vs, e1, r⟩ := hc; exact ⟨vs, hH.trans e1, r.ext0 e⟩
  | dct l => obtain ⟨vs, e1, r⟩ := hc; exact ⟨vs, hH.trans e1, r.ext0 e⟩
  | lck l => obtain ⟨o, vs, e1, r⟩ := hc; exact ⟨o, vs, hH.trans e1, r.ext0 e⟩
  | obj c fs => obtain ⟨dx, vs, e1, r⟩ := hc; exact ⟨dx, vs, hH.trans e1, r.ext0 e⟩
  | dead => obtain ⟨o, e1⟩ := hc; exact ⟨o, hH.trans e1⟩
theorem CellOk.ext (e : Ext w w') {a : Addr} {c : Cell} (hc : CellOk G w a c) (hH : w'.H a = w.H a) : CellOk G w' a c := hc.ext0 e.toExt0 hH
theorem CellOk.there {a : Addr} {c : Cell} (hc : CellOk G w a c) : ∃ o, w.H a = some o := by
  cases c with
  | lst l => obtain ⟨vs, e1, r⟩ := hc; exact ⟨_, e1⟩
  | dct l => obtain ⟨vs, e1, r⟩ := hc; exact ⟨_, e1⟩
  | lck l => obtain ⟨o, vs, e1, r⟩ := hc; exact ⟨_, e1⟩
  | obj c fs => obtain ⟨dx, vs, e1, r⟩ := hc; exact ⟨_, e1⟩
  | dead => exact hc
theorem Sim.at (S : Sim G w h) {n : Nat} {a : Addr} (e : w.φ[n]? = some a) : ∃ c, h[n]? = some c ∧ CellOk G w a c := by
  have hn := (List.getElem?_eq_some_iff.mp e).1
  rw [S.len] at hn
  exact ⟨h[n], by simp [hn], S.ok n _ a (by simp [hn]) e⟩
theorem Sim.adr (S : Sim G w h) {n : Nat} {c : Cell} (e : h[n]? = some c) : ∃ a, w.φ[n]? = some a ∧ CellOk G w a c := by
  have hn := (List.getElem?_eq_some_iff.mp e).1
  rw [← S.len] at hn
  exact ⟨w.φ[n], by simp [hn], S.ok n _ _ e (by simp [hn])⟩
theorem Sim.there (S : Sim G w h) {a : Addr} (e : a ∈ w.φ) : ∃ o, w.H a = some o := by
  obtain ⟨n, hn⟩ := List.getElem?_of_mem e
  obtain ⟨c, _, ok⟩ := S.at hn
  exact ok.there
theorem Sim.notLive (S : Sim G w h) {p : Addr} (e : w.H p = none) : ¬ w.L p := fun q => by
  rcases q with q | q
  · obtain ⟨n, c, e1, e2, _⟩ := (S.live p).mp q
    obtain ⟨o, e3⟩ := (S.ok n c p e2 e1).there
    rw [e] at e3; cases e3
  · obtain ⟨o, e3⟩ := (S.zs p q).2
    rw [e] at e3; cases e3
theorem Sim.mem (S : Sim G w h) {n : Nat} {a : Addr} {c : Cell} (ha : w.φ[n]? = some a) (hc : h[n]? = some c) (hd : c ≠ Cell.dead) : w.L a := .inl ((S.live a).mpr ⟨n, c, ha, hc, hd⟩)
theorem Sim.zne (S : Sim G w h) {n : Nat} {a b : Addr} (ha : w.φ[n]? = some a) (hb : b ∈ w.Z) : b ≠ a := fun z => (S.zs b hb).1 (z ▸ List.mem_of_getElem? ha)

/-- a new frozen thing -/
theorem Sim.newF (S : Sim G w h) {p : Addr} {o : HO} (e : w.H p = none) : Sim G { w with H := upd w.H p o } h ∧ Ext w { w with H := upd w.H p o } ∧ ¬ w.L p := by
  have x : Ext w { w with H := upd w.H p o } := ⟨⟨List.prefix_rfl, fun a u ha hn => ⟨kp (by show upd w.H p o a = _; rw [upd_ne (ne_of_none ha e)]; exact ha), hn⟩⟩, fun a u z ha => by show upd w.H p o a = _; rw [upd_ne (ne_of_none ha e)]; exact ha, fun a ha => ⟨ha, by
    obtain ⟨u, hu⟩ := (S.zs a ha).2
    exact upd_ne (ne_of_none hu e)⟩⟩
  refine ⟨⟨S.len, S.nd, fun a ha => ⟨(S.zs a ha).1, by
    obtain ⟨u, hu⟩ := (S.zs a ha).2
    exact ⟨u, (upd_ne (ne_of_none hu e)).trans hu⟩⟩, S.live, fun n c a e1 e2 => ?_⟩, x, S.notLive e⟩
  refine (S.ok n c a e1 e2).ext x ?_
  obtain ⟨u, hu⟩ := (S.ok n c a e1 e2).there
  exact upd_ne (ne_of_none hu e)
/-- several heap changes that keep all that is tracked -/
theorem Sim.same (S : Sim G w h) {H' : Hp} (k : ∀ a o, w.H a = some o → H' a = some o) : Sim G { w with H := H' } h ∧ Ext w { w with H := H' } := by
  have x : Ext w { w with H := H' } := ⟨⟨List.prefix_rfl, fun a u ha hn => ⟨kp (k a u ha), hn⟩⟩, fun a u z ha => k a _ ha, fun a ha => ⟨ha, by
    obtain ⟨u, hu⟩ := (S.zs a ha).2
    exact (k a u hu).trans hu.symm⟩⟩
  refine ⟨⟨S.len, S.nd, fun a ha => ⟨(S.zs a ha).1, by
    obtain ⟨u, hu⟩ := (S.zs a ha).2
    exact ⟨u, k a u hu⟩⟩, S.live, fun n c a e1 e2 => ?_⟩, x⟩
  obtain ⟨u, hu⟩ := (S.ok n c a e1 e2).there
  exact (S.ok n c a e1 e2).ext x ((k a u hu).trans hu.symm)
theorem Sim.allocE (S : Sim G w h) {p : Addr} {H' : Hp} (e : w.H p = none) (k : ∀ a o, w.H a = some o → H' a = some o) : Ext w { φ := w.φ ++ [p], V := fun a => w.V a ∨ a = p, Z := w.Z, H := H' } :=
  ⟨⟨List.prefix_append _ _, fun a u ha hn => ⟨kp (k a u ha), fun z => z.elim (fun z => z.elim (fun z => hn (.inl z)) (ne_of_none ha e)) fun z => hn (.inr z)⟩⟩, fun a u z ha => k a _ ha, fun a ha => ⟨ha, by
    obtain ⟨u, hu⟩ := (S.zs a ha).2
    exact (k a u hu).trans hu.symm⟩⟩
/-- a new live thing -/
theorem Sim.alloc (S : Sim G w h) {p : Addr} {H' : Hp} {c : Cell} (e : w.H p = none) (k : ∀ a o, w.H a = some o → H' a = some o) (hd : c ≠ Cell.dead)
    (ok : CellOk G { φ := w.φ ++ [p], V := fun a => w.V a ∨ a = p, Z := w.Z, H := H' } p c) :
    Sim G { φ := w.φ ++ [p], V := fun a => w.V a ∨ a = p, Z := w.Z, H := H' } (h ++ [c]) ∧ Ext w { φ := w.φ ++ [p], V := fun a => w.V a ∨ a = p, Z := w.Z, H := H' } ∧
      (w.φ ++ [p])[h.length]? = some p := by
  have x : Ext w { φ := w.φ ++ [p], V := fun a => w.V a ∨ a = p, Z := w.Z, H := H' } := ⟨⟨List.prefix_append _ _, fun a u ha hn => ⟨kp (k a u ha), fun z => z.elim (fun z => z.elim (fun z => hn (.inl z)) (ne_of_none ha e)) fun z => hn (.inr z)⟩⟩, fun a u z ha => k a _ ha, fun a ha => ⟨ha, by
    obtain ⟨u, hu⟩ := (S.zs a ha).2
    exact (k a u hu).trans hu.symm⟩⟩
  have lst : (w.φ ++ [p])[h.length]? = some p := by rw [← S.len]; simp
  refine ⟨⟨by simp [S.len], ?_, fun a ha => ⟨fun hm => ?_, by
    obtain ⟨u, hu⟩ := (S.zs a ha).2
    exact ⟨u, k a u hu⟩⟩, fun a => ?_, fun n c' a e1 e2 => ?_⟩, x, lst⟩
  · refine List.nodup_append.mpr ⟨S.nd, by simp, fun a ha b hb => ?_⟩
    simp at hb; subst hb
    obtain ⟨o, ho⟩ := S.there ha
    exact ne_of_none ho e
  · obtain ⟨z1, u, hu⟩ := S.zs a ha
    rcases List.mem_append.mp hm with hm | hm
    · exact z1 hm
    · exact ne_of_none hu e (List.mem_singleton.mp hm)
  · show w.V a ∨ a = p ↔ ∃ (n : Nat) (c' : Cell), (w.φ ++ [p])[n]? = some a ∧ (h ++ [c])[n]? = some c' ∧ c' ≠ Cell.dead
    constructor
    · rintro (q | q)
      · obtain ⟨n, c', e1, e2, e3⟩ := (S.live a).mp q
        exact ⟨n, c', prefix_get (List.prefix_append _ _) e1, prefix_get (List.prefix_append _ _) e2, e3⟩
      · exact ⟨h.length, c, by rw [q]; exact lst, by simp, hd⟩
    · rintro ⟨n, c', e1, e2, e3⟩
      by_cases hn : n < h.length
      · rw [List.getElem?_append_left (by rw [S.len]; exact hn)] at e1
        rw [List.getElem?_append_left hn] at e2
        exact .inl ((S.live a).mpr ⟨n, c', e1, e2, e3⟩)
      · have hl := (List.getElem?_eq_some_iff.mp e2).1
        simp at hl
        have hn : n = h.length := by omega
        subst hn
        rw [lst] at e1
        exact .inr (Option.some.inj e1).symm
  · by_cases hn : n < h.length
    · rw [List.getElem?_append_left hn] at e1
      have e2 : (w.φ ++ [p])[n]? = some a := e2
      rw [List.getElem?_append_left (by rw [S.len]; exact hn)] at e2
      obtain ⟨u, hu⟩ := (S.ok n c' a e1 e2).there
      exact (S.ok n c' a e1 e2).ext x ((k a u hu).trans hu.symm)
    · have hl := (List.getElem?_eq_some_iff.mp e1).1
      simp at hl
      have hn : n = h.length := by omega
      subst hn
      have e2 : (w.φ ++ [p])[h.length]? = some a := e2
      rw [lst] at e2
      simp at e1
      cases e2; subst e1
      exact ok
/-- a live cell is written (or dies) -/
theorem Sim.write0 (S : Sim G w h) {n : Nat} {a : Addr} {c c' : Cell} {H' : Hp} (ha : w.φ[n]? = some a) (hc : h[n]? = some c) (hd : c ≠ Cell.dead) (hd' : c' ≠ Cell.dead)
    (k : ∀ b o, b ≠ a → w.H b = some o → H' b = some o) (ok : Ext0 w { w with H := H' } → CellOk G { w with H := H' } a c') :
    Sim G { w with H := H' } (h.set n c') ∧ Ext0 w { w with H := H' } := by
  have la : w.L a := S.mem ha hc hd
  have x : Ext0 w { w with H := H' } := ⟨List.prefix_rfl, fun b u hb hn => ⟨kp (k b u (fun z => hn (z ▸ la)) hb), hn⟩⟩
  have hn : n < h.length := (List.getElem?_eq_some_iff.mp hc).1
  refine ⟨⟨by simp [S.len], S.nd, fun b hb => ⟨(S.zs b hb).1, by
    obtain ⟨u, hu⟩ := (S.zs b hb).2
    exact ⟨u, k b u (S.zne ha hb) hu⟩⟩, fun b => ?_, fun m c2 b e1 e2 => ?_⟩, x⟩
  · show w.V b ↔ _
    rw [S.live b]
    constructor
    · rintro ⟨m, c2, e1, e2, e3⟩
      by_cases hm : m = n
      · subst hm; exact ⟨m, c', e1, by simp [hn], hd'⟩
      · exact ⟨m, c2, e1, by rw [List.getElem?_set_ne (Ne.symm hm)]; exact e2, e3⟩
    · rintro ⟨m, c2, e1, e2, e3⟩
      by_cases hm : m = n
      · subst hm; exact ⟨m, c, e1, hc, hd⟩
      · rw [List.getElem?_set_ne (Ne.symm hm)] at e2
        exact ⟨m, c2, e1, e2, e3⟩
  · by_cases hm : m = n
    · subst hm
      have e2 : w.φ[m]? = some b := e2
      rw [ha] at e2; cases e2
      rw [List.getElem?_set_self hn] at e1; cases e1
      exact ok x
    · rw [List.getElem?_set_ne (Ne.symm hm)] at e1
      have o2 := S.ok m c2 b e1 e2
      obtain ⟨u, hu⟩ := o2.there
      refine o2.ext0 x ((k b u (fun z => hm ?_) hu).trans hu.symm)
      subst z
      exact nodup_ix' S.nd e2 ha
where
  nodup_ix' {α : Type} {N : List α} (hN : N.Nodup) {i j : Nat} {x : α} (a : N[i]? = some x) (b : N[j]? = some x) : i = j := by
    obtain ⟨h1, e1⟩ := List.getElem?_eq_some_iff.mp a
    obtain ⟨h2, e2⟩ := List.getElem?_eq_some_iff.mp b
    exact (List.getElem_inj hN).mp (e1.trans e2.symm)
theorem Sim.write (S : Sim G w h) {n : Nat} {a : Addr} {c c' : Cell} {H' : Hp} (ha : w.φ[n]? = some a) (hc : h[n]? = some c) (hw : c.wr = true) (hd' : c' ≠ Cell.dead)
    (k : ∀ b o, b ≠ a → w.H b = some o → H' b = some o) (ok : Ext w { w with H := H' } → CellOk G { w with H := H' } a c') :
    Sim G { w with H := H' } (h.set n c') ∧ Ext w { w with H := H' } := by
  have x : Ext w { w with H := H' } := ⟨⟨List.prefix_rfl, fun b u hb hn => ⟨kp (k b u (fun z => hn (z ▸ S.mem ha hc fun z => by rw [z] at hw; cases hw)) hb), hn⟩⟩, fun b u z hb => k b _ (fun q => (S.ok n c a hc ha).nofrz hw u z (q ▸ hb)) hb, fun b hb => ⟨hb, by
    obtain ⟨u, hu⟩ := (S.zs b hb).2
    exact (k b u (S.zne ha hb) hu).trans hu.symm⟩⟩
  exact ⟨(S.write0 ha hc (fun z => by rw [z] at hw; cases hw) hd' k fun _ => ok x).1, x⟩
/-- a dict is locked -/
theorem Sim.lock (S : Sim G w h) {n : Nat} {a : Addr} {l : List (Key × Vl)} {kvs : List (Key × V)} {o : Obj} (ha : w.φ[n]? = some a) (hc : h[n]? = some (.dct l)) (r : RKs G w l kvs) :
    Sim G { w with H := upd w.H a (.frz o (.dK kvs)) } (h.set n (.lck l)) ∧ Ext w { w with H := upd w.H a (.frz o (.dK kvs)) } :=
  S.write ha hc rfl (fun z => nomatch z) (fun b u hb e => by show upd w.H a _ b = _; rw [upd_ne hb]; exact e) fun x => ⟨o, kvs, upd_same, r.ext x⟩
/-- .. and unlocked -/
theorem Sim.unlock (S : Sim G w h) {n : Nat} {a : Addr} {l : List (Key × Vl)} (ha : w.φ[n]? = some a) (hc : h[n]? = some (.lck l)) :
    ∃ o kvs, w.H a = some (.frz o (.dK kvs)) ∧ Sim G { w with H := upd w.H a (.dK kvs) } (h.set n (.dct l)) ∧ Ext0 w { w with H := upd w.H a (.dK kvs) } := by
  obtain ⟨o, kvs, e, r⟩ := S.ok _ _ _ hc ha
  refine ⟨o, kvs, e, S.write0 ha hc (fun z => nomatch z) (fun z => nomatch z) (fun b u hb e => by show upd w.H a _ b = _; rw [upd_ne hb]; exact e) fun x => ⟨kvs, upd_same, r.ext0 x⟩⟩
/-- a live cell dies: what it was stays frozen -/
theorem Sim.kill (S : Sim G w h) {n : Nat} {a : Addr} {c : Cell} (ha : w.φ[n]? = some a) (hc : h[n]? = some c) :
    Sim G { w with V := fun b => w.V b ∧ b ≠ a } (h.set n Cell.dead) ∧ Ext w { w with V := fun b => w.V b ∧ b ≠ a } := by
  have x : Ext w { w with V := fun b => w.V b ∧ b ≠ a } := ⟨⟨List.prefix_rfl, fun b u hb hn => ⟨kp (H := w.H) hb, fun z => hn (z.imp And.left id)⟩⟩, fun _ _ _ h => h, fun b hb => ⟨hb, rfl⟩⟩
  have hn : n < h.length := (List.getElem?_eq_some_iff.mp hc).1
  refine ⟨⟨by simp [S.len], S.nd, S.zs, fun b => ?_, fun m c2 b e1 e2 => ?_⟩, x⟩
  · show w.V b ∧ b ≠ a ↔ _
    rw [S.live b]
    constructor
    · rintro ⟨⟨m, c2, e1, e2, e3⟩, ne⟩
      have hm : m ≠ n := fun z => by subst z; rw [ha] at e1; cases e1; exact ne rfl
      exact ⟨m, c2, e1, by rw [List.getElem?_set_ne (Ne.symm hm)]; exact e2, e3⟩
    · rintro ⟨m, c2, e1, e2, e3⟩
      by_cases hm : m = n
      · subst hm; rw [List.getElem?_set_self hn] at e2; cases e2; exact absurd rfl e3
      · rw [List.getElem?_set_ne (Ne.symm hm)] at e2
        refine ⟨⟨m, c2, e1, e2, e3⟩, fun z => hm ?_⟩
        subst z
        exact Sim.write0.nodup_ix' S.nd e1 ha
  · by_cases hm : m = n
    · subst hm
      have e2 : w.φ[m]? = some b := e2
      rw [List.getElem?_set_self hn] at e1; cases e1
      exact (S.ok m c b hc e2).there
    · rw [List.getElem?_set_ne (Ne.symm hm)] at e1
      exact (S.ok m c2 b e1 e2).ext x rfl
/-- a thing is hidden -/
theorem Sim.hide (S : Sim G w h) {p : Addr} {o : HO} (e : w.H p = none) : Sim G { w with Z := p :: w.Z, H := upd w.H p o } h ∧ Ext w { w with Z := p :: w.Z, H := upd w.H p o } := by
  have k : ∀ a u, w.H a = some u → upd w.H p o a = some u := fun a u ha => by rw [upd_ne (ne_of_none ha e)]; exact ha
  have x : Ext w { w with Z := p :: w.Z, H := upd w.H p o } := ⟨⟨List.prefix_rfl, fun a u ha hn => ⟨kp (k a u ha), fun z => z.elim (fun z => hn (.inl z)) fun z => (List.mem_cons.mp z).elim (ne_of_none ha e) fun z => hn (.inr z)⟩⟩, fun a u z ha => k a _ ha, fun a ha => ⟨List.mem_cons_of_mem _ ha, by
    obtain ⟨u, hu⟩ := (S.zs a ha).2
    exact (k a u hu).trans hu.symm⟩⟩
  refine ⟨⟨S.len, S.nd, fun a ha => ?_, S.live, fun n c a e1 e2 => ?_⟩, x⟩
  · rcases List.mem_cons.mp ha with rfl | ha
    · exact ⟨fun z => (by obtain ⟨u, hu⟩ := S.there z; rw [e] at hu; cases hu), o, upd_same⟩
    · obtain ⟨z, u, hu⟩ := S.zs a ha
      exact ⟨z, u, k a u hu⟩
  · obtain ⟨u, hu⟩ := (S.ok n c a e1 e2).there
    exact (S.ok n c a e1 e2).ext x ((k a u hu).trans hu.symm)
/-- a hidden thing is written -/
theorem Sim.hset (S : Sim G w h) {p : Addr} {o : HO} (hp : p ∈ w.Z) : Sim G { w with H := upd w.H p o } h ∧ Ext0 w { w with H := upd w.H p o } := by
  have x : Ext0 w { w with H := upd w.H p o } := ⟨List.prefix_rfl, fun a u ha hn => ⟨kp (by
    show upd w.H p o a = some u
    rw [upd_ne (show a ≠ p from fun z => hn (.inr (by rw [z]; exact hp)))]; exact ha), hn⟩⟩
  refine ⟨⟨S.len, S.nd, fun a ha => ⟨(S.zs a ha).1, ?_⟩, S.live, fun n c a e1 e2 => ?_⟩, x⟩
  · by_cases z : a = p
    · subst z; exact ⟨o, upd_same⟩
    · obtain ⟨u, hu⟩ := (S.zs a ha).2
      exact ⟨u, (upd_ne z).trans hu⟩
  · exact (S.ok n c a e1 e2).ext0 x (upd_ne fun z => S.zne e2 hp z.symm)
/-- a hidden thing is frozen -/
theorem Sim.unhide (S : Sim G w h) {p : Addr} {r : List Addr} (hz : ∀ a ∈ r, a ∈ w.Z) (hr : ∀ a ∈ w.Z, a = p ∨ a ∈ r) : Sim G { w with Z := r } h ∧ Ext0 w { w with Z := r } :=
  have x : Ext0 w { w with Z := r } := ⟨List.prefix_rfl, fun a u ha hn => ⟨kp (H := w.H) ha, fun z => hn (z.imp id (hz a))⟩⟩
  ⟨⟨S.len, S.nd, fun a ha => S.zs a (hz a ha), S.live, fun n c a e1 e2 => (S.ok n c a e1 e2).ext0 x rfl⟩, x⟩
/-- a hidden thing becomes live -/
theorem Sim.show (S : Sim G w h) {p : Addr} {r : List Addr} {c : Cell} (hp : p ∈ w.Z) (hn : p ∉ r) (hz : ∀ a ∈ r, a ∈ w.Z) (hr : ∀ a ∈ w.Z, a = p ∨ a ∈ r) (hd : c ≠ Cell.dead)
    (ok : Ext0 w { φ := w.φ ++ [p], V := fun a => w.V a ∨ a = p, Z := r, H := w.H } → CellOk G { φ := w.φ ++ [p], V := fun a => w.V a ∨ a = p, Z := r, H := w.H } p c) :
    Sim G { φ := w.φ ++ [p], V := fun a => w.V a ∨ a = p, Z := r, H := w.H } (h ++ [c]) ∧ Ext0 w { φ := w.φ ++ [p], V := fun a => w.V a ∨ a = p, Z := r, H := w.H } ∧ (w.φ ++ [p])[h.length]? = some p := by
  have x : Ext0 w { φ := w.φ ++ [p], V := fun a => w.V a ∨ a = p, Z := r, H := w.H } := ⟨List.prefix_append _ _, fun a u ha hn => ⟨kp (H := w.H) ha, fun z => z.elim (fun z => z.elim (fun z => hn (.inl z)) fun z => hn (.inr (z ▸ hp))) fun z => hn (.inr (hz a z))⟩⟩
  have lst : (w.φ ++ [p])[h.length]? = some p := by rw [← S.len]; simp
  refine ⟨⟨by simp [S.len], ?_, fun a ha => ⟨fun hm => ?_, (S.zs a (hz a ha)).2⟩, fun a => ?_, fun n c' a e1 e2 => ?_⟩, x, lst⟩
  · refine List.nodup_append.mpr ⟨S.nd, by simp, fun a ha b hb => ?_⟩
    simp at hb; subst hb
    exact fun z => (S.zs b hp).1 (z ▸ ha)
  · rcases List.mem_append.mp hm with hm | hm
    · exact (S.zs a (hz a ha)).1 hm
    · exact hn (List.mem_singleton.mp hm ▸ ha)
  · show w.V a ∨ a = p ↔ ∃ (n : Nat) (c' : Cell), (w.φ ++ [p])[n]? = some a ∧ (h ++ [c])[n]? = some c' ∧ c' ≠ Cell.dead
    constructor
    · rintro (q | q)
      · obtain ⟨n, c', e1, e2, e3⟩ := (S.live a).mp q
        exact ⟨n, c', prefix_get (List.prefix_append _ _) e1, prefix_get (List.prefix_append _ _) e2, e3⟩
      · exact ⟨h.length, c, by rw [q]; exact lst, by simp, hd⟩
    · rintro ⟨n, c', e1, e2, e3⟩
      by_cases hl : n < h.length
      · rw [List.getElem?_append_left (by rw [S.len]; exact hl)] at e1
        rw [List.getElem?_append_left hl] at e2
        exact .inl ((S.live a).mpr ⟨n, c', e1, e2, e3⟩)
      · have hl' := (List.getElem?_eq_some_iff.mp e2).1
        simp at hl'
        have hl : n = h.length := by omega
        subst hl
        rw [lst] at e1
        exact .inr (Option.some.inj e1).symm
  · by_cases hl : n < h.length
    · rw [List.getElem?_append_left hl] at e1
      have e2 : (w.φ ++ [p])[n]? = some a := e2
      rw [List.getElem?_append_left (by rw [S.len]; exact hl)] at e2
      exact (S.ok n c' a e1 e2).ext0 x rfl
    · have hl' := (List.getElem?_eq_some_iff.mp e1).1
      simp at hl'
      have hl : n = h.length := by omega
      subst hl
      have e2 : (w.φ ++ [p])[h.length]? = some a := e2
      rw [lst] at e2
      simp at e1
      cases e2; subst e1
      exact ok x
/-- a frozen dict is locked -/
theorem Sim.lockF (S : Sim G w h) {a : Addr} {kvs : List (Key × V)} {o : Obj} (e : w.H a = some (.dK kvs)) (nl : ¬ w.L a) :
    Sim G { w with H := upd w.H a (.frz o (.dK kvs)) } h ∧ Ext w { w with H := upd w.H a (.frz o (.dK kvs)) } := by
  have x : Ext w { w with H := upd w.H a (.frz o (.dK kvs)) } := ⟨⟨List.prefix_rfl, fun b u hb hn => ⟨by
    by_cases z : b = a
    · subst z
      rw [e] at hb; cases hb
      exact ⟨_, upd_same, .inr ⟨kvs, .inl rfl, .inr ⟨o, rfl⟩⟩⟩
    · exact kp (by show upd w.H a _ b = _; rw [upd_ne z]; exact hb), hn⟩⟩, fun b ob u hb => by
      show upd w.H a _ b = _
      rw [upd_ne (fun z => by rw [z, e] at hb; cases hb)]; exact hb, fun b hb => ⟨hb, by
      exact upd_ne (fun (z : b = a) => nl (.inr (by rw [← z]; exact hb)))⟩⟩
  refine ⟨⟨S.len, S.nd, fun b hb => ⟨(S.zs b hb).1, by
    obtain ⟨u, hu⟩ := (S.zs b hb).2
    exact ⟨u, (upd_ne (fun (z : b = a) => nl (.inr (by rw [← z]; exact hb)))).trans hu⟩⟩, S.live, fun n c b e1 e2 => ?_⟩, x⟩
  by_cases hd : c = Cell.dead
  · subst hd
    by_cases z : b = a
    · subst z; exact ⟨_, upd_same⟩
    · obtain ⟨u, hu⟩ := S.ok n _ b e1 e2
      exact ⟨u, (upd_ne z).trans hu⟩
  · exact (S.ok n c b e1 e2).ext x (upd_ne fun (z : b = a) => nl (by rw [← z]; exact S.mem e2 e1 hd))
end
end Core
end

section
set_option Elab.async false
set_option linter.all false
set_option maxRecDepth 100000
set_option maxHeartbeats 4000000
set_option autoImplicit false
/-! Core2: the small language and what its terms are worth. -/
namespace Core
open PySem L2

inductive BOp where
  | add | sub | mul | fdiv | mod | pow | band | shr
  deriving DecidableEq
inductive COp where
  | eq | ne | lt | le | gt | ge | is_ | isnot | in_ | notin
  deriving DecidableEq
inductive Ty where
  | int | bool | str | list | tuple | dict | cls (c : Nat)
  deriving DecidableEq
inductive Blt where
  | len | abs | ord | int | sum | list | tuple | dict | sorted | str | all | any
  deriving DecidableEq
inductive BM where
  | append | get | join | pop | insert | extend | index
  deriving DecidableEq
mutual
inductive CT where
  | var (i : Nat) | tup (ts : CTs)
inductive CTs where
  | nil | cons (t : CT) (r : CTs)
end
mutual
inductive CE where
  | var (i : Nat) | non | bl (b : Bool) | int (i : Int) | str (s : Str)
  | neg (a : CE) | not_ (a : CE) | and_ (a b : CE) | or_ (a b : CE) | ifx (c a b : CE)
  | bin (op : BOp) (fz : Bool) (a b : CE)
  | cmp (op : COp) (a b : CE) | chain (op op' : COp) (a b c : CE)
  | tup (es : CEs) | lst (fz : Bool) (es : CEs) | dct (fz : Bool) (ps : CPs)
  | attr (a : CE) (f : Nat) | sub (a b : CE) | slc (fz : Bool) (a : CE) (lo hi : CO)
  | call (f : Nat) (es : CEs) | mk (c : Nat) (es : CEs) | meth (a : CE) (m : Nat) (es : CEs) | ocall (a : CE) (es : CEs)
  | blt (b : Blt) (fz : Bool) (es : CEs) | bm (m : BM) (fz : Bool) (a : CE) (es : CEs)
  | isin (a : CE) (t : Ty)
  | lc (fz : Bool) (own : List Nat) (t : CT) (it : CI) (c : CO) (e : CE)
  | dc (fz : Bool) (own : List Nat) (t : CT) (it : CI) (c : CO) (k e : CE)
  | frz (a : CE)
inductive CEs where
  | nil | cons (e : CE) (r : CEs)
inductive CPs where
  | nil | cons (k e : CE) (r : CPs)
inductive CO where
  | no | so (e : CE)
inductive CI where
  | val (a : CE) | rng1 (a : CE) | rng2 (a b : CE) | rng3 (a b c : CE) | items (a : CE) | enum (a : CE) | rev (a : CE)
end
mutual
/-- what stands in an except suite -/
inductive SX where
  | non | bl (b : Bool) | int (i : Int) | str (s : Str) | var (i : Nat)
  | isx (d : Nat) | ist (ds : List Nat) | isv | fld (f : Nat)
  | not_ (a : SX) | and_ (a b : SX) | or_ (a b : SX) | eqb (ne : Bool) (a b : SX)
  | lst (fz : Bool) (es : SXs) | tup (es : SXs) | inc (i : Nat) (k : Int)
inductive SXs where
  | nil | cons (e : SX) (r : SXs)
end
inductive SU where
  | set (i : Nat) (e : SX) | ret (e : SX) | cont
structure Hd where
  c : Nat
  nm : Option Nat
  su : List SU
mutual
inductive CS where
  | set (t : CT) (e : CE) | setA (o : CE) (f : Nat) (e : CE) | setI (o i e : CE) | aug (i : Nat) (op : BOp) (e : CE)
  | ret (e : CE) | retN | ife (c : CE) (a b : CSs) | for_ (t : CT) (it : CI) (b : CSs) | while_ (c : CE) (b : CSs)
  | expr (e : CE) | pass | brk | cont | never | raise_ (c : Nat) | try_ (b : CSs) (hs : List Hd)
inductive CSs where
  | nil | cons (s : CS) (r : CSs)
end

/-- special methods -/
inductive SM where
  | init | bin (op : BOp) | iadd | cmp (op : COp) | getitem | setitem | len | call
  deriving DecidableEq
def Ty.nameS : Ty → Option String
  | .int => some "int" | .bool => some "bool" | .str => some "str" | .list => some "list" | .tuple => some "tuple" | .dict => some "dict" | .cls _ => none
structure FDef where
  np : Nat
  dfl : List Vl
  nl : Nat
  mode : Nat
  body : CSs
structure Tab where
  defs : Nat → Option FDef
  meth : Nat → Nat → Option Nat
  sp : Nat → SM → Option Nat
  fld : Nat → Nat → Bool
  isC : Nat → Bool
  wl : Nat
  isX : Nat → Bool := fun _ => false
  xc : Nat → Bool := fun _ => false
  sub : Nat → Nat → Bool := fun _ _ => false
  xf : Nat → Nat → Bool := fun _ _ => false

/-! ### results -/
inductive Res (α : Type) where
  | ok (a : α) (h : Hv) | ex (c : Nat) (fs : List (Nat × Vl)) (h : Hv) | st
def Res.bind {α β : Type} : Res α → (α → Hv → Res β) → Res β
  | .ok a h, f => f a h
  | .ex c fs h, _ => .ex c fs h
  | .st, _ => .st
abbrev Lo := List (Option Vl)
inductive Fl where
  | nx (s : Lo) | rt (v : Vl) | bk (s : Lo) | ct (s : Lo)

/-- the longest list, text that may be made (2 ^ 24) -/
def LIM : Nat := 16777216

/-! ### values -/
def asL (h : Hv) : Vl → Option (List Vl)
  | .fl l => some l
  | .ref n => match h[n]? with
    | some (.lst l) => some l
    | _ => none
  | _ => none
def asS (h : Hv) : Vl → Option (List Vl)
  | .tup l => some l
  | v => asL h v
def asD (h : Hv) : Vl → Option (List (Key × Vl))
  | .fd l => some l
  | .ref n => match h[n]? with
    | some (.dct l) => some l
    | some (.lck l) => some l
    | _ => none
  | _ => none
def asO (h : Hv) : Vl → Option (Nat × List (Nat × Vl))
  | .fo c fs => some (c, fs)
  | .ref n => match h[n]? with
    | some (.obj c fs) => some (c, fs)
    | _ => none
  | _ => none
def mkL (fz : Bool) (l : List Vl) (h : Hv) : Res Vl := if fz then .ok (.fl l) h else .ok (.ref h.length) (h ++ [.lst l])
def mkD (fz : Bool) (l : List (Key × Vl)) (h : Hv) : Res Vl := if fz then .ok (.fd l) h else .ok (.ref h.length) (h ++ [.dct l])
def keyOf : Vl → Option Key
  | .int i => some (.inl i)
  | .str s => some (.inr s)
  | _ => none
def kVl : Key → Vl
  | .inl i => .int i
  | .inr s => .str s
def look {κ : Type} [DecidableEq κ] (l : List (κ × Vl)) (k : κ) : Option Vl := (l.find? fun kv => decide (kv.1 = k)).map (·.2)
def put {κ : Type} [DecidableEq κ] (l : List (κ × Vl)) (k : κ) (v : Vl) : List (κ × Vl) :=
  if (l.any fun kv => decide (kv.1 = k)) then l.map fun kv => if kv.1 = k then (kv.1, v) else kv else l ++ [(k, v)]
/-- fields: the place kept -/
def putF (k : Nat) (v : Vl) : List (Nat × Vl) → List (Nat × Vl)
  | [] => [(k, v)]
  | (g, x) :: r => if g = k then (g, v) :: r else (g, x) :: putF k v r

/-! ### truth, ==, < -/
def truV (h : Hv) : Vl → Option Bool
  | .non => some false
  | .bl b => some b
  | .int i => some (i != 0)
  | .str s => if s.length ≤ LIM then some ((s.length : Int) != 0) else none
  | .tup l => some (!l.isEmpty)
  | .fl l => some (!l.isEmpty)
  | .fd l => some (!l.isEmpty)
  | .fo _ _ => none
  | .ref n => match h[n]? with
    | some (.lst l) => some (!l.isEmpty)
    | some (.dct l) => some (!l.isEmpty)
    | _ => none
/-- what == looks at -/
inductive Vw where
  | sc (v : Vl) | L (l : List Vl) | T (l : List Vl) | D (l : List (Key × Vl)) | no
def vw (h : Hv) : Vl → Vw
  | .non => .sc .non
  | .bl b => .sc (.bl b)
  | .int i => .sc (.int i)
  | .str s => .sc (.str s)
  | .tup l => .T l
  | .fl l => .L l
  | .fd l => .D l
  | .fo _ _ => .no
  | .ref n => match h[n]? with
    | some (.lst l) => .L l
    | some (.dct l) => .D l
    | _ => .no
def scEq : Vl → Vl → Option Bool
  | .non, .non => some true
  | .non, .int _ => some false | .int _, .non => some false | .non, .bl _ => some false | .bl _, .non => some false
  | .non, .str _ => some false | .str _, .non => some false
  | .int a, .int b => some (decide (a = b)) | .bl a, .bl b => some (decide (a = b)) | .str a, .str b => some (decide (a = b))
  | .int _, .str _ => some false | .str _, .int _ => some false | .bl _, .str _ => some false | .str _, .bl _ => some false
  | _, _ => none
def allEq (f : Vl → Vl → Option Bool) : List Vl → List Vl → Option Bool
  | [], [] => some true
  | a :: l, b :: m => match f a b, allEq f l m with
    | some x, some y => some (x && y)
    | _, _ => none
  | _, _ => none
/-- .. of tuples: the common places, then the lengths -/
def allEqT (f : Vl → Vl → Option Bool) : List Vl → List Vl → Option Bool
  | [], [] => some true
  | [], _ :: _ => some false
  | _ :: _, [] => some false
  | a :: l, b :: m => match f a b, allEqT f l m with
    | some x, some y => some (x && y)
    | _, _ => none
def dctEq (f : Vl → Vl → Option Bool) (m : List (Key × Vl)) : List (Key × Vl) → Option Bool
  | [] => some true
  | (k, v) :: l => match look m k with
    | none => some false
    | some u => match f v u, dctEq f m l with
      | some x, some y => some (x && y)
      | _, _ => none
def eqF : Nat → Hv → Vl → Vl → Option Bool
  | 0, _, _, _ => none
  | n + 1, h, a, b => match vw h a, vw h b with
    | .sc x, .sc y => scEq x y
    | .L l, .L m => if l.length = m.length then allEq (eqF n h) l m else some false
    | .T l, .T m => allEqT (eqF n h) l m
    | .D l, .D m => if l.length = m.length then dctEq (eqF n h) m l else some false
    | .sc _, .T _ => some false
    | .T _, .sc _ => some false
    | .sc _, .L _ => some false
    | .L _, .sc _ => some false
    | .L _, .T _ => some false
    | .T _, .L _ => some false
    | _, _ => none
def eqV (h : Hv) (a b : Vl) : Option Bool := eqF 60 h a b
def scLt : Vl → Vl → Option Bool
  | .int a, .int b => some (decide (a < b))
  | .str a, .str b => some (decide (a.cps.toList < b.cps.toList))
  | _, _ => none
/-- the first places that differ -/
def lexLt (fe fl : Vl → Vl → Option Bool) : List Vl → List Vl → Option Bool
  | [], [] => some false
  | [], _ :: _ => some true
  | _ :: _, [] => some false
  | a :: l, b :: m => match fe a b with
    | some true => lexLt fe fl l m
    | some false => fl a b
    | none => none
def ltF (h : Hv) (a b : Vl) : Option Bool := match vw h a, vw h b with
  | .sc x, .sc y => scLt x y
  | _, _ => none
def ltV (h : Hv) (a b : Vl) : Option Bool := ltF h a b

def b2 (b : Bool) : Int := if b = true then 1 else 0
def ordI (op : COp) (i j : Int) : Option Bool := match op with
  | .lt => some (decide (i < j))
  | .le => some (decide (i ≤ j))
  | .gt => some (decide (j < i))
  | .ge => some (decide (j ≤ i))
  | _ => none
def scOrd (op : COp) : Vl → Vl → Option Bool
  | .int i, .int j => ordI op i j
  | .bl a, .bl b => ordI op (b2 a) (b2 b)
  | _, _ => none
/-- tuples: the first places that differ, then the lengths -/
def lexO (fe fo : Vl → Vl → Option Bool) (op : COp) : List Vl → List Vl → Option Bool
  | [], m => ordI op 0 (m.length : Nat)
  | a :: l, [] => ordI op ((a :: l).length : Nat) 0
  | a :: l, b :: m => match fe a b, lexO fe fo op l m with
    | some true, some k => some k
    | some false, some _ => fo a b
    | _, _ => none
def ordF (op : COp) : Nat → Hv → Vl → Vl → Option Bool
  | 0, _, _, _ => none
  | n + 1, h, a, b => match vw h a, vw h b with
    | .sc x, .sc y => scOrd op x y
    | .T l, .T m => lexO (eqF n h) (ordF op n h) op l m
    | _, _ => none

/-! ### operators -/
def chk {α : Type} (c : Prop) [Decidable c] (r : Res α) : Res α := if c then r else .st
def ofO {α : Type} (o : Option α) (h : Hv) : Res α := match o with
  | some a => .ok a h
  | none => .st
def natBits (i : Int) : Nat := i.natAbs.log2
def binF (op : BOp) (fz : Bool) (a b : Vl) (h : Hv) : Res Vl :=
  match op, a, b with
  | .add, .int i, .int j => .ok (.int (i + j)) h
  | .sub, .int i, .int j => .ok (.int (i - j)) h
  | .mul, .int i, .int j => chk (natBits i + natBits j < 1000000) (.ok (.int (i * j)) h)
  | .fdiv, .int i, .int j => chk (0 < j ∧ natBits j < 9000) (.ok (.int (i / j)) h)
  | .mod, .int i, .int j => chk (0 < j) (.ok (.int (i % j)) h)
  | .pow, .int i, .int j => chk (0 ≤ j ∧ (natBits i + 1 : Int) * j ≤ 100000000) (.ok (.int (i ^ j.toNat)) h)
  | .add, .str s, .str t => chk (s.length + t.length ≤ LIM) (.ok (.str (s ++ t)) h)
  | .add, .tup l, .tup m => chk (l.length + m.length ≤ LIM ∧ l ≠ [] ∧ m ≠ []) (.ok (.tup (l ++ m)) h)
  | .add, a, b => match asL h a, asL h b with
    | some l, some m => chk (l.length + m.length ≤ LIM) (mkL fz (l ++ m) h)
    | _, _ => .st
  | _, _, _ => .st
def inL (h : Hv) (x : Vl) : List Vl → Option Bool
  | [] => some false
  | y :: r => match eqV h y x, inL h x r with
    | some a, some b => some (a || b)
    | _, _ => none
def inF (h : Hv) (x y : Vl) : Option Bool := match y with
  | .str s => none
  | y => match asD h y with
    | some l => (keyOf x).map fun k => (look l k).isSome
    | none => none
def cmpF (op : COp) (a b : Vl) (h : Hv) : Option Bool :=
  match op with
  | .eq => eqV h a b
  | .ne => (eqV h a b).map (!·)
  | .lt => match a, b with
    | .tup l, .tup m => ordF .lt 60 h (.tup l) (.tup m)
    | a, b => ltV h a b
  | .gt => match a, b with
    | .tup l, .tup m => ordF .gt 60 h (.tup l) (.tup m)
    | a, b => ltV h b a
  | .le => match a, b with
    | .int i, .int j => some (decide (i ≤ j))
    | .tup l, .tup m => ordF .le 60 h (.tup l) (.tup m)
    | _, _ => none
  | .ge => match a, b with
    | .int i, .int j => some (decide (j ≤ i))
    | .tup l, .tup m => ordF .ge 60 h (.tup l) (.tup m)
    | _, _ => none
  | .is_ => match b with
    | .non => some (match a with | .non => true | _ => false)
    | .bl c => match a with
      | .bl d => some (decide (d = c))
      | _ => none
    | _ => none
  | .isnot => match b with
    | .non => some (match a with | .non => false | _ => true)
    | _ => none
  | .in_ => inF h a b
  | .notin => (inF h a b).map (!·)
def subF (a b : Vl) (h : Hv) : Res Vl := match a, b with
  | .str s, .int i => chk (s.length ≤ LIM) (ofO ((L2.ixN s.cps.toList.length i).bind fun k => (s.cps.toList[k]?).map fun c => .str ⟨#[c]⟩) h)
  | a, b => match asS h a, b with
    | some l, .int i => ofO ((L2.ixN l.length i).bind fun k => l[k]?) h
    | _, _ => match asD h a with
      | some l => ofO ((keyOf b).bind fun k => look l k) h
      | none => .st
def cut {α : Type} (l : List α) (lo hi : Option Int) : List α := (l.drop (HT.sIx l.length 0 lo)).take (HT.sIx l.length l.length hi - HT.sIx l.length 0 lo)
def slcF (fz : Bool) (a : Vl) (lo hi : Option Int) (h : Hv) : Res Vl := match a with
  | .str s => chk (s.length ≤ LIM) (.ok (.str (cutS s lo hi)) h)
  | .tup l => chk (¬ (HT.sIx l.length 0 lo = 0 ∧ HT.sIx l.length l.length hi = l.length)) (.ok (.tup (cut l lo hi)) h)
  | a => match asL h a with
    | some l => mkL fz (cut l lo hi) h
    | none => .st
/-- the texts in order -/
def insS (x : Str) : List Str → List Str
  | [] => [x]
  | y :: r => if x.cps.toList ≤ y.cps.toList then x :: y :: r else y :: insS x r
def sortS (l : List Str) : List Str := l.foldr insS []
def strs? : List Vl → Option (List Str)
  | [] => some []
  | .str s :: r => (strs? r).map (s :: ·)
  | _ => none
def ints? : List Vl → Option (List Int)
  | [] => some []
  | .int s :: r => (ints? r).map (s :: ·)
  | _ => none
def keyS? : List (Key × Vl) → Option (List Str)
  | [] => some []
  | (.inr s, _) :: r => (keyS? r).map (s :: ·)
  | _ => none
/-- the pairs that dict() gets -/
def pairs? : List Vl → Option (List (Key × Vl))
  | [] => some []
  | .tup [k, v] :: r => match keyOf k, pairs? r with
    | some k, some r => some ((k, v) :: r)
    | _, _ => none
  | _ => none
def mergeD (l more : List (Key × Vl)) : List (Key × Vl) := more.foldl (fun acc kv => put acc kv.1 kv.2) l
def tru? (h : Hv) : List Vl → Option (List Bool)
  | [] => some []
  | v :: r => match v, tru? h r with
    | .bl b, some r => some (b :: r)
    | _, _ => none
def keyVl : Key → Vl
  | .inl i => .int i
  | .inr s => .str s
def bltF (b : Blt) (fz : Bool) (args : List Vl) (h : Hv) : Res Vl :=
  match b, args with
  | .len, [.str s] => chk (s.length ≤ LIM) (.ok (.int s.length) h)
  | .len, [v] => match asS h v with
    | some l => .ok (.int l.length) h
    | none => match asD h v with
      | some l => .ok (.int l.length) h
      | none => .st
  | .abs, [.int i] => .ok (.int (if i < 0 then -i else i)) h
  | .ord, [.str s] => match s.cps.toList with
    | [c] => .ok (.int c) h
    | _ => .st
  | .int, [.int i] => .ok (.int i) h
  | .int, [.bl b] => .ok (.int (if b then 1 else 0)) h
  | .sum, [v] => match (asL h v).bind ints? with
    | some l => .ok (.int l.sum) h
    | none => .st
  | .list, [v] => match asS h v with
    | some l => mkL fz l h
    | none => match asD h v with
      | some l => mkL fz (l.map fun p => keyVl p.1) h
      | none => .st
  | .tuple, [.tup l] => .ok (.tup l) h
  | .tuple, [v] => match asL h v with
    | some l => .ok (.tup l) h
    | none => .st
  | .dict, [] => mkD fz [] h
  | .dict, [v] => match asD h v with
    | some l => mkD fz l h
    | none => match (asL h v).bind pairs? with
      | some l => chk (l.length ≤ LIM) (mkD fz (mergeD [] l) h)
      | none => .st
  | .sorted, [v] => match asD h v with
    | some l => match keyS? l with
      | some ks => chk (ks.length < 64) (mkL fz ((sortS ks).map .str) h)
      | none => .st
    | none => match (asL h v).bind strs? with
      | some ks => chk (ks.length < 64) (mkL fz ((sortS ks).map .str) h)
      | none => .st
  | .str, [.str s] => .ok (.str s) h
  | .all, [v] => match (asL h v).bind (tru? h) with
    | some l => .ok (.bl (l.all id)) h
    | none => .st
  | .any, [v] => match (asL h v).bind (tru? h) with
    | some l => .ok (.bl (l.any id)) h
    | none => .st
  | _, _ => .st
def appF (o : Vl) (args : List Vl) (h : Hv) : Res Vl := match o with
  | .ref n => match h[n]? with
    | some (.lst l) => match args with
      | [v] => chk (l.length < LIM) (.ok .non (h.set n (.lst (l ++ [v]))))
      | _ => .st
    | _ => .st
  | _ => .st
def insF (o : Vl) (args : List Vl) (h : Hv) : Res Vl := match o with
  | .ref n => match h[n]? with
    | some (.lst l) => match args with
      | [.int i, v] => chk (l.length < LIM ∧ 0 ≤ i ∧ i ≤ LIM) (.ok .non (h.set n (.lst (l.take i.toNat ++ [v] ++ l.drop i.toNat))))
      | _ => .st
    | _ => .st
  | _ => .st
def popF (o : Vl) (args : List Vl) (h : Hv) : Res Vl := match o with
  | .ref n => match h[n]? with
    | some (.lst l) => match args with
      | [] => match l[l.length - 1]? with
        | some v => .ok v (h.set n (.lst l.dropLast))
        | none => .st
      | _ => .st
    | _ => .st
  | _ => .st
def joinF (o : Vl) (args : List Vl) (h : Hv) : Res Vl := match o with
  | .str a => match args with
    | [v] => match (asL h v).bind strs? with
      | some l => chk ((l.map (·.length)).sum + l.length * a.length ≤ LIM) (.ok (.str (Txt.join a l)) h)
      | none => .st
    | _ => .st
  | _ => .st
def getF (o k d : Vl) (h : Hv) : Res Vl := match asD h o, keyOf k with
  | some l, some k => .ok ((look l k).getD d) h
  | _, _ => .st
def bmF (m : BM) (fz : Bool) (o : Vl) (args : List Vl) (h : Hv) : Res Vl := match m with
  | .append => appF o args h
  | .insert => insF o args h
  | .pop => popF o args h
  | .join => joinF o args h
  | .get => match args with
    | [k] => getF o k .non h
    | [k, d] => getF o k d h
    | _ => .st
  | _ => .st
def augF (op : BOp) (a b : Vl) (h : Hv) : Res Vl := match a, b with
  | .int i, .int j => match op with
    | .add => .ok (.int (i + j)) h
    | .sub => .ok (.int (i - j)) h
    | _ => .st
  | _, _ => .st
def tyB (v : String) (t : Ty) : Option Bool := match t.nameS with
  | some n => kitB v n
  | none => some false
def tyC (T : Tab) (c : Nat) (t : Ty) : Option Bool := if T.isC c then match t with
  | .cls d => some (decide (c = d))
  | _ => some false
  else none
def tyF (T : Tab) (h : Hv) (v : Vl) (t : Ty) : Option Bool := match v with
  | .non => tyB "NoneType" t
  | .bl _ => tyB "bool" t
  | .int _ => tyB "int" t
  | .str _ => tyB "str" t
  | .tup _ => tyB "tuple" t
  | .fl _ => tyB "list" t
  | .fd _ => tyB "dict" t
  | .fo c _ => tyC T c t
  | .ref n => match h[n]? with
    | some (.lst _) => tyB "list" t
    | some (.dct _) => tyB "dict" t
    | some (.obj c _) => tyC T c t
    | _ => none
/-- the method is a method of it -/
def bmK (m : BM) (h : Hv) (o : Vl) : Bool := match m with
  | .get => (asD h o).isSome
  | .join => match o with
    | .str _ => true
    | _ => false
  | .append => isLst h o | .pop => isLst h o | .extend => isLst h o | .insert => isLst h o | .index => isLst h o
where
  isLst (h : Hv) (o : Vl) : Bool := match o with
    | .ref n => match h[n]? with
      | some (.lst _) => true
      | _ => false
    | _ => false

/-! ### freezing, cutting -/
mutual
/-- no reference at n or behind -/
def below (n : Nat) : Vl → Bool
  | .tup l => belows n l
  | .fl l => belows n l
  | .fd l => belowK n l
  | .fo _ fs => belowF n fs
  | .ref m => decide (m < n)
  | _ => true
def belows (n : Nat) : List Vl → Bool
  | [] => true
  | v :: r => below n v && belows n r
def belowK (n : Nat) : List (Key × Vl) → Bool
  | [] => true
  | (_, v) :: r => below n v && belowK n r
def belowF (n : Nat) : List (Nat × Vl) → Bool
  | [] => true
  | (_, v) :: r => below n v && belowF n r
end
def belowC (n : Nat) : Cell → Bool
  | .lst l => belows n l
  | .dct l => belowK n l
  | .lck l => belowK n l
  | .obj _ fs => belowF n fs
  | .dead => true
/-- behind an expression that began with h0: what it made beyond is dropped -/
def CutOk (h0 : Hv) (v : Vl) (h : Hv) : Prop := below h0.length v = true ∧ ∀ (i : Nat) (c : Cell), i < h0.length → h[i]? = some c → h0[i]? = some c ∨ belowC h0.length c = true
open Classical in
noncomputable def cutR (h0 : Hv) : Res Vl → Res Vl
  | .ok v h => if CutOk h0 v h ∧ h0.length ≤ h.length then .ok v (h.take h0.length) else .st
  | .ex c fs h => if CutOk h0 (.fo 0 fs) h ∧ h0.length ≤ h.length then .ex c fs (h.take h0.length) else .st
  | .st => .st
/-- freeze what v leads to -/
def fzF : Nat → Vl → Hv → Option (Vl × Hv)
  | 0, _, _ => none
  | n + 1, v, h => if below 0 v then some (v, h) else match v with
    | .ref m => match h[m]? with
      | some (.lst l) => match fzL (fzF n) l h with
        | some (l', h') => if h'[m]? matches some (.lst _) then some (.fl l', h'.set m .dead) else none
        | none => none
      | some (.dct l) => match fzL (fzF n) (l.map (·.2)) h with
        | some (l', h') => some (.fd ((l.map (·.1)).zip l'), h'.set m .dead)
        | none => none
      | some (.obj c fs) => match fzL (fzF n) (fs.map (·.2)) h with
        | some (l', h') => some (.fo c ((fs.map (·.1)).zip l'), h'.set m .dead)
        | none => none
      | _ => none
    | .tup l => match fzL (fzF n) l h with
      | some (l', h') => some (.tup l', h')
      | none => none
    | v => some (v, h)
where
  fzL (f : Vl → Hv → Option (Vl × Hv)) : List Vl → Hv → Option (List Vl × Hv)
    | [], h => some ([], h)
    | v :: r, h => match f v h with
      | some (v', h1) => match fzL f r h1 with
        | some (r', h2) => some (v' :: r', h2)
        | none => none
      | none => none
end Core
end

section
set_option Elab.async false
set_option linter.all false
set_option maxRecDepth 100000
set_option maxHeartbeats 4000000
set_option autoImplicit false
/-! Core3: what terms are worth. -/
namespace Core
open PySem L2

/-- where a walk's items come from: a place that must stay -/
inductive Src where
  | free | cell (n : Nat) (l : List Vl)
def Src.Ok : Src → Hv → Prop
  | .free, _ => True
  | .cell n l, h => h[n]? = some (.lst l)
mutual
def asgT : CT → Vl → Lo → Option Lo
  | .var i, v, s => some (s.set i (some v))
  | .tup ts, .tup l, s => asgTs ts l s
  | .tup _, _, _ => none
def asgTs : CTs → List Vl → Lo → Option Lo
  | .nil, [], s => some s
  | .cons t ts, v :: l, s => (asgT t v s).bind (asgTs ts l)
  | _, _, _ => none
end
def wipeL (s : Lo) : List Nat → Lo
  | [] => s
  | v :: vs => (wipeL s vs).set v none
open Classical in
noncomputable def forR (src : Src) (t : CT) (body : Lo → Hv → Res Fl) : List Vl → Lo → Hv → Res Fl
  | [], s, h => if src.Ok h then .ok (.nx s) h else .st
  | x :: r, s, h => if src.Ok h then match asgT t x s with
    | none => .st
    | some s1 => match body s1 h with
      | .ok (.nx s2) h2 => forR src t body r s2 h2
      | .ok (.ct s2) h2 => forR src t body r s2 h2
      | .ok (.bk s2) h2 => .ok (.nx s2) h2
      | .ok (.rt v) h2 => .ok (.rt v) h2
      | .ex c fs h2 => .ex c fs h2
      | .st => .st
    else .st
def whileR (cond : Lo → Hv → Res Vl) (body : Lo → Hv → Res Fl) : Nat → Lo → Hv → Res Fl
  | 0, _, _ => .st
  | n + 1, s, h => match cond s h with
    | .ok (.bl true) h1 => match body s h1 with
      | .ok (.nx s2) h2 => whileR cond body n s2 h2
      | .ok (.ct s2) h2 => whileR cond body n s2 h2
      | .ok (.bk s2) h2 => .ok (.nx s2) h2
      | .ok (.rt v) h2 => .ok (.rt v) h2
      | .ex c fs h2 => .ex c fs h2
      | .st => .st
    | .ok (.bl false) h1 => .ok (.nx s) h1
    | .ok _ _ => .st
    | .ex c fs h2 => .ex c fs h2
    | .st => .st
open Classical in
noncomputable def lcR (src : Src) (t : CT) (cond elt : Lo → Hv → Res Vl) (s : Lo) : List Vl → Hv → Res (List Vl)
  | [], h => if src.Ok h then .ok [] h else .st
  | x :: r, h => if src.Ok h then match asgT t x s with
    | none => .st
    | some s1 => (cond s1 h).bind fun c h1 => match c with
      | .bl true => (elt s1 h1).bind fun v h2 => (lcR src t cond elt s r h2).bind fun vs h3 => .ok (v :: vs) h3
      | .bl false => lcR src t cond elt s r h1
      | _ => .st
    else .st
open Classical in
noncomputable def dcR (src : Src) (t : CT) (cond key elt : Lo → Hv → Res Vl) (s : Lo) : List Vl → List (Key × Vl) → Hv → Res (List (Key × Vl))
  | [], acc, h => if src.Ok h then .ok acc h else .st
  | x :: r, acc, h => if src.Ok h then match asgT t x s with
    | none => .st
    | some s1 => (cond s1 h).bind fun c h1 => match c with
      | .bl true => (key s1 h1).bind fun k h2 => (elt s1 h2).bind fun v h3 => match keyOf k with
        | some k => dcR src t cond key elt s r (put acc k v) h3
        | none => .st
      | .bl false => dcR src t cond key elt s r acc h1
      | _ => .st
    else .st
/-- no exception leaves it -/
def noX {α : Type} : Res α → Res α
  | .ok a h => .ok a h
  | _ => .st
def tw (tst : Bool) (r : Res Vl) : Res Vl := if tst then r.bind fun v h => match truV h v with
  | some b => .ok (.bl b) h
  | none => .st
  else r
/-- a call by an own special method -/
def spC (T : Tab) (cl : Nat → List Vl → Hv → Res Vl) (c : Nat) (m : SM) (args : List Vl) (h : Hv) : Res Vl := match T.sp c m with
  | some f => cl f args h
  | none => .st
/-- its type is known -/
def tyKn (T : Tab) (h : Hv) (v : Vl) : Bool := match v with
  | .fo c _ => T.isC c
  | .ref n => match h[n]? with
    | some (.lst _) => true
    | some (.dct _) => true
    | some (.obj c _) => T.isC c
    | _ => false
  | _ => true
def binD (T : Tab) (cl : Nat → List Vl → Hv → Res Vl) (op : BOp) (fz : Bool) (a b : Vl) (h : Hv) : Res Vl := match asO h a with
  | some (c, _) => match asO h b with
    | some (d, _) => if T.isC d = true then spC T cl c (.bin op) [a, b] h else .st
    | none => .st
  | none => binF op fz a b h
def tru1 (h : Hv) (v : Vl) : Res Vl := match v with
  | .bl b => .ok (.bl b) h
  | _ => .st
def notV (h : Hv) (v : Vl) : Res Vl := match v with
  | .bl b => .ok (.bl (!b)) h
  | _ => .st
def cmpO (T : Tab) (cl : Nat → List Vl → Hv → Res Vl) (op : COp) (a b : Vl) (h : Hv) : Res Vl := match asO h a with
  | some (c, _) => if T.isC c = true ∧ tyKn T h b = true then spC T cl c (.cmp op) [a, b] h else .st
  | none => ofO ((cmpF op a b h).map .bl) h
def cmpD (T : Tab) (cl : Nat → List Vl → Hv → Res Vl) (op : COp) (a b : Vl) (h : Hv) : Res Vl := match op with
  | .in_ => match asO h b with
    | some (c, _) => (spC T cl c (.cmp .in_) [b, a] h).bind fun v h => tru1 h v
    | none => ofO ((cmpF .in_ a b h).map .bl) h
  | .notin => match asO h b with
    | some (c, _) => (spC T cl c (.cmp .in_) [b, a] h).bind fun v h => notV h v
    | none => ofO ((cmpF .notin a b h).map .bl) h
  | .is_ => ofO ((cmpF .is_ a b h).map .bl) h
  | .isnot => ofO ((cmpF .isnot a b h).map .bl) h
  | .eq => cmpO T cl .eq a b h
  | .ne => cmpO T cl .ne a b h
  | .lt => cmpO T cl .lt a b h
  | .le => cmpO T cl .le a b h
  | .gt => cmpO T cl .gt a b h
  | .ge => cmpO T cl .ge a b h
def subD (T : Tab) (cl : Nat → List Vl → Hv → Res Vl) (a b : Vl) (h : Hv) : Res Vl := match asO h a with
  | some (c, _) => spC T cl c .getitem [a, b] h
  | none => subF a b h
def bltD (T : Tab) (cl : Nat → List Vl → Hv → Res Vl) (b : Blt) (fz : Bool) (args : List Vl) (h : Hv) : Res Vl := match b, args with
  | .len, [v] => match asO h v with
    | some (c, _) => (noX (spC T cl c .len [v] h)).bind fun n h => match n with
      | .int i => chk (0 ≤ i ∧ i < 1000000000) (.ok (.int i) h)
      | _ => .st
    | none => bltF .len fz [v] h
  | b, args => bltF b fz args h
def setD (T : Tab) (cl : Nat → List Vl → Hv → Res Vl) (o i v : Vl) (h : Hv) : Res Unit := match o with
  | .ref n => match h[n]? with
    | some (.lst l) => match i with
      | .int k => match L2.ixN l.length k with
        | some j => .ok () (h.set n (.lst (l.set j v)))
        | none => .st
      | _ => .st
    | some (.dct l) => match keyOf i with
      | some k => chk (l.length < LIM) (.ok () (h.set n (.dct (put l k v))))
      | none => .st
    | some (.obj c _) => (noX (spC T cl c .setitem [o, i, v] h)).bind fun _ h => .ok () h
    | _ => .st
  | _ => .st
def augD (T : Tab) (cl : Nat → List Vl → Hv → Res Vl) (op : BOp) (a b : Vl) (h : Hv) : Res Vl := match asO h a with
  | some (c, _) => match op with
    | .add => noX (spC T cl c .iadd [a, b] h)
    | _ => .st
  | none => augF op a b h
def mkD' (T : Tab) (cl : Nat → List Vl → Hv → Res Vl) (c : Nat) (args : List Vl) (h : Hv) : Res Vl :=
  (spC T cl c .init (.ref h.length :: args) (h ++ [.obj c []])).bind fun v h1 => match v with
    | .non => .ok (.ref h.length) h1
    | _ => .st
/-- the items of what is walked, its source, the heap while it is walked, and behind -/
structure Walk where
  src : Src
  items : List Vl
  lck : Option (Nat × List (Key × Vl))
def Walk.free (l : List Vl) : Walk := ⟨.free, l, none⟩
def rngL (lo : Int) (n : Nat) : List Vl := (List.range n).map fun i => .int (lo + (i : Nat))
def itD (h : Hv) (v : Vl) : Option Walk := match v with
  | .tup l => some (.free l)
  | .fl l => some (.free l)
  | .fd l => some (.free (l.map fun kv => kVl kv.1))
  | .str s => some (.free (s.cps.toList.map fun c => .str ⟨#[c]⟩))
  | .ref n => match h[n]? with
    | some (.lst l) => some ⟨.cell n l, l, none⟩
    | some (.dct l) => some ⟨.free, l.map fun kv => kVl kv.1, some (n, l)⟩
    | _ => none
  | _ => none
def itemsD (h : Hv) (v : Vl) : Option Walk := match v with
  | .fd l => some (.free (l.map fun kv => .tup [kVl kv.1, kv.2]))
  | .ref n => match h[n]? with
    | some (.dct l) => some ⟨.free, l.map fun kv => .tup [kVl kv.1, kv.2], some (n, l)⟩
    | _ => none
  | _ => none
def enumL (l : List Vl) : List Vl := (l.zipIdx).map fun p => .tup [.int (p.2 : Nat), p.1]
def enumD (h : Hv) (v : Vl) : Option Walk := match v with
  | .fl l => some (.free (enumL l))
  | .ref n => match h[n]? with
    | some (.lst l) => some ⟨.cell n l, enumL l, none⟩
    | _ => none
  | _ => none
def revD (v : Vl) : Option Walk := match v with
  | .fl l => some (.free l.reverse)
  | _ => none
def Walk.lock (k : Walk) (h : Hv) : Hv := match k.lck with
  | some (n, l) => h.set n (.lck l)
  | none => h
def unlockF (k : Walk) {α : Type} (r : Res α) : Res α := match k.lck with
  | none => r
  | some (n, l) => match r with
    | .ok a h => match h[n]? with
      | some (.lck m) => .ok a (h.set n (.dct m))
      | _ => .st
    | .ex _ _ _ => .st
    | .st => .st
/-- a value that is kept, or the next one (and, or as values) -/
def selR (t : Bool) (o : Option Bool) (v : Vl) (h : Hv) (r : Res Vl) : Res Vl := if t then .st else match o with
  | some true => .ok v h
  | some false => r
  | none => .st
mutual
noncomputable def evE (T : Tab) (cl : Nat → List Vl → Hv → Res Vl) : Bool → CE → Lo → Hv → Res Vl
  | t, .var i, s, h => tw t (match s[i]? with | some (some v) => .ok v h | _ => .st)
  | t, .non, s, h => tw t (.ok .non h)
  | t, .bl b, s, h => .ok (.bl b) h
  | t, .int i, s, h => tw t (.ok (.int i) h)
  | t, .str x, s, h => tw t (.ok (.str x) h)
  | t, .neg a, s, h => tw t ((evE T cl false a s h).bind fun v h => match v with
      | .int i => .ok (.int (-i)) h
      | _ => .st)
  | t, .not_ a, s, h => (tw (!t) (evE T cl t a s h)).bind fun v h => match v with
      | .bl b => .ok (.bl (!b)) h
      | _ => .st
  | t, .and_ a b, s, h => (evE T cl t a s h).bind fun v h => match v with
      | .bl true => evE T cl t b s h
      | .bl false => .ok (.bl false) h
      | v => selR t ((truV h v).map (!·)) v h (evE T cl t b s h)
  | t, .or_ a b, s, h => (evE T cl t a s h).bind fun v h => match v with
      | .bl false => evE T cl t b s h
      | .bl true => .ok (.bl true) h
      | v => selR t (truV h v) v h (evE T cl t b s h)
  | t, .ifx c a b, s, h => (evE T cl true c s h).bind fun v h => match v with
      | .bl true => evE T cl t a s h
      | .bl false => evE T cl t b s h
      | _ => .st
  | t, .bin op fz a b, s, h => tw t ((evE T cl false a s h).bind fun x h => (evE T cl false b s h).bind fun y h => binD T cl op fz x y h)
  | t, .cmp op a b, s, h => (evE T cl false a s h).bind fun x h => (evE T cl false b s h).bind fun y h => (cmpD T cl op x y h).bind fun v h => tru1 h v
  | t, .chain op op' a b c, s, h => (evE T cl false a s h).bind fun x h => (evE T cl false b s h).bind fun y h => (noX (cmpD T cl op x y h)).bind fun v h => match v with
      | .bl true => (evE T cl false c s h).bind fun z h => (noX (cmpD T cl op' y z h)).bind fun v h => tru1 h v
      | .bl false => .ok (.bl false) h
      | _ => .st
  | t, .tup es, s, h => tw t ((evEs T cl es s h).bind fun vs h => chk (vs.length ≤ LIM) (.ok (.tup vs) h))
  | t, .lst fz es, s, h => tw t ((evEs T cl es s h).bind fun vs h => chk (vs.length ≤ LIM) (mkL fz vs h))
  | t, .dct fz ps, s, h => tw t ((evPs T cl ps s h).bind fun ps h => chk (ps.length ≤ 15) (mkD fz (mergeD [] ps) h))
  | t, .attr a f, s, h => tw t ((evE T cl false a s h).bind fun v h => match asO h v with
      | some (c, fs) => if T.fld c f then ofO (fs.lookup f) h else .st
      | none => .st)
  | t, .sub a b, s, h => tw t ((evE T cl false a s h).bind fun x h => (evE T cl false b s h).bind fun y h => subD T cl x y h)
  | t, .slc fz a lo hi, s, h => tw t ((evE T cl false a s h).bind fun x h => (evO T cl lo s h).bind fun l h => (evO T cl hi s h).bind fun u h => slcF fz x l u h)
  | t, .call f es, s, h => tw t ((evEs T cl es s h).bind fun vs h => cl f vs h)
  | t, .mk c es, s, h => tw t ((evEs T cl es s h).bind fun vs h => mkD' T cl c vs h)
  | t, .meth a m es, s, h => tw t ((evE T cl false a s h).bind fun o h => match asO h o with
      | some (c, _) => match T.meth c m with
        | some f => (evEs T cl es s h).bind fun vs h => cl f (o :: vs) h
        | none => .st
      | none => .st)
  | t, .ocall a es, s, h => tw t ((evE T cl false a s h).bind fun o h => match asO h o with
      | some _ => (evEs T cl es s h).bind fun vs h => match asO h o with
        | some (c, _) => spC T cl c .call (o :: vs) h
        | none => .st
      | none => .st)
  | t, .blt b fz es, s, h => tw t ((evEs T cl es s h).bind fun vs h => bltD T cl b fz vs h)
  | t, .bm m fz a es, s, h => tw t ((evE T cl false a s h).bind fun o h => if bmK m h o then (evEs T cl es s h).bind fun vs h => bmF m fz o vs h else .st)
  | t, .isin a y, s, h => (evE T cl false a s h).bind fun v h => ofO ((tyF T h v y).map .bl) h
  | t, .lc fz own tg it c e, s, h => tw t ((evI T cl it s h).bind fun k h => chk (k.items.length ≤ LIM) ((unlockF k (lcR k.src tg (fun s h => noX (evC T cl c s h)) (fun s h => noX (evE T cl false e s h)) (wipeL s own) k.items (k.lock h))).bind fun l h => mkL fz l h))
  | t, .dc fz own tg it c ke e, s, h => tw t ((evI T cl it s h).bind fun k h => chk (k.items.length ≤ LIM) ((unlockF k (dcR k.src tg (fun s h => noX (evC T cl c s h)) (fun s h => noX (evE T cl false ke s h)) (fun s h => noX (evE T cl false e s h)) (wipeL s own) k.items [] (k.lock h))).bind fun l h => mkD fz l h))
  | t, .frz a, s, h => tw t (match evE T cl false a s h with
      | .ok v h1 => match fzF 60 v h1 with
        | some (v', h2) => cutR h (.ok v' h2)
        | none => .st
      | .ex c fs h1 => .ex c fs h1
      | .st => .st)
noncomputable def evEs (T : Tab) (cl : Nat → List Vl → Hv → Res Vl) : CEs → Lo → Hv → Res (List Vl)
  | .nil, s, h => .ok [] h
  | .cons e r, s, h => (evE T cl false e s h).bind fun v h => (evEs T cl r s h).bind fun vs h => .ok (v :: vs) h
noncomputable def evPs (T : Tab) (cl : Nat → List Vl → Hv → Res Vl) : CPs → Lo → Hv → Res (List (Key × Vl))
  | .nil, s, h => .ok [] h
  | .cons k e r, s, h => (evE T cl false k s h).bind fun x h => (evE T cl false e s h).bind fun v h => match keyOf x with
      | some x => (evPs T cl r s h).bind fun vs h => .ok ((x, v) :: vs) h
      | none => .st
noncomputable def evO (T : Tab) (cl : Nat → List Vl → Hv → Res Vl) : CO → Lo → Hv → Res (Option Int)
  | .no, s, h => .ok none h
  | .so e, s, h => (evE T cl false e s h).bind fun v h => match v with
      | .int i => .ok (some i) h
      | _ => .st
noncomputable def evC (T : Tab) (cl : Nat → List Vl → Hv → Res Vl) : CO → Lo → Hv → Res Vl
  | .no, s, h => .ok (.bl true) h
  | .so e, s, h => evE T cl true e s h
noncomputable def evI (T : Tab) (cl : Nat → List Vl → Hv → Res Vl) : CI → Lo → Hv → Res Walk
  | .val a, s, h => (evE T cl false a s h).bind fun v h => ofO (itD h v) h
  | .rng1 a, s, h => (evE T cl false a s h).bind fun v h => match v with
      | .int n => chk (-1000000000 ≤ n ∧ n ≤ 1000000000) (.ok (.free (rngL 0 n.toNat)) h)
      | _ => .st
  | .rng2 a b, s, h => (evE T cl false a s h).bind fun v h => (evE T cl false b s h).bind fun u h => match v, u with
      | .int m, .int n => chk (-1000000000 ≤ m ∧ m ≤ 1000000000 ∧ -1000000000 ≤ n ∧ n ≤ 1000000000) (.ok (.free (rngL m (n - m).toNat)) h)
      | _, _ => .st
  | .rng3 a b c, s, h => .st
  | .items a, s, h => (evE T cl false a s h).bind fun v h => ofO (itemsD h v) h
  | .enum a, s, h => (evE T cl false a s h).bind fun v h => ofO (enumD h v) h
  | .rev a, s, h => (evE T cl false a s h).bind fun v h => ofO (revD v) h
end
mutual
def seE (T : Tab) (c : Nat) (fs : List (Nat × Vl)) : SX → Lo → Hv → Res Vl
  | .non, s, h => .ok .non h
  | .bl b, s, h => .ok (.bl b) h
  | .int i, s, h => .ok (.int i) h
  | .str x, s, h => .ok (.str x) h
  | .var i, s, h => match s[i]? with
    | some (some v) => .ok v h
    | _ => .st
  | .isx d, s, h => if T.isX d then .ok (.bl (T.sub c d)) h else .st
  | .ist ds, s, h => if ds.all T.isX then .ok (.bl (ds.any (T.sub c))) h else .st
  | .isv, s, h => .ok (.bl true) h
  | .fld f, s, h => if T.xf c f then ofO (fs.lookup f) h else .st
  | .not_ a, s, h => (seE T c fs a s h).bind fun v h => match v with
    | .bl b => .ok (.bl (!b)) h
    | _ => .st
  | .and_ a b, s, h => (seE T c fs a s h).bind fun v h => match v with
    | .bl true => seE T c fs b s h
    | .bl false => .ok (.bl false) h
    | _ => .st
  | .or_ a b, s, h => (seE T c fs a s h).bind fun v h => match v with
    | .bl false => seE T c fs b s h
    | .bl true => .ok (.bl true) h
    | _ => .st
  | .eqb ne a b, s, h => (seE T c fs a s h).bind fun x h => (seE T c fs b s h).bind fun y h => match x, y with
    | .bl p, .bl q => .ok (.bl (if ne then !(decide (p = q)) else decide (p = q))) h
    | _, _ => .st
  | .lst fz es, s, h => (seEs T c fs es s h).bind fun vs h => chk (vs.length ≤ LIM) (mkL fz vs h)
  | .tup es, s, h => (seEs T c fs es s h).bind fun vs h => chk (vs.length ≤ LIM) (.ok (.tup vs) h)
  | .inc i k, s, h => match s[i]? with
    | some (some (.int j)) => .ok (.int (j + k)) h
    | _ => .st
def seEs (T : Tab) (c : Nat) (fs : List (Nat × Vl)) : SXs → Lo → Hv → Res (List Vl)
  | .nil, s, h => .ok [] h
  | .cons e r, s, h => (seE T c fs e s h).bind fun v h => (seEs T c fs r s h).bind fun vs h => .ok (v :: vs) h
end
def suU (T : Tab) (c : Nat) (fs : List (Nat × Vl)) : List SU → Lo → Hv → Res Fl
  | [], s, h => .ok (.nx s) h
  | .set i e :: r, s, h => (seE T c fs e s h).bind fun v h => suU T c fs r (s.set i (some v)) h
  | .ret e :: _, s, h => (seE T c fs e s h).bind fun v h => .ok (.rt v) h
  | .cont :: _, s, h => .ok (.ct s) h
/-- the name of an except clause goes -/
def offN (i : Option Nat) (r : Res Fl) : Res Fl := match i with
  | none => r
  | some i => match r with
    | .ok (.nx s) h => .ok (.nx (s.set i none)) h
    | .ok (.ct s) h => .ok (.ct (s.set i none)) h
    | .ok (.bk s) h => .ok (.bk (s.set i none)) h
    | r => r
def onN (i : Option Nat) (s : Lo) : Lo := match i with
  | none => s
  | some i => s.set i none
def hdR (T : Tab) (c : Nat) (fs : List (Nat × Vl)) (s : Lo) (h : Hv) : List Hd → Res Fl
  | [] => .ex c fs h
  | d :: r => if T.isX c = true ∧ T.isX d.c = true then if T.sub c d.c then offN d.nm (suU T c fs d.su (onN d.nm s) h) else hdR T c fs s h r else .st
mutual
def ctVs : CT → List Nat
  | .var i => [i]
  | .tup ts => ctsVs ts
def ctsVs : CTs → List Nat
  | .nil => []
  | .cons t r => ctVs t ++ ctsVs r
end
mutual
/-- the slots that are set -/
def asgS : CS → List Nat
  | .set t _ => ctVs t
  | .ife _ a b => asgSs a ++ asgSs b
  | _ => []
def asgSs : CSs → List Nat
  | .nil => []
  | .cons a r => asgS a ++ asgSs r
end
mutual
noncomputable def evS (T : Tab) (cl : Nat → List Vl → Hv → Res Vl) : CS → Lo → Hv → Res Fl
  | .set t e, s, h => (evE T cl false e s h).bind fun v h => match asgT t v s with
      | some s1 => .ok (.nx s1) h
      | none => .st
  | .setA o f e, s, h => (evE T cl false e s h).bind fun v h => (evE T cl false o s h).bind fun x h => match x with
      | .ref n => match h[n]? with
        | some (.obj c fs) => if T.fld c f = true ∧ fs.length < 1000 then .ok (.nx s) (h.set n (.obj c (putF f v fs))) else .st
        | _ => .st
      | _ => .st
  | .setI o i e, s, h => (evE T cl false e s h).bind fun v h => (evE T cl false o s h).bind fun x h => (evE T cl false i s h).bind fun y h => (setD T cl x y v h).bind fun _ h => .ok (.nx s) h
  | .aug i op e, s, h => (match s[i]? with | some (some v) => Res.ok v h | _ => .st).bind fun x h => (evE T cl false e s h).bind fun y h => (augD T cl op x y h).bind fun z h => .ok (.nx (s.set i (some z))) h
  | .ret e, s, h => (evE T cl false e s h).bind fun v h => .ok (.rt v) h
  | .retN, s, h => .ok (.rt .non) h
  | .ife c a b, s, h => (evE T cl true c s h).bind fun v h => match v with
      | .bl true => evSs T cl a s h
      | .bl false => evSs T cl b s h
      | _ => .st
  | .for_ t it b, s, h => (evI T cl it s h).bind fun k h => unlockF k (forR k.src t (evSs T cl b) k.items s (k.lock h))
  | .while_ c b, s, h => whileR (evE T cl true c) (evSs T cl b) T.wl s h
  | .expr e, s, h => (evE T cl false e s h).bind fun _ h => .ok (.nx s) h
  | .pass, s, h => .ok (.nx s) h
  | .brk, s, h => .ok (.bk s) h
  | .cont, s, h => .ok (.ct s) h
  | .never, s, h => .st
  | .raise_ c, s, h => if T.xc c then .ex c [] h else .st
  | .try_ b hs, s, h => match evSs T cl b s h with
    | .ex c fs h1 => hdR T c fs (wipeL s (asgSs b)) h1 hs
    | r => r
noncomputable def evSs (T : Tab) (cl : Nat → List Vl → Hv → Res Vl) : CSs → Lo → Hv → Res Fl
  | .nil, s, h => .ok (.nx s) h
  | .cons a r, s, h => match evS T cl a s h with
      | .ok (.nx s1) h1 => evSs T cl r s1 h1
      | x => x
end
def retOf : Res Fl → Res Vl
  | .ok (.rt v) h => .ok v h
  | .ok (.nx _) h => .ok .non h
  | .ok _ _ => .st
  | .ex c fs h => .ex c fs h
  | .st => .st
noncomputable def finR (mode : Nat) (h0 : Hv) (r : Res Vl) : Res Vl := match mode with
  | 0 => r
  | 1 => cutR h0 r
  | _ => match r with
    | .ok v h1 => match fzF 60 v h1 with
      | some (v', h2) => cutR h0 (.ok v' h2)
      | none => .st
    | .ex c fs h1 => cutR h0 (.ex c fs h1)
    | .st => .st
def startL (nl : Nat) (args : List Vl) : Lo := args.map some ++ List.replicate (nl - args.length) none
noncomputable def callN (T : Tab) : Nat → Nat → List Vl → Hv → Res Vl
  | 0, _, _, _ => .st
  | n + 1, f, args, h => match T.defs f with
    | none => .st
    | some d => if args.length + d.dfl.length < d.np ∨ d.np < args.length then .st
      else finR d.mode h (retOf (evSs T (callN T n) d.body (startL d.nl (args ++ d.dfl.drop (d.dfl.length + args.length - d.np))) h))
end Core
end

section
set_option Elab.async false
set_option linter.all false
set_option maxRecDepth 100000
set_option maxHeartbeats 4000000
set_option autoImplicit false
/-! Core4: which text a term stands for. -/
namespace Core
open PySem L2

/-- the names of the program -/
structure Nm where
  fnN : Nat → Option Str
  clN : Nat → Option Str
  xN : Nat → Option Str := fun _ => none
  mN : List Str
  fN : List Str
def Blt.name : Blt → Str
  | .len => "len" | .abs => "abs" | .ord => "ord" | .int => "int" | .sum => "sum" | .list => "list" | .tuple => "tuple" | .dict => "dict"
  | .sorted => "sorted" | .str => "str" | .all => "all" | .any => "any"
def BM.name : BM → Str
  | .append => "append" | .get => "get" | .join => "join" | .pop => "pop" | .insert => "insert" | .extend => "extend" | .index => "index"
def Ty.name : Ty → Option Str
  | .int => some "int" | .bool => some "bool" | .str => some "str" | .list => some "list" | .tuple => some "tuple" | .dict => some "dict" | .cls _ => none
def BOp.op : BOp → Operator
  | .add => .Add | .sub => .Sub | .mul => .Mult | .fdiv => .FloorDiv | .mod => .Mod | .pow => .Pow | .band => .BitAnd | .shr => .RShift
def COp.op : COp → CmpOp
  | .eq => .Eq | .ne => .NotEq | .lt => .Lt | .le => .LtE | .gt => .Gt | .ge => .GtE | .is_ => .Is | .isnot => .IsNot | .in_ => .In | .notin => .NotIn
def opB (a b : Operator) : Bool := match a, b with
  | .Add, .Add => true | .Sub, .Sub => true | .Mult, .Mult => true | .FloorDiv, .FloorDiv => true | .Mod, .Mod => true | .Pow, .Pow => true | .BitAnd, .BitAnd => true | .RShift, .RShift => true
  | _, _ => false
def copB (a b : CmpOp) : Bool := match a, b with
  | .Eq, .Eq => true | .NotEq, .NotEq => true | .Lt, .Lt => true | .LtE, .LtE => true | .Gt, .Gt => true | .GtE, .GtE => true | .Is, .Is => true | .IsNot, .IsNot => true | .In, .In => true | .NotIn, .NotIn => true
  | _, _ => false
theorem opB_eq {a b : Operator} (h : opB a b = true) : a = b := by cases a <;> cases b <;> first | rfl | cases h
theorem copB_eq {a b : CmpOp} (h : copB a b = true) : a = b := by cases a <;> cases b <;> first | rfl | cases h

def isVis (sc : Scope) (x : Str) : Bool := match sc.names.lookup x with
  | some .local => true | some .cell => true | some .free => true | _ => false
def isLoc (sc : Scope) (x : Str) : Bool := match sc.names.lookup x with
  | some .local => true | some .cell => true | _ => false
def isLc (sc : Scope) (x : Str) : Bool := match sc.names.lookup x with
  | some .local => true | _ => false
def isGl (sc : Scope) (x : Str) : Bool := match sc.names.lookup x with
  | some .globalImplicit => true | _ => false
def okN (x : Str) : Bool := !(x == ("__debug__" : Str)) && !(x == ("__classdict__" : Str)) && !(x == ("__name__" : Str))
def seqS (x y : Str) : Bool := decide (x = y)
/-- an expression that is no star, no slice, no set display -/
def noStar : Expr → Bool
  | .Starred .. => false | _ => true
def noSlice : Expr → Bool
  | .Slice .. => false | _ => true
def noSet : Expr → Bool
  | .Set .. => false | _ => true
def noCall0 : Expr → Bool
  | .Call (.Name _ _) [] [] _ => false | _ => true
def noComp : Expr → Bool
  | .ListComp .. => false | .SetComp .. => false | .DictComp .. => false | _ => true
mutual
def ctIn (own : List Nat) : CT → Bool
  | .var i => own.contains i
  | .tup ts => ctsIn own ts
def ctsIn (own : List Nat) : CTs → Bool
  | .nil => true
  | .cons t r => ctIn own t && ctsIn own r
end
mutual
def mtT (N : List Str) (sc rs : Scope) : CT → Expr → Bool
  | .var i, .Name x _ => decide (N[i]? = some x) && isLoc sc x && isLoc rs x
  | .tup ts, .Tuple es _ _ => mtTs N sc rs ts es
  | _, _ => false
def mtTs (N : List Str) (sc rs : Scope) : CTs → List Expr → Bool
  | .nil, [] => true
  | .cons t r, e :: es => noStar e && mtT N sc rs t e && mtTs N sc rs r es
  | _, _ => false
end
def ownN (N : List Str) (own : List Nat) : List (Str × Nat) := own.map fun i => (N.getD i ⟨#[]⟩, i)
def boolR (op : BoolOp) (r : List Expr) (p : Pos) : Expr := match r with
  | [y] => y
  | r => .BoolOp op r p
def bmShape (m : BM) (es : CEs) : Bool := match m, es with
  | .append, .cons _ .nil => true | .pop, .nil => true | .get, .cons _ .nil => true | .get, .cons _ (.cons _ .nil) => true | .join, .cons _ .nil => true
  | .insert, .cons _ (.cons _ .nil) => true
  | _, _ => false
def bltShape (b : Blt) (es : CEs) : Bool := match es with
  | .nil => decide (b = .dict) | .cons _ .nil => true | _ => false
mutual
def mtE (M : Nm) (N : List Str) (sc : Scope) : CE → Expr → Bool
  | .var i, z => match z with
    | .Name x _ => decide (N[i]? = some x) && isVis sc x && okN x
    | _ => false
  | .non, z => match z with
    | .Constant .none _ _ => true
    | _ => false
  | .bl b, z => match z with
    | .Constant (.bool c) _ _ => b == c
    | _ => false
  | .int i, z => match z with
    | .Constant (.int j) _ _ => decide (i = j)
    | _ => false
  | .str x, z => match z with
    | .Constant (.str y) _ _ => decide (x = y)
    | _ => false
  | .neg a, z => match z with
    | .UnaryOp .USub e _ => mtE M N sc a e
    | _ => false
  | .not_ a, z => match z with
    | .UnaryOp .Not e _ => mtE M N sc a e
    | _ => false
  | .and_ a b, z => match z with
    | .BoolOp .And (x :: y :: r) p => mtE M N sc a x && mtE M N sc b (boolR .And (y :: r) p)
    | _ => false
  | .or_ a b, z => match z with
    | .BoolOp .Or (x :: y :: r) p => mtE M N sc a x && mtE M N sc b (boolR .Or (y :: r) p)
    | _ => false
  | .ifx c a b, z => match z with
    | .IfExp x y z _ => mtE M N sc c x && mtE M N sc a y && mtE M N sc b z
    | _ => false
  | .bin op _ a b, z => match z with
    | .BinOp x o y _ => opB op.op o && mtE M N sc a x && mtE M N sc b y
    | _ => false
  | .cmp op a b, z => match z with
    | .Compare x [o] [y] _ => copB op.op o && noSet y && mtE M N sc a x && mtE M N sc b y
    | _ => false
  | .chain op op' a b c, z => match z with
    | .Compare x [o, o'] [y, z] _ => copB op.op o && copB op'.op o' && noSet y && noSet z && mtE M N sc a x && mtE M N sc b y && mtE M N sc c z
    | _ => false
  | .tup es, z => match z with
    | .Tuple xs _ _ => mtEs M N sc es xs
    | _ => false
  | .lst _ es, z => match z with
    | .List xs _ => mtEs M N sc es xs
    | _ => false
  | .dct _ ps, z => match z with
    | .Dict ks vs _ => decide (ks.length ≤ 15) && mtPs M N sc ps ks vs
    | _ => false
  | .attr a f, z => match z with
    | .Attribute x n _ => decide (M.fN[f]? = some n) && noCall0 x && mtE M N sc a x
    | _ => false
  | .sub a b, z => match z with
    | .Subscript x y _ => noSlice y && mtE M N sc a x && mtE M N sc b y
    | _ => false
  | .slc _ a lo hi, z => match z with
    | .Subscript x (.Slice l u none _) _ => mtE M N sc a x && mtO M N sc lo l && mtO M N sc hi u
    | _ => false
  | .call f es, z => match z with
    | .Call (.Name x _) xs [] _ => decide (M.fnN f = some x) && isGl sc x && okN x && mtEs M N sc es xs
    | _ => false
  | .mk c es, z => match z with
    | .Call (.Name x _) xs [] _ => decide (M.clN c = some x) && isGl sc x && okN x && mtEs M N sc es xs
    | _ => false
  | .meth a m es, z => match z with
    | .Call (.Attribute x n ap) xs [] cp => decide (M.mN[m]? = some n) && noCall0 x && (ap.endLine == cp.line) && decide (xs.length < 30) && mtE M N sc a x && mtEs M N sc es xs
    | _ => false
  | .ocall a es, z => match z with
    | .Call (.Name x p) (y :: ys) [] _ => mtE M N sc a (.Name x p) && mtEs M N sc es (y :: ys)
    | _ => false
  | .blt b _ es, z => match z with
    | .Call (.Name x _) xs [] _ => seqS b.name x && isGl sc x && bltShape b es && mtEs M N sc es xs
    | _ => false
  | .bm m _ a es, z => match z with
    | .Call (.Attribute x n ap) xs [] cp => seqS m.name n && bmShape m es && noCall0 x && (ap.endLine == cp.line) && mtE M N sc a x && mtEs M N sc es xs
    | _ => false
  | .isin a t, z => match z with
    | .Call (.Name x _) [y, .Name z _] [] _ => seqS "isinstance" x && isGl sc x && noStar y && isGl sc z && okN z && (match t with
          | .cls c => decide (M.clN c = some z)
          | t => decide (t.name = some z)) && mtE M N sc a y
    | _ => false
  | .lc _ own tg it c e, z => match z with
    | .ListComp el [⟨t, i, fs, 0⟩] scope _ => blkC N sc scope (ownN N own) && own.all (fun i => decide (i < N.length)) && ctIn own tg && mtT N (relS scope sc) scope tg t && noSet i && mtI M N sc tg it i && mtC M N (relS scope sc) c fs && mtE M N (relS scope sc) e el
    | _ => false
  | .dc _ own tg it c k e, z => match z with
    | .DictComp kl el [⟨t, i, fs, 0⟩] scope _ => blkC N sc scope (ownN N own) && own.all (fun i => decide (i < N.length)) && ctIn own tg && mtT N (relS scope sc) scope tg t && noSet i && mtI M N sc tg it i && mtC M N (relS scope sc) c fs && mtE M N (relS scope sc) k kl && mtE M N (relS scope sc) e el
    | _ => false
  | .frz a, z => match z with
    | .Call f xs ks p => mtE M N sc a (.Call f xs ks p)
    | .DictComp kl el gs s p => mtE M N sc a (.DictComp kl el gs s p)
    | _ => false
def mtEs (M : Nm) (N : List Str) (sc : Scope) : CEs → List Expr → Bool
  | .nil, z => match z with
    | [] => true
    | _ => false
  | .cons e r, z => match z with
    | x :: xs => noStar x && mtE M N sc e x && mtEs M N sc r xs
    | _ => false
def mtPs (M : Nm) (N : List Str) (sc : Scope) : CPs → List (Option Expr) → List Expr → Bool
  | .nil, [], [] => true
  | .cons k e r, some x :: xs, y :: ys => mtE M N sc k x && mtE M N sc e y && mtPs M N sc r xs ys
  | _, _, _ => false
def mtO (M : Nm) (N : List Str) (sc : Scope) : CO → Option Expr → Bool
  | .no, z => match z with
    | none => true
    | _ => false
  | .so e, z => match z with
    | some x => mtE M N sc e x
    | _ => false
def mtC (M : Nm) (N : List Str) (sc : Scope) : CO → List Expr → Bool
  | .no, z => match z with
    | [] => true
    | _ => false
  | .so e, z => match z with
    | [x] => mtE M N sc e x
    | _ => false
def mtI (M : Nm) (N : List Str) (sc : Scope) (tg : CT) : CI → Expr → Bool
  | .val a, x => mtE M N sc a x
  | .rng1 a, z => match z with
    | .Call (.Name f _) [x] [] _ => seqS "range" f && isGl sc f && noStar x && mtE M N sc a x
    | _ => false
  | .rng2 a b, z => match z with
    | .Call (.Name f _) [x, y] [] _ => seqS "range" f && isGl sc f && noStar x && noStar y && mtE M N sc a x && mtE M N sc b y
    | _ => false
  | .items a, z => match z with
    | .Call (.Attribute x n ap) [] [] cp => seqS "items" n && noCall0 x && (ap.endLine == cp.line) && (match tg with | .tup _ => true | _ => false) && mtE M N sc a x
    | _ => false
  | .enum a, z => match z with
    | .Call (.Name f _) [x] [] _ => seqS "enumerate" f && isGl sc f && noStar x && (match tg with | .tup _ => true | _ => false) && mtE M N sc a x
    | _ => false
  | .rev a, z => match z with
    | .Call (.Name f _) [x] [] _ => seqS "reversed" f && isGl sc f && noStar x && mtE M N sc a x
    | _ => false
  | _, _ => false
end
/-- a name = a comprehension on one line is stored within -/
def swapOk (sc : Scope) (x : Str) (pl : Nat) (v : Expr) : Bool := match v with
  | .ListComp _ _ s p => isLc sc x && (pl == p.line) && !(s.names.any fun (n, k) => n == x && (k == .local || k == .cell))
  | .SetComp .. => false
  | .DictComp .. => false
  | _ => true
def noTup : Expr → Bool
  | .Tuple .. => false | _ => true
/-- the exception that is held: its slot -/
def isHeld (N : List Str) (sc : Scope) (iv : Option Nat) (y : Str) : Bool := match iv with
  | some i => decide (N[i]? = some y) && isVis sc y && okN y
  | none => false
def mtXc (M : Nm) (sc : Scope) : List Nat → List Expr → Bool
  | [], [] => true
  | d :: ds, .Name z _ :: zs => decide (M.xN d = some z) && isGl sc z && okN z && mtXc M sc ds zs
  | _, _ => false
mutual
def mtX (M : Nm) (N : List Str) (sc : Scope) (iv : Option Nat) : SX → Expr → Bool
  | .non, z => match z with
    | .Constant .none _ _ => true
    | _ => false
  | .bl b, z => match z with
    | .Constant (.bool c) _ _ => b == c
    | _ => false
  | .int i, z => match z with
    | .Constant (.int j) _ _ => decide (i = j)
    | _ => false
  | .str x, z => match z with
    | .Constant (.str y) _ _ => decide (x = y)
    | _ => false
  | .var i, z => match z with
    | .Name x _ => decide (N[i]? = some x) && isVis sc x && okN x
    | _ => false
  | .isx d, z => match z with
    | .Call (.Name f _) [.Name y _, .Name c _] [] _ => seqS "isinstance" f && isGl sc f && isHeld N sc iv y && decide (M.xN d = some c) && isGl sc c && okN c
    | _ => false
  | .ist ds, z => match z with
    | .Call (.Name f _) [.Name y _, .Tuple cs _ _] [] _ => seqS "isinstance" f && isGl sc f && isHeld N sc iv y && mtXc M sc ds cs && decide (cs.length < 30)
    | _ => false
  | .isv, z => match z with
    | .Call (.Name f _) [.Name y _, .Name c _] [] _ => seqS "isinstance" f && isGl sc f && isHeld N sc iv y && seqS "ValueError" c && isGl sc c
    | _ => false
  | .fld f, z => match z with
    | .Attribute (.Name y _) n _ => isHeld N sc iv y && decide (M.fN[f]? = some n)
    | _ => false
  | .not_ a, z => match z with
    | .UnaryOp .Not e _ => mtX M N sc iv a e
    | _ => false
  | .and_ a b, z => match z with
    | .BoolOp .And (x :: y :: r) p => mtX M N sc iv a x && mtX M N sc iv b (boolR .And (y :: r) p)
    | _ => false
  | .or_ a b, z => match z with
    | .BoolOp .Or (x :: y :: r) p => mtX M N sc iv a x && mtX M N sc iv b (boolR .Or (y :: r) p)
    | _ => false
  | .eqb ne a b, z => match z with
    | .Compare x [o] [y] _ => copB (if ne then CmpOp.NotEq else CmpOp.Eq) o && noSet y && mtX M N sc iv a x && mtX M N sc iv b y
    | _ => false
  | .lst _ es, z => match z with
    | .List xs _ => mtXs M N sc iv es xs
    | _ => false
  | .tup es, z => match z with
    | .Tuple xs _ _ => mtXs M N sc iv es xs
    | _ => false
  | .inc i k, z => match z with
    | .BinOp (.Name x _) .Add (.Constant (.int j) _ _) _ => decide (N[i]? = some x) && isVis sc x && okN x && decide (j = k)
    | _ => false
def mtXs (M : Nm) (N : List Str) (sc : Scope) (iv : Option Nat) : SXs → List Expr → Bool
  | .nil, z => match z with
    | [] => true
    | _ => false
  | .cons e r, z => match z with
    | x :: xs => noStar x && mtX M N sc iv e x && mtXs M N sc iv r xs
    | _ => false
end
def mtU (M : Nm) (N : List Str) (sc : Scope) (iv : Option Nat) : List SU → List Stmt → Bool
  | [], z => match z with
    | [] => true
    | _ => false
  | .set i e :: r, z => match z with
    | .Assign [.Name x _] v _ :: xs => decide (N[i]? = some x) && isLoc sc x && noComp v && decide (iv ≠ some i) && mtX M N sc iv e v && mtU M N sc iv r xs
    | _ => false
  | .ret e :: r, z => match z with
    | .Return (some v) _ :: xs => mtX M N sc iv e v && mtU M N sc iv r xs
    | _ => false
  | .cont :: r, z => match z with
    | .Continue _ :: xs => mtU M N sc iv r xs
    | _ => false
/-- a clause -/
def mtH (M : Nm) (N : List Str) (sc : Scope) (d : Hd) : ExceptHandler → Bool
  | .ExceptHandler (some (.Name x _)) n (b :: su) _ => decide (M.xN d.c = some x) && isGl sc x && okN x && (match d.nm, n with
      | none, none => true
      | some i, some y => decide (N[i]? = some y) && isLc sc y
      | _, _ => false) && mtU M N sc d.nm d.su (b :: su)
  | _ => false
def mtHs (M : Nm) (N : List Str) (sc : Scope) : List Hd → List ExceptHandler → Bool
  | [], [] => true
  | d :: ds, x :: xs => decide (d.nm = none) && mtH M N sc d x && mtHs M N sc ds xs
  | _, _ => false
def notLc : CE → Bool
  | .lc .. => false | _ => true
mutual
/-- the body of a try -/
def smpS : CS → Bool
  | .set (.var _) e => notLc e | .ret _ => true | .retN => true | .expr _ => true | .pass => true | .never => true
  | .ife _ a b => smpSs a && smpSs b
  | _ => false
def smpSs : CSs → Bool
  | .nil => true
  | .cons a r => smpS a && smpSs r
end
mutual
def mtS (M : Nm) (N : List Str) (sc : Scope) : CS → Stmt → Bool
  | .set (.var i) e, z => match z with
    | .Assign [.Name x p] v _ => decide (N[i]? = some x) && isLoc sc x && swapOk sc x p.line v && mtE M N sc e v
    | _ => false
  | .set (.tup ts) e, z => match z with
    | .Assign [.Tuple es k p] v _ => noTup v && noComp v && mtTs N sc sc ts es && mtE M N sc e v
    | _ => false
  | .setA o f e, z => match z with
    | .Assign [.Attribute x n _] v _ => decide (M.fN[f]? = some n) && mtE M N sc o x && mtE M N sc e v
    | _ => false
  | .setI o i e, z => match z with
    | .Assign [.Subscript x y _] v _ => noSlice y && noComp v && mtE M N sc o x && mtE M N sc i y && mtE M N sc e v
    | _ => false
  | .aug i op e, z => match z with
    | .AugAssign (.Name x _) o v _ => decide (N[i]? = some x) && isLoc sc x && opB op.op o && (decide (op = .add) || decide (op = .sub)) && mtE M N sc e v
    | _ => false
  | .ret e, z => match z with
    | .Return (some v) _ => mtE M N sc e v
    | _ => false
  | .retN, z => match z with
    | .Return none _ => true
    | _ => false
  | .ife c a b, z => match z with
    | .If x y z _ => mtE M N sc c x && mtSs M N sc a y && mtSs M N sc b z
    | _ => false
  | .for_ t it b, z => match z with
    | .For tg i body [] _ => noSet i && mtT N sc sc t tg && mtI M N sc t it i && mtSs M N sc b body
    | _ => false
  | .while_ c b, z => match z with
    | .While x body [] _ => mtE M N sc c x && mtSs M N sc b body
    | _ => false
  | .expr e, z => match z with
    | .Expr v _ => noComp v && mtE M N sc e v
    | _ => false
  | .pass, z => match z with
    | .Pass _ => true
    | .Expr (.Constant (.str _) _ _) _ => true
    | _ => false
  | .brk, z => match z with
    | .Break _ => true
    | _ => false
  | .cont, z => match z with
    | .Continue _ => true
    | _ => false
  | .never, _ => true
  | .raise_ c, z => match z with
    | .Raise (some (.Call (.Name x _) [.Constant (.str _) _ _] [] _)) none _ => decide (M.xN c = some x) && isGl sc x && okN x
    | _ => false
  | .try_ b hs, z => match z with
    | .Try body hds [] [] _ => smpSs b && mtSs M N sc b body && (match hs, hds with
        | [d], [x] => mtH M N sc d x
        | hs, hds => !hs.isEmpty && mtHs M N sc hs hds)
    | _ => false
def mtSs (M : Nm) (N : List Str) (sc : Scope) : CSs → List Stmt → Bool
  | .nil, z => match z with
    | [] => true
    | _ => false
  | .cons a r, z => match z with
    | x :: xs => mtS M N sc a x && mtSs M N sc r xs
    | _ => false
end
end Core
end

section
set_option Elab.async false
set_option linter.all false
set_option maxRecDepth 100000
set_option maxHeartbeats 4000000
set_option autoImplicit false
/-! Core5: what a result asks; the values' operators. -/
namespace Core
open PySem L2 PyProof.Rows

/-- an exception of the own class c with these fields -/
def ExOk (G : Gs) (w : Wd) (c : Nat) (fs : List (Nat × Vl)) (cls : Value) (od : Option Addr) : Prop :=
  cls = .ref (G.cA c) ∧ ((fs = [] ∧ od = none) ∨ ∃ d fs', od = some d ∧ w.H d = some (.xd fs') ∧ RFs G w fs fs' ∧ ¬ w.L d)
def PostG {α β : Type} (G : Gs) (R : Wd → α → β → Prop) (w : Wd) (r : Res α) (Q : β → Hp → Prop) (E : XK) : Prop := match r with
  | .ok v h => ∀ w' x, Ext w w' → Sim G w' h → R w' v x → Q x w'.H
  | .ex c fs h => ∀ w' cls od, Ext w w' → Sim G w' h → ExOk G w' c fs cls od → E cls od w'.H
  | .st => False
abbrev Post (G : Gs) (w : Wd) (r : Res Vl) (Q : VK) (E : XK) : Prop := PostG G (RV G) w r Q E
theorem PostG.ext {α β : Type} {G : Gs} {R : Wd → α → β → Prop} {w w1 : Wd} {r : Res α} {Q : β → Hp → Prop} {E : XK} (p : PostG G R w r Q E) (e : Ext w w1) : PostG G R w1 r Q E := by
  cases r with
  | ok v h => exact fun w' x e' S r => p w' x (e.trans e') S r
  | ex c fs h => exact fun w' cls od e' S r => p w' cls od (e.trans e') S r
  | st => exact p
theorem PostG.bind {α β γ δ : Type} {G : Gs} {R : Wd → α → β → Prop} {R' : Wd → γ → δ → Prop} {w : Wd} {r : Res α} {f : α → Hv → Res γ} {Q : δ → Hp → Prop} {Q' : β → Hp → Prop} {E : XK} (p : PostG G R' w (r.bind f) Q E)
    (k : ∀ v h1 w' x, Ext w w' → Sim G w' h1 → R w' v x → PostG G R' w' (f v h1) Q E → Q' x w'.H) : PostG G R w r Q' E := by
  cases r with
  | ok v h => exact fun w' x e S r => k v h w' x e S r (PostG.ext (show PostG G R' w (f v h) Q E from p) e)
  | ex c fs h => exact p
  | st => exact p
/-- what is wanted of a value at a state -/
theorem PostG.ok {α β : Type} {G : Gs} {R : Wd → α → β → Prop} {w : Wd} {v : α} {h : Hv} {x : β} {Q : β → Hp → Prop} {E : XK} (p : PostG G R w (.ok v h) Q E) (S : Sim G w h) (r : R w v x) : Q x w.H := p w x (.refl w) S r
theorem PostG.okE {α β : Type} {G : Gs} {R : Wd → α → β → Prop} {w w' : Wd} {v : α} {h : Hv} {x : β} {Q : β → Hp → Prop} {E : XK} (p : PostG G R w (.ok v h) Q E) (e : Ext w w') (S : Sim G w' h) (r : R w' v x) : Q x w'.H := p w' x e S r
theorem PostG.chk {α β : Type} {G : Gs} {R : Wd → α → β → Prop} {w : Wd} {r : Res α} {c : Prop} [Decidable c] {Q : β → Hp → Prop} {E : XK} (p : PostG G R w (chk c r) Q E) : c ∧ PostG G R w r Q E := by
  unfold Core.chk at p
  by_cases h : c
  · rw [if_pos h] at p; exact ⟨h, p⟩
  · rw [if_neg h] at p; exact p.elim
theorem PostG.ofO {α β : Type} {G : Gs} {R : Wd → α → β → Prop} {w : Wd} {o : Option α} {h : Hv} {Q : β → Hp → Prop} {E : XK} (p : PostG G R w (ofO o h) Q E) : ∃ a, o = some a ∧ PostG G R w (.ok a h) Q E := by
  cases o with
  | none => exact p.elim
  | some a => exact ⟨a, rfl, p⟩

section
variable {G : Gs} {w : Wd} {h : Hv} {Q : VK} {E : XK}
theorem lim_eq : LIM = sizeLine := by rw [sizeLine_eq]; rfl
theorem RV.non' {x} (r : RV G w .non x) : x = .non := by cases r; rfl
theorem RV.bl' {b x} (r : RV G w (.bl b) x) : x = .bl b := by cases r; rfl
theorem RV.int' {b x} (r : RV G w (.int b) x) : x = .int b := by cases r; rfl
theorem RV.str' {b x} (r : RV G w (.str b) x) : x = .str b := by cases r; rfl
theorem RV.tup' {l x} (r : RV G w (.tup l) x) : ∃ a vs, x = .ref a ∧ SqT G.K w.H a vs ∧ RVs G w l vs := by cases r with | tup h r => exact ⟨_, _, rfl, h.sq, r⟩
theorem mkL_ok {fz : Bool} {l : List Vl} {vs : List V} (p : Post G w (mkL fz l h) Q E) (S : Sim G w h) (r : RVs G w l vs) {a : Addr} (ha : w.H a = none) : Q (.ref a) (upd w.H a (.lst vs)) := by
  unfold mkL at p
  cases fz with
  | true =>
    obtain ⟨S', e, nl⟩ := S.newF (o := .lst vs) ha
    exact p.okE e S' (.fl (.inl ⟨.inl upd_same, nl⟩) (r.ext e))
  | false =>
    have k : ∀ b o, w.H b = some o → (upd w.H a (.lst vs)) b = some o := fun b o e => by rw [upd_ne (ne_of_none e ha)]; exact e
    obtain ⟨S', e, g⟩ := S.alloc (c := .lst l) ha k (by intro z; cases z) ⟨vs, upd_same, r.ext (S.allocE ha k)⟩
    exact p.okE e S' (.ref g)
theorem mkD_ok {fz : Bool} {l : List (Key × Vl)} {vs : List (Key × V)} (p : Post G w (mkD fz l h) Q E) (S : Sim G w h) (r : RKs G w l vs) {a : Addr} (ha : w.H a = none) : Q (.ref a) (upd w.H a (.dK vs)) := by
  unfold mkD at p
  cases fz with
  | true =>
    obtain ⟨S', e, nl⟩ := S.newF (o := .dK vs) ha
    exact p.okE e S' (.fd ⟨.inl upd_same, nl⟩ (r.ext e))
  | false =>
    have k : ∀ b o, w.H b = some o → (upd w.H a (.dK vs)) b = some o := fun b o e => by rw [upd_ne (ne_of_none e ha)]; exact e
    obtain ⟨S', e, g⟩ := S.alloc (c := .dct l) ha k (by intro z; cases z) ⟨vs, upd_same, r.ext (S.allocE ha k)⟩
    exact p.okE e S' (.ref g)
theorem mkT_ok {l : List Vl} {vs : List V} (p : Post G w (.ok (.tup l) h) Q E) (S : Sim G w h) (r : RVs G w l vs) {a : Addr} (ha : w.H a = none) : Q (.ref a) (upd w.H a (.tup vs)) := by
  obtain ⟨S', e, nl⟩ := S.newF (o := .tup vs) ha
  exact p.okE e S' (.tup (.inl ⟨.inl upd_same, nl⟩) (r.ext e))
/-- what reads as a list -/
theorem asL_ok (S : Sim G w h) {v x l} (r : RV G w v x) (e : asL h v = some l) : ∃ a vs, x = .ref a ∧ SqL G.K w.H a vs ∧ RVs G w l vs := by
  cases v with
  | fl m => simp only [asL, Option.some.injEq] at e; subst e; cases r with | fl h r => exact ⟨_, _, rfl, h.sq, r⟩
  | ref n =>
    cases r with
    | ref hn =>
      simp only [asL] at e
      split at e
      · rename_i l' hc
        obtain ⟨vs, h1, h2⟩ := S.ok _ _ _ hc hn
        cases e
        exact ⟨_, vs, rfl, .inl (.inl h1), h2⟩
      · cases e
  | _ => simp [asL] at e
theorem asS_ok (S : Sim G w h) {v x l} (r : RV G w v x) (e : asS h v = some l) : ∃ a vs, x = .ref a ∧ (SqL G.K w.H a vs ∨ SqT G.K w.H a vs) ∧ RVs G w l vs := by
  cases v with
  | tup m => simp only [asS, Option.some.injEq] at e; subst e; obtain ⟨a, vs, h1, h2, h3⟩ := r.tup'; exact ⟨a, vs, h1, .inr h2, h3⟩
  | _ =>
    obtain ⟨a, vs, h1, h2, h3⟩ := asL_ok S r (show asL h _ = some l from e)
    exact ⟨a, vs, h1, .inl h2, h3⟩
theorem asD_ok (S : Sim G w h) {v x l} (r : RV G w v x) (e : asD h v = some l) : ∃ a vs, x = .ref a ∧ Rd w.H a (.dK vs) ∧ RKs G w l vs := by
  cases v with
  | fd m => simp only [asD, Option.some.injEq] at e; subst e; cases r with | fd h r => exact ⟨_, _, rfl, h.1, r⟩
  | ref n =>
    cases r with
    | ref hn =>
      simp only [asD] at e
      split at e
      · rename_i l' hc
        obtain ⟨vs, h1, h2⟩ := S.ok _ _ _ hc hn
        cases e
        exact ⟨_, vs, rfl, .inl h1, h2⟩
      · rename_i l' hc
        obtain ⟨o, vs, h1, h2⟩ := S.ok _ _ _ hc hn
        cases e
        exact ⟨_, vs, rfl, .inr ⟨o, h1⟩, h2⟩
      · cases e
  | _ => simp [asD] at e
theorem asO_ok (S : Sim G w h) {v x c fs} (r : RV G w v x) (e : asO h v = some (c, fs)) : ∃ a dx fs', x = .ref a ∧ w.H a = some (.ins (G.cA c) dx fs') ∧ RFs G w fs fs' := by
  cases v with
  | fo c' m => simp only [asO, Option.some.injEq, Prod.mk.injEq] at e; obtain ⟨rfl, rfl⟩ := e; cases r with | fo h r => exact ⟨_, _, _, rfl, h.1, r⟩
  | ref n =>
    cases r with
    | ref hn =>
      simp only [asO] at e
      split at e
      · rename_i c' l' hc
        obtain ⟨dx, vs, h1, h2⟩ := S.ok _ _ _ hc hn
        cases e
        exact ⟨_, dx, vs, rfl, h1, h2⟩
      · cases e
  | _ => simp [asO] at e
theorem keyOf_ok {v x k} (r : RV G w v x) (e : keyOf v = some k) : x = kV k := by
  cases v with
  | int i => simp only [keyOf, Option.some.injEq] at e; subst e; exact r.int'
  | str i => simp only [keyOf, Option.some.injEq] at e; subst e; exact r.str'
  | _ => simp [keyOf] at e
theorem kVl_ok (k : Key) : RV G w (kVl k) (kV k) := by cases k <;> constructor
theorem look_ok {l : List (Key × Vl)} {m : List (Key × V)} (r : RKs G w l m) (k : Key) : (look l k = none ∧ valV m k = none) ∨ ∃ v x, look l k = some v ∧ valV m k = some x ∧ RV G w v x := by
  induction l generalizing m with
  | nil => cases r; exact .inl ⟨rfl, rfl⟩
  | cons p l ih =>
    cases r with
    | @cons k' v x l m h r =>
      by_cases e : k' = k
      · exact .inr ⟨v, x, by simp [look, e], by simp [valV, e], h⟩
      · rcases ih r with ⟨h1, h2⟩ | ⟨v', x', h1, h2, h3⟩
        · exact .inl ⟨by simpa [look, e] using h1, by simpa [valV, e] using h2⟩
        · exact .inr ⟨v', x', by simpa [look, e] using h1, by simpa [valV, e] using h2, h3⟩
theorem any_ok {l : List (Key × Vl)} {m : List (Key × V)} (r : RKs G w l m) (k : Key) : (l.any fun kv => decide (kv.1 = k)) = m.any fun kv => decide (kv.1 = k) := by
  induction l generalizing m with
  | nil => cases r; rfl
  | cons p l ih => cases r with | cons h r => simp [ih r]
theorem map_ok {l : List (Key × Vl)} {m : List (Key × V)} (r : RKs G w l m) (k : Key) {v x} (h : RV G w v x) : RKs G w (l.map fun kv => if kv.1 = k then (kv.1, v) else kv) (m.map fun kv => if kv.1 = k then (kv.1, x) else kv) := by
  induction l generalizing m with
  | nil => cases r; exact .nil
  | cons p l ih =>
    cases r with
    | @cons k' v' x' l m h' r =>
      by_cases e : k' = k
      · simp only [List.map_cons, e, if_true]; exact .cons h (ih r)
      · simp only [List.map_cons, e, if_false]; exact .cons h' (ih r)
theorem RKs.append : ∀ {l l' : List (Key × Vl)} {m m' : List (Key × V)}, RKs G w l m → RKs G w l' m' → RKs G w (l ++ l') (m ++ m')
  | _, _, _, _, .nil, s => s
  | _, _, _, _, .cons h r, s => .cons h (RKs.append r s)
theorem put_ok {l : List (Key × Vl)} {m : List (Key × V)} (r : RKs G w l m) (k : Key) {v x} (h : RV G w v x) : RKs G w (put l k v) (putK m k x) := by
  unfold put putK
  rw [any_ok r k]
  split
  · exact map_ok r k h
  · exact r.append (.cons h .nil)
theorem merge_ok {l more : List (Key × Vl)} {m more' : List (Key × V)} (r : RKs G w l m) (q : RKs G w more more') : RKs G w (mergeD l more) (mergeK m more') := by
  induction more generalizing l m more' with
  | nil => cases q; exact r
  | cons p t ih => cases q with
    | @cons k v x _ t' h q =>
      show RKs G w (mergeD (put l k v) t) (mergeK (putK m k x) t')
      exact ih (put_ok r k h) q
theorem strs_ok {l : List Vl} {vs : List V} {xs : List Str} (r : RVs G w l vs) (e : strs? l = some xs) : vs = xs.map V.str := by
  induction l generalizing vs xs with
  | nil => cases r; simp [strs?] at e; subst e; rfl
  | cons v t ih =>
    cases r with
    | @cons v x l m h r =>
      cases v with
      | str s =>
        simp only [strs?, Option.map_eq_some_iff] at e
        obtain ⟨ys, h1, rfl⟩ := e
        rw [ih r h1, h.str']
        rfl
      | _ => simp [strs?] at e
theorem strs_rv : ∀ xs : List Str, RVs G w (xs.map .str) (xs.map V.str)
  | [] => .nil
  | x :: r => .cons (.str x) (strs_rv r)
theorem ints_ok {l : List Vl} {vs : List V} {xs : List Int} (r : RVs G w l vs) (e : ints? l = some xs) : vs = xs.map V.int := by
  induction l generalizing vs xs with
  | nil => cases r; simp [ints?] at e; subst e; rfl
  | cons v t ih =>
    cases r with
    | @cons v x l m h r =>
      cases v with
      | int s =>
        simp only [ints?, Option.map_eq_some_iff] at e
        obtain ⟨ys, h1, rfl⟩ := e
        rw [ih r h1, h.int']
        rfl
      | _ => simp [ints?] at e
theorem keyS_ok {l : List (Key × Vl)} {vs : List (Key × V)} {xs : List Str} (r : RKs G w l vs) (e : keyS? l = some xs) : vs.map (·.1) = xs.map Sum.inr := by
  induction l generalizing vs xs with
  | nil => cases r; simp [keyS?] at e; subst e; rfl
  | cons v t ih =>
    cases r with
    | @cons k v x l m h r =>
      cases k with
      | inr s =>
        simp only [keyS?, Option.map_eq_some_iff] at e
        obtain ⟨ys, h1, rfl⟩ := e
        simp [ih r h1]
      | inl i => simp [keyS?] at e
/-- the sort is the one sorted list -/
theorem str_ext {x y : Str} (e : x.cps.toList = y.cps.toList) : x = y := by
  cases x; cases y; simp at e; simp [e]
theorem insS_perm (x : Str) : ∀ l : List Str, (insS x l).Perm (x :: l)
  | [] => .refl _
  | y :: r => by
    unfold insS
    split
    · exact .refl _
    · exact ((insS_perm x r).cons y).trans (.swap _ _ _)
theorem sortS_perm : ∀ l : List Str, (sortS l).Perm l
  | [] => .refl _
  | x :: r => (insS_perm x (sortS r)).trans ((sortS_perm r).cons x)
def leS (x y : Str) : Prop := x.cps.toList ≤ y.cps.toList
theorem leS_trans {x y z : Str} (a : leS x y) (b : leS y z) : leS x z := List.le_trans a b
theorem leS_anti {x y : Str} (a : leS x y) (b : leS y x) : x = y := str_ext (List.le_antisymm a b)
theorem leS_total (x y : Str) : leS x y ∨ leS y x := List.le_total _ _
theorem insS_sorted (x : Str) : ∀ l : List Str, l.Pairwise leS → (insS x l).Pairwise leS
  | [], _ => by simp [insS]
  | y :: r, h => by
    unfold insS
    obtain ⟨h1, h2⟩ := List.pairwise_cons.mp h
    split
    · rename_i q
      refine List.pairwise_cons.mpr ⟨fun z hz => ?_, h⟩
      rcases List.mem_cons.mp hz with rfl | hz
      · exact q
      · exact leS_trans q (h1 z hz)
    · rename_i q
      refine List.pairwise_cons.mpr ⟨fun z hz => ?_, insS_sorted x r h2⟩
      rcases List.mem_cons.mp ((insS_perm x r).mem_iff.mp hz) with rfl | hz
      · exact (leS_total _ _).resolve_left q
      · exact h1 z hz
theorem sortS_sorted : ∀ l : List Str, (sortS l).Pairwise leS
  | [] => .nil
  | x :: r => insS_sorted x _ (sortS_sorted r)
theorem sorted_unique : ∀ {l m : List Str}, l.Pairwise leS → m.Pairwise leS → l.Perm m → l = m
  | [], m, _, _, p => (List.Perm.eq_nil p.symm).symm
  | x :: l, [], _, _, p => absurd (List.Perm.eq_nil p) (by simp)
  | x :: l, y :: m, hl, hm, p => by
    obtain ⟨h1, h2⟩ := List.pairwise_cons.mp hl
    obtain ⟨h3, h4⟩ := List.pairwise_cons.mp hm
    have e : x = y := by
      have a : x ∈ y :: m := p.mem_iff.mp List.mem_cons_self
      have b : y ∈ x :: l := p.mem_iff.mpr List.mem_cons_self
      rcases List.mem_cons.mp a with a | a
      · exact a
      · rcases List.mem_cons.mp b with b | b
        · exact b.symm
        · exact leS_anti (h1 y b) (h3 x a)
    subst e
    rw [sorted_unique h2 h4 (List.Perm.cons_inv p)]
end
end Core
end

section
set_option Elab.async false
set_option linter.all false
set_option maxRecDepth 100000
set_option maxHeartbeats 4000000
set_option autoImplicit false
/-! Core5f: what is frozen, what is dropped. -/
namespace Core
open PySem L2 PyProof.Rows
section
variable {G : Gs}
/-! ### no reference behind -/
mutual
theorem RV.low {w : Wd} : ∀ {v x}, RV G w v x → below w.φ.length v = true
  | _, _, .non => rfl
  | _, _, .bl _ => rfl
  | _, _, .int _ => rfl
  | _, _, .str _ => rfl
  | _, _, .tup _ r => by rw [Core.below]; exact RVs.low r
  | _, _, .fl _ r => by rw [Core.below]; exact RVs.low r
  | _, _, .fd _ r => by rw [Core.below]; exact RKs.low r
  | _, _, .fo _ r => by rw [Core.below]; exact RFs.low r
  | _, _, .ref h => by rw [Core.below]; exact decide_eq_true (List.getElem?_eq_some_iff.mp h).1
theorem RVs.low {w : Wd} : ∀ {v x}, RVs G w v x → belows w.φ.length v = true
  | _, _, .nil => rfl
  | _, _, .cons h r => by rw [Core.belows, RV.low h, RVs.low r]; rfl
theorem RKs.low {w : Wd} : ∀ {v x}, RKs G w v x → belowK w.φ.length v = true
  | _, _, .nil => rfl
  | _, _, .cons h r => by rw [Core.belowK, RV.low h, RKs.low r]; rfl
theorem RFs.low {w : Wd} : ∀ {v x}, RFs G w v x → belowF w.φ.length v = true
  | _, _, .nil => rfl
  | _, _, .cons _ h r => by rw [Core.belowF, RV.low h, RFs.low r]; rfl
end
theorem CellOk.low {w : Wd} {a : Addr} {c : Cell} (h : CellOk G w a c) : belowC w.φ.length c = true := by
  cases c with
  | lst l => obtain ⟨vs, _, r⟩ := h; exact RVs.low r
  | dct l => obtain ⟨vs, _, r⟩ := h; exact RKs.low r
  | lck l => obtain ⟨o, vs, _, r⟩ := h; exact RKs.low r
  | obj c fs => obtain ⟨dx, fs', _, r⟩ := h; exact RFs.low r
  | dead => rfl
/-! ### from a longer world to a shorter one -/
structure Cuts (n : Nat) (w w' : Wd) : Prop where
  φ : w'.φ = w.φ.take n
  H : w'.H = w.H
  L : ∀ a, w'.L a → w.L a
mutual
theorem RV.cuts {w w' : Wd} {n : Nat} (c : Cuts n w w') : ∀ {v x}, RV G w v x → Core.below n v = true → RV G w' v x
  | _, _, .non, _ => .non
  | _, _, .bl b, _ => .bl b
  | _, _, .int i, _ => .int i
  | _, _, .str s, _ => .str s
  | _, _, .tup h r, b => .tup (h.imp (fun h => ⟨by rw [c.H]; exact h.1, fun z => h.2 (c.L _ z)⟩) id) (RVs.cuts c r (by rw [Core.below] at b; exact b))
  | _, _, .fl h r, b => .fl (h.imp (fun h => ⟨by rw [c.H]; exact h.1, fun z => h.2 (c.L _ z)⟩) id) (RVs.cuts c r (by rw [Core.below] at b; exact b))
  | _, _, .fd h r, b => .fd ⟨by rw [c.H]; exact h.1, fun z => h.2 (c.L _ z)⟩ (RKs.cuts c r (by rw [Core.below] at b; exact b))
  | _, _, .fo h r, b => .fo ⟨by rw [c.H]; exact h.1, fun z => h.2 (c.L _ z)⟩ (RFs.cuts c r (by rw [Core.below] at b; exact b))
  | _, _, .ref h, b => .ref (by rw [Core.below, decide_eq_true_eq] at b; rw [c.φ, List.getElem?_take, if_pos b]; exact h)
theorem RVs.cuts {w w' : Wd} {n : Nat} (c : Cuts n w w') : ∀ {v x}, RVs G w v x → Core.belows n v = true → RVs G w' v x
  | _, _, .nil, _ => .nil
  | _, _, .cons h r, b => by
    rw [Core.belows, Bool.and_eq_true] at b
    exact .cons (RV.cuts c h b.1) (RVs.cuts c r b.2)
theorem RKs.cuts {w w' : Wd} {n : Nat} (c : Cuts n w w') : ∀ {v x}, RKs G w v x → Core.belowK n v = true → RKs G w' v x
  | _, _, .nil, _ => .nil
  | _, _, .cons h r, b => by
    rw [Core.belowK, Bool.and_eq_true] at b
    exact .cons (RV.cuts c h b.1) (RKs.cuts c r b.2)
theorem RFs.cuts {w w' : Wd} {n : Nat} (c : Cuts n w w') : ∀ {v x}, RFs G w v x → Core.belowF n v = true → RFs G w' v x
  | _, _, .nil, _ => .nil
  | _, _, .cons e h r, b => by
    rw [Core.belowF, Bool.and_eq_true] at b
    exact .cons e (RV.cuts c h b.1) (RFs.cuts c r b.2)
end
theorem CellOk.cuts {w w' : Wd} {n : Nat} (k : Cuts n w w') {a : Addr} {c : Cell} (h : CellOk G w a c) (b : belowC n c = true) : CellOk G w' a c := by
  cases c with
  | lst l => obtain ⟨vs, e, r⟩ := h; exact ⟨vs, by rw [k.H]; exact e, r.cuts k b⟩
  | dct l => obtain ⟨vs, e, r⟩ := h; exact ⟨vs, by rw [k.H]; exact e, r.cuts k b⟩
  | lck l => obtain ⟨o, vs, e, r⟩ := h; exact ⟨o, vs, by rw [k.H]; exact e, r.cuts k b⟩
  | obj c fs => obtain ⟨dx, fs', e, r⟩ := h; exact ⟨dx, fs', by rw [k.H]; exact e, r.cuts k b⟩
  | dead => obtain ⟨o, e⟩ := h; exact ⟨o, by rw [k.H]; exact e⟩
theorem cut_ok {w0 w : Wd} {h0 h : Hv} {v : Vl} (S0 : Sim G w0 h0) (S : Sim G w h) (e : Ext w0 w) (c : CutOk h0 v h) (l : h0.length ≤ h.length) :
    ∃ w', w'.H = w.H ∧ Cuts h0.length w w' ∧ Ext w0 w' ∧ Sim G w' (h.take h0.length) := by
  have hφ : w.φ.take h0.length = w0.φ := by
    obtain ⟨t, ht⟩ := e.pre
    rw [← ht, ← S0.len, List.take_left']
    rfl
  have K : Cuts h0.length w ⟨w.φ.take h0.length, fun a => ∃ (m : Nat) (c : Cell), (w.φ.take h0.length)[m]? = some a ∧ (h.take h0.length)[m]? = some c ∧ c ≠ Cell.dead, w.Z, w.H⟩ := by
    refine ⟨rfl, rfl, fun a z => z.imp (fun ⟨m, c, e1, e2, e3⟩ => ?_) id⟩
    refine (S.live a).mpr ⟨m, c, ?_, ?_, e3⟩
    · rw [List.getElem?_take] at e1
      split at e1
      · exact e1
      · cases e1
    · rw [List.getElem?_take] at e2
      split at e2
      · exact e2
      · cases e2
  refine ⟨⟨w.φ.take h0.length, fun a => ∃ (m : Nat) (c : Cell), (w.φ.take h0.length)[m]? = some a ∧ (h.take h0.length)[m]? = some c ∧ c ≠ Cell.dead, w.Z, w.H⟩, rfl, K, ⟨⟨by show w0.φ <+: w.φ.take h0.length; rw [hφ]; exact List.prefix_rfl, fun a o ho hn => ⟨(e.keep a o ho hn).1, fun z => (e.keep a o ho hn).2 (K.L a z)⟩⟩, e.fz, e.hid⟩, ⟨?_, ?_, fun a ha => ⟨fun z => (S.zs a ha).1 (List.mem_of_mem_take z), (S.zs a ha).2⟩, fun a => Iff.rfl, fun n c' a e1 e2 => ?_⟩⟩
  · show (w.φ.take h0.length).length = _
    rw [List.length_take, List.length_take, S.len]
  · exact S.nd.sublist (List.take_sublist _ _)
  · have e2 : (w.φ.take h0.length)[n]? = some a := e2
    rw [List.getElem?_take] at e1 e2
    by_cases hn : n < h0.length
    · rw [if_pos hn] at e1 e2
      refine (S.ok n c' a e1 e2).cuts K ?_
      rcases c.2 n c' hn e1 with z | z
      · obtain ⟨b, hb, ok⟩ := S0.adr z
        have := ok.low
        rw [S0.len] at this
        exact this
      · exact z
    · rw [if_neg hn] at e1; cases e1
/-! ### freezing -/
theorem zip_keys {α β : Type} : ∀ {l : List (α × β)} {m : List β}, l.length = m.length → ((l.map (·.1)).zip m).length = l.length
  | [], [], _ => rfl
  | _ :: l, _ :: m, h => by simp at h; simp [h]
theorem RKs.vals {w : Wd} : ∀ {l : List (Key × Vl)} {kvs : List (Key × V)}, RKs G w l kvs → RVs G w (l.map (·.2)) (kvs.map (·.2))
  | _, _, .nil => .nil
  | _, _, .cons h r => .cons h (RKs.vals r)
theorem RKs.zip {w w' : Wd} : ∀ {l : List (Key × Vl)} {kvs : List (Key × V)} {m : List Vl}, RKs G w l kvs → RVs G w' m (kvs.map (·.2)) → RKs G w' ((l.map (·.1)).zip m) kvs
  | _, _, _, .nil, .nil => .nil
  | _, _, _, .cons h r, .cons h' r' => .cons h' (RKs.zip r r')
theorem RFs.vals {w : Wd} : ∀ {l : List (Nat × Vl)} {kvs : List (Str × V)}, RFs G w l kvs → RVs G w (l.map (·.2)) (kvs.map (·.2))
  | _, _, .nil => .nil
  | _, _, .cons e h r => .cons h (RFs.vals r)
theorem RFs.zip {w w' : Wd} : ∀ {l : List (Nat × Vl)} {kvs : List (Str × V)} {m : List Vl}, RFs G w l kvs → RVs G w' m (kvs.map (·.2)) → RFs G w' ((l.map (·.1)).zip m) kvs
  | _, _, _, .nil, .nil => .nil
  | _, _, _, .cons e h r, .cons h' r' => .cons e h' (RFs.zip r r')
/-- a world in which less is live -/
structure Les (w w' : Wd) : Prop where
  H : w'.H = w.H
  φ : w'.φ = w.φ
  Z : w'.Z = w.Z
  ext : Ext w w'
theorem Les.refl (w : Wd) : Les w w := ⟨rfl, rfl, rfl, .refl w⟩
theorem Les.trans {a b c : Wd} (x : Les a b) (y : Les b c) : Les a c := ⟨y.H.trans x.H, y.φ.trans x.φ, y.Z.trans x.Z, x.ext.trans y.ext⟩
def FzP (G : Gs) (f : Vl → Hv → Option (Vl × Hv)) : Prop := ∀ v h v' h', f v h = some (v', h') → ∀ w x, Sim G w h → RV G w v x → ∃ w', Les w w' ∧ Sim G w' h' ∧ RV G w' v' x
theorem fzL_ok {f : Vl → Hv → Option (Vl × Hv)} (F : FzP G f) : ∀ (l : List Vl) (h : Hv) (l' : List Vl) (h' : Hv), fzF.fzL f l h = some (l', h') → ∀ w xs, Sim G w h → RVs G w l xs → ∃ w', Les w w' ∧ Sim G w' h' ∧ RVs G w' l' xs
  | [], h, l', h', e, w, xs, S, r => by
    rw [fzF.fzL] at e
    cases e
    exact ⟨w, .refl w, S, r⟩
  | v :: l, h, l', h', e, w, xs, S, r => by
    rw [fzF.fzL] at e
    cases r with
    | cons r0 r =>
      split at e
      · rename_i v' h1 e1
        split at e
        · rename_i l2 h2 e2
          simp only [Option.some.injEq, Prod.mk.injEq] at e
          obtain ⟨rfl, rfl⟩ := e
          obtain ⟨w1, x1, S1, q1⟩ := F _ _ _ _ e1 w _ S r0
          obtain ⟨w2, x2, S2, q2⟩ := fzL_ok F l h1 l2 _ e2 w1 _ S1 (r.ext x1.ext)
          exact ⟨w2, x1.trans x2, S2, .cons (q1.ext x2.ext) q2⟩
        · cases e
      · cases e
theorem kill_ok {w w1 : Wd} {h1 : Hv} {m : Nat} {a : Addr} (S1 : Sim G w1 h1) (x : Les w w1) (ha : w.φ[m]? = some a) : ∃ w2, Les w1 w2 ∧ Sim G w2 (h1.set m Cell.dead) ∧ ¬ w2.L a := by
  have ha1 : w1.φ[m]? = some a := by rw [x.φ]; exact ha
  obtain ⟨c, hc, _⟩ := S1.at ha1
  obtain ⟨S2, e2⟩ := S1.kill ha1 hc
  exact ⟨{ w1 with V := fun b => w1.V b ∧ b ≠ a }, ⟨rfl, rfl, rfl, e2⟩, S2, fun z => z.elim (fun z => z.2 rfl) fun z => (S1.zs a z).1 (List.mem_of_getElem? ha1)⟩
theorem fzF_ok : ∀ n, FzP G (fzF n)
  | 0, v, h, v', h', e, _, _, _, _ => by rw [fzF] at e; cases e
  | n + 1, v, h, v', h', e, w, x, S, r => by
    have F := fzF_ok n
    rw [fzF.eq_def] at e
    simp only at e
    split at e
    · cases e
      exact ⟨w, .refl w, S, r⟩
    split at e
    · rename_i m
      cases r with
      | @ref _ a ha =>
        split at e
        · rename_i l hc
          obtain ⟨vs, e1, r1⟩ := S.ok _ _ _ hc ha
          split at e
          · rename_i l' h1 e2
            obtain ⟨w1, x1, S1, q1⟩ := fzL_ok F _ _ _ _ e2 w _ S r1
            split at e
            · cases e
              obtain ⟨w2, x2, S2, nl⟩ := kill_ok S1 x1 ha
              exact ⟨w2, x1.trans x2, S2, .fl (.inl ⟨.inl (by rw [x2.H, x1.H]; exact e1), nl⟩) (q1.ext x2.ext)⟩
            · cases e
          · cases e
        · rename_i l hc
          obtain ⟨kvs, e1, r1⟩ := S.ok _ _ _ hc ha
          split at e
          · rename_i l' h1 e2
            obtain ⟨w1, x1, S1, q1⟩ := fzL_ok F _ _ _ _ e2 w _ S r1.vals
            cases e
            obtain ⟨w2, x2, S2, nl⟩ := kill_ok S1 x1 ha
            exact ⟨w2, x1.trans x2, S2, .fd ⟨.inl (by rw [x2.H, x1.H]; exact e1), nl⟩ ((r1.zip q1).ext x2.ext)⟩
          · cases e
        · rename_i c fs hc
          obtain ⟨dx, fs', e1, r1⟩ := S.ok _ _ _ hc ha
          split at e
          · rename_i l' h1 e2
            obtain ⟨w1, x1, S1, q1⟩ := fzL_ok F _ _ _ _ e2 w _ S r1.vals
            cases e
            obtain ⟨w2, x2, S2, nl⟩ := kill_ok S1 x1 ha
            exact ⟨w2, x1.trans x2, S2, .fo ⟨by rw [x2.H, x1.H]; exact e1, nl⟩ ((r1.zip q1).ext x2.ext)⟩
          · cases e
        · cases e
    · rename_i l
      cases r with
      | @tup _ a vs ha r =>
        split at e
        · rename_i l' h1 e2
          cases e
          obtain ⟨w1, x1, S1, q1⟩ := fzL_ok F _ _ _ _ e2 w _ S r
          exact ⟨w1, x1, S1, .tup (ha.ext0 x1.ext.toExt0) q1⟩
        · cases e
    · cases e
      exact ⟨w, .refl w, S, r⟩
/-- what is asked of the cut is asked of the whole -/
theorem ExOk.cuts {w w' : Wd} {n : Nat} (k : Cuts n w w') {c : Nat} {fs : List (Nat × Vl)} {cls : Value} {od : Option Addr} (h : ExOk G w c fs cls od) (b : belowF n fs = true) : ExOk G w' c fs cls od := by
  refine ⟨h.1, h.2.imp id fun ⟨d, fs', e1, e2, e3, e4⟩ => ⟨d, fs', e1, by rw [k.H]; exact e2, e3.cuts k b, fun z => e4 (k.L d z)⟩⟩
theorem post_cut {w : Wd} {h0 : Hv} {r : Res Vl} {Q : VK} {E : XK} (S0 : Sim G w h0) (p : Post G w (cutR h0 r) Q E) : Post G w r Q E := by
  cases r with
  | st => exact p
  | ok v h =>
    intro w' x e S r
    unfold cutR at p
    simp only at p
    split at p
    · rename_i c
      obtain ⟨w2, hH, k, e2, S2⟩ := cut_ok S0 S e c.1 c.2
      rw [← hH]
      exact p w2 x e2 S2 (r.cuts k c.1.1)
    · exact p.elim
  | ex c fs h =>
    intro w' cls od e S r
    unfold cutR at p
    simp only at p
    split at p
    · rename_i z
      obtain ⟨w2, hH, k, e2, S2⟩ := cut_ok S0 S e z.1 z.2
      rw [← hH]
      have b := z.1.1
      rw [Core.below] at b
      exact p w2 cls od e2 S2 (r.cuts k b)
    · exact p.elim
theorem post_frz {w : Wd} {h0 : Hv} {v : Vl} {h : Hv} {Q : VK} {E : XK} (S0 : Sim G w h0) (p : Post G w (match fzF 60 v h with
      | some (v', h2) => cutR h0 (.ok v' h2)
      | none => .st) Q E) : Post G w (.ok v h) Q E := by
  split at p
  · rename_i v' h2 e2
    intro w' x e S r
    obtain ⟨w1, x1, S1, q1⟩ := fzF_ok 60 _ _ _ _ e2 w' x S r
    have := post_cut S0 p w1 x (e.trans x1.ext) S1 q1
    rw [x1.H] at this
    exact this
  · exact p.elim
theorem post_fin {w : Wd} {m : Nat} {h0 : Hv} {r : Res Vl} {Q : VK} {E : XK} (S0 : Sim G w h0) (p : Post G w (finR m h0 r) Q E) : Post G w r Q E := by
  unfold finR at p
  split at p
  · exact p
  · exact post_cut S0 p
  · cases r with
    | st => exact p
    | ok v h => exact post_frz S0 p
    | ex c fs h => exact post_cut S0 p
end
end Core
end

section
set_option Elab.async false
set_option linter.all false
set_option maxRecDepth 100000
set_option maxHeartbeats 4000000
set_option autoImplicit false
/-! Core6: == of values. -/
namespace Core
open PySem L2 PyProof.Rows

section
variable {G : Gs} {w : Wd} {h : Hv}
theorem vw_sc {a : Vl} {x : V} {v : Vl} (r : RV G w a x) (e : vw h a = .sc v) : a = v ∧ flatV x = true := by
  cases a with
  | ref n => simp only [vw] at e; split at e <;> cases e
  | non => cases e; cases r; exact ⟨rfl, rfl⟩
  | bl b => cases e; cases r; exact ⟨rfl, rfl⟩
  | int b => cases e; cases r; exact ⟨rfl, rfl⟩
  | str b => cases e; cases r; exact ⟨rfl, rfl⟩
  | _ => cases e
theorem vw_L (S : Sim G w h) {a : Vl} {x : V} {l} (r : RV G w a x) (e : vw h a = .L l) : ∃ p vs, x = .ref p ∧ SqL G.K w.H p vs ∧ RVs G w l vs := by
  refine asL_ok S r ?_
  cases a with
  | ref n => simp only [vw, asL] at e ⊢; split at e <;> first | (cases e; rename_i q; simp [q]) | cases e
  | fl m => cases e; rfl
  | _ => cases e
theorem vw_T {a : Vl} {x : V} {l} (r : RV G w a x) (e : vw h a = .T l) : ∃ p vs, x = .ref p ∧ SqT G.K w.H p vs ∧ RVs G w l vs := by
  cases a with
  | ref n => simp only [vw] at e; split at e <;> cases e
  | tup m => cases e; exact r.tup'
  | _ => cases e
theorem vw_D (S : Sim G w h) {a : Vl} {x : V} {l} (r : RV G w a x) (e : vw h a = .D l) : ∃ p vs, x = .ref p ∧ Rd w.H p (.dK vs) ∧ RKs G w l vs := by
  refine asD_ok S r ?_
  cases a with
  | ref n => simp only [vw, asD] at e ⊢; split at e <;> first | (cases e; rename_i q; simp [q]) | cases e
  | fd m => cases e; rfl
  | _ => cases e
theorem scEq_ok {a b : Vl} {x y : V} {k : Bool} (ra : RV G w a x) (rb : RV G w b y) (e : scEq a b = some k) : k = L2.eqV x y := by
  cases a <;> cases b <;> first | (simp [scEq] at e; done) | skip
  all_goals (cases ra; cases rb; simp only [scEq, Option.some.injEq] at e; subst e; simp [L2.eqV]; try rfl)
  all_goals first | (rw [Bool.eq_iff_iff]; simp; done) | skip
theorem eqV_refl {x : V} (f : flatV x = true) : L2.eqV x x = true := by
  cases x <;> first | (cases f; done) | simp [L2.eqV]
theorem scEq_same {a b : Vl} {x : V} {k : Bool} (ra : RV G w a x) (rb : RV G w b x) (f : flatV x = true) (e : scEq a b = some k) : k = true := (scEq_ok ra rb e).trans (eqV_refl f)

/-- alike things are equal -/
theorem allEq_same {f : Vl → Vl → Option Bool} (hf : ∀ a b x k, RV G w a x → RV G w b x → f a b = some k → k = true) : ∀ {l m : List Vl} {vs : List V} {k : Bool}, RVs G w l vs → RVs G w m vs → allEq f l m = some k → k = true
  | [], [], _, k, _, _, e => by simpa [allEq] using e
  | a :: l, b :: m, _, k, .cons h r, .cons h' r', e => by
    simp only [allEq] at e
    split at e
    · rename_i x y e1 e2
      rw [hf _ _ _ _ h h' e1, allEq_same hf r r' e2] at e
      simpa using e
    · cases e
  | [], _ :: _, _, _, .nil, r, _ => by cases r
  | _ :: _, [], _, _, .cons _ _, r, _ => by cases r
theorem allEqT_same {f : Vl → Vl → Option Bool} (hf : ∀ a b x k, RV G w a x → RV G w b x → f a b = some k → k = true) : ∀ {l m : List Vl} {vs : List V} {k : Bool}, RVs G w l vs → RVs G w m vs → allEqT f l m = some k → k = true
  | [], [], _, k, _, _, e => by simpa [allEqT] using e
  | a :: l, b :: m, _, k, .cons h r, .cons h' r', e => by
    simp only [allEqT] at e
    split at e
    · rename_i x y e1 e2
      rw [hf _ _ _ _ h h' e1, allEqT_same hf r r' e2] at e
      simpa using e
    · cases e
  | [], _ :: _, _, _, .nil, r, _ => by cases r
  | _ :: _, [], _, _, .cons _ _, r, _ => by cases r
theorem look_in {l : List (Key × Vl)} {m : List (Key × V)} (r : RKs G w l m) {k : Key} {x : V} (e : valV m k = some x) : ∃ v, look l k = some v ∧ RV G w v x := by
  rcases look_ok r k with ⟨h1, h2⟩ | ⟨v, y, h1, h2, h3⟩
  · rw [e] at h2; cases h2
  · rw [e] at h2; cases h2; exact ⟨v, h1, h3⟩
theorem val_at {m : List (Key × V)} (nd : (m.map (·.1)).Nodup) : ∀ p ∈ m, valV m p.1 = some p.2 := by
  induction m with
  | nil => intro p hp; cases hp
  | cons q r ih =>
    intro p hp
    obtain ⟨h1, h2⟩ := List.nodup_cons.mp (show (q.1 :: r.map (·.1)).Nodup from nd)
    rcases List.mem_cons.mp hp with rfl | hp
    · exact valV_pos rfl
    · rw [valV_neg (fun e => h1 (e ▸ List.mem_map_of_mem hp))]
      exact ih h2 p hp
theorem dctEq_same {f : Vl → Vl → Option Bool} (hf : ∀ a b x k, RV G w a x → RV G w b x → f a b = some k → k = true) {m : List (Key × Vl)} {ms : List (Key × V)} (rm : RKs G w m ms) :
    ∀ {l : List (Key × Vl)} {vs : List (Key × V)} {k : Bool}, RKs G w l vs → (∀ p ∈ vs, valV ms p.1 = some p.2) → dctEq f m l = some k → k = true
  | [], _, k, _, _, e => by simpa [dctEq] using e
  | (q, v) :: l, _, k, .cons (x := x) h r, hv, e => by
    simp only [dctEq] at e
    obtain ⟨u, e1, ru⟩ := look_in rm (hv (q, x) List.mem_cons_self)
    rw [e1] at e
    simp only at e
    split at e
    · rename_i a b e2 e3
      rw [hf _ _ _ _ h ru e2, dctEq_same hf rm r (fun p hp => hv p (List.mem_cons_of_mem _ hp)) e3] at e
      simpa using e
    · cases e
end

section
variable {X : Cx} {pins : List (Addr × Obj)} {σ : L2.St} {s : Shared} {G : Gs} {w : Wd} {h : Hv}
theorem dK_nd (I : Inv X pins σ w.H s) {a : Addr} {kvs : List (Key × V)} (e : Rd w.H a (.dK kvs)) : (kvs.map (·.1)).Nodup := by
  obtain ⟨_, _, vs, r, _, _, _, _, _, _, _, _, nd⟩ := dk_rd I.hok e
  rw [r.keys]
  exact nd
theorem Rd_dK_inj (I : Inv X pins σ w.H s) {a : Addr} {l m : List (Key × V)} (e : Rd w.H a (.dK l)) (e' : Rd w.H a (.dK m)) : l = m := by
  rcases e with e | ⟨o, e⟩ <;> rcases e' with e' | ⟨o', e'⟩ <;> rw [e] at e' <;> cases e' <;> rfl
theorem eqF_same (I : Inv X pins σ w.H s) (hK : X.K = G.K) (S : Sim G w h) : ∀ (n : Nat) (a b : Vl) (x : V) (k : Bool), RV G w a x → RV G w b x → eqF n h a b = some k → k = true
  | 0, _, _, _, _, _, _, e => by simp [eqF] at e
  | n + 1, a, b, x, k, ra, rb, e => by
    simp only [eqF] at e
    have ih := eqF_same I hK S n
    split at e
    · rename_i u v e1 e2
      obtain ⟨rfl, f⟩ := vw_sc ra e1
      obtain ⟨rfl, _⟩ := vw_sc rb e2
      exact scEq_same ra rb f e
    · rename_i l m e1 e2
      obtain ⟨p, vs, rfl, h1, r1⟩ := vw_L S ra e1
      obtain ⟨p', vs', e3, h2, r2⟩ := vw_L S rb e2
      cases e3
      have ev := I.list_inj (hK ▸ h1) (hK ▸ h2)
      subst ev
      rw [if_pos (r1.length.trans r2.length.symm)] at e
      exact allEq_same ih r1 r2 e
    · rename_i l m e1 e2
      obtain ⟨p, vs, rfl, h1, r1⟩ := vw_T ra e1
      obtain ⟨p', vs', e3, h2, r2⟩ := vw_T rb e2
      cases e3
      have ev := I.tuple_inj (hK ▸ h1) (hK ▸ h2)
      subst ev
      exact allEqT_same ih r1 r2 e
    · rename_i l m e1 e2
      obtain ⟨p, vs, rfl, h1, r1⟩ := vw_D S ra e1
      obtain ⟨p', vs', e3, h2, r2⟩ := vw_D S rb e2
      cases e3
      have ev := Rd_dK_inj I h1 h2
      subst ev
      rw [if_pos (r1.length.trans r2.length.symm)] at e
      exact dctEq_same ih r2 r1 (val_at (dK_nd I h1)) e
    · rename_i l m e1 e2
      obtain ⟨rfl, f⟩ := vw_sc ra e1
      obtain ⟨q, vs, rfl, _, _⟩ := vw_T rb e2
      cases f
    · rename_i l m e1 e2
      obtain ⟨rfl, f⟩ := vw_sc rb e2
      obtain ⟨q, vs, rfl, _, _⟩ := vw_T ra e1
      cases f
    · rename_i l m e1 e2
      obtain ⟨rfl, f⟩ := vw_sc ra e1
      obtain ⟨q, vs, rfl, _, _⟩ := vw_L S rb e2
      cases f
    · rename_i l m e1 e2
      obtain ⟨rfl, f⟩ := vw_sc rb e2
      obtain ⟨q, vs, rfl, _, _⟩ := vw_L S ra e1
      cases f
    · rename_i l m e1 e2
      obtain ⟨p, vs, rfl, h1, _⟩ := vw_L S ra e1
      obtain ⟨q, vs2, e3, h2, _⟩ := vw_T rb e2
      cases e3
      obtain ⟨us, v1, p1, _⟩ := I.list (hK ▸ h1)
      obtain ⟨vs, v2, p2, _⟩ := I.tuple (hK ▸ h2)
      exact absurd rfl (SeqAt.ne_of_list_tuple p1.isList p2)
    · rename_i l m e1 e2
      obtain ⟨p, vs, rfl, h1, _⟩ := vw_T ra e1
      obtain ⟨q, vs2, e3, h2, _⟩ := vw_L S rb e2
      cases e3
      obtain ⟨us, v1, p1, _⟩ := I.tuple (hK ▸ h1)
      obtain ⟨vs, v2, p2, _⟩ := I.list (hK ▸ h2)
      exact absurd rfl (SeqAt.ne_of_list_tuple p2.isList p1)
    · cases e
/-- places equal -/
theorem allEq_at {f : Vl → Vl → Option Bool} {A : Around} (hf : ∀ a b x y u v k, RV G w a x → RV G w b y → RelV x u → RelV y v → f a b = some k → SeqAt.EqP X.prog X.w A s u v k) :
    ∀ {l m : List Vl} {xs ys : List V} {us vs : List Value} {k : Bool}, RVs G w l xs → RVs G w m ys → Vals xs us → Vals ys vs → allEq f l m = some k →
      ∃ e : Nat → Bool, (∀ j (h1 : j < us.length) (h2 : j < vs.length), SeqAt.EqP X.prog X.w A s us[j] vs[j] (e j)) ∧ k = (List.range us.length).all e
  | [], [], _, _, _, _, k, .nil, .nil, .nil, .nil, e => ⟨fun _ => true, fun j h1 => absurd h1 (Nat.not_lt_zero j), by simp [allEq] at e; subst e; rfl⟩
  | a :: l, b :: m, _ :: _, _ :: _, us, vs, k, .cons h r, .cons h' r', q0, q0', e => by
    cases q0 with
    | cons q t =>
    cases q0' with
    | cons q' t' =>
    simp only [allEq] at e
    split at e
    · rename_i x y e1 e2
      obtain ⟨g, g1, g2⟩ := allEq_at hf r r' t t' e2
      refine ⟨fun j => match j with | 0 => x | j + 1 => g j, fun j h1 h2 => ?_, ?_⟩
      · cases j with
        | zero => exact hf _ _ _ _ _ _ _ h h' q q' e1
        | succ j => exact g1 j (Nat.lt_of_succ_lt_succ h1) (Nat.lt_of_succ_lt_succ h2)
      · simp only [Option.some.injEq] at e
        rw [← e, g2]
        simp only [List.length_cons, List.range_succ_eq_map, List.all_cons, List.all_map, Function.comp_def]
    · cases e
  | [], _ :: _, _, _, _, _, _, _, _, _, _, e => by simp [allEq] at e
  | _ :: _, [], _, _, _, _, _, _, _, _, _, e => by simp [allEq] at e
theorem allEqT_at {f : Vl → Vl → Option Bool} {A : Around} (hf : ∀ a b x y u v k, RV G w a x → RV G w b y → RelV x u → RelV y v → f a b = some k → SeqAt.EqP X.prog X.w A s u v k) :
    ∀ {l m : List Vl} {xs ys : List V} {us vs : List Value} {k : Bool}, RVs G w l xs → RVs G w m ys → Vals xs us → Vals ys vs → allEqT f l m = some k →
      ∃ e : Nat → Bool, (∀ j (h1 : j < us.length) (h2 : j < vs.length), SeqAt.EqP X.prog X.w A s us[j] vs[j] (e j)) ∧ k = ((List.range (min us.length vs.length)).all e && us.length == vs.length)
  | [], [], [], [], us, vs, k, _, _, q, q', e => by
    cases q; cases q'
    simp [allEqT] at e
    exact ⟨fun _ => true, fun j h1 => absurd h1 (Nat.not_lt_zero j), by simp [← e]⟩
  | [], b :: m, [], _ :: _, us, vs, k, _, _, q, q', e => by
    cases q; cases q'
    simp [allEqT] at e
    exact ⟨fun _ => true, fun j h1 => absurd h1 (Nat.not_lt_zero j), by simp [← e]⟩
  | a :: l, [], _ :: _, [], us, vs, k, _, _, q, q', e => by
    cases q; cases q'
    simp [allEqT] at e
    exact ⟨fun _ => true, fun j _ h1 => absurd h1 (Nat.not_lt_zero j), by simp [← e]⟩
  | a :: l, b :: m, _ :: _, _ :: _, us, vs, k, .cons h r, .cons h' r', q0, q0', e => by
    cases q0 with
    | cons q t =>
    cases q0' with
    | cons q' t' =>
    simp only [allEqT] at e
    split at e
    · rename_i x y e1 e2
      obtain ⟨g, g1, g2⟩ := allEqT_at hf r r' t t' e2
      refine ⟨fun j => match j with | 0 => x | j + 1 => g j, fun j h1 h2 => ?_, ?_⟩
      · cases j with
        | zero => exact hf _ _ _ _ _ _ _ h h' q q' e1
        | succ j => exact g1 j (Nat.lt_of_succ_lt_succ h1) (Nat.lt_of_succ_lt_succ h2)
      · simp only [Option.some.injEq] at e
        rw [← e, g2]
        simp only [List.length_cons, Nat.succ_min_succ, List.range_succ_eq_map, List.all_cons, List.all_map, Function.comp_def, Bool.and_assoc]
        congr 1
        congr 1
        simp
    · cases e
theorem dctEq_at {f : Vl → Vl → Option Bool} {A : Around} (hf : ∀ a b x y u v k, RV G w a x → RV G w b y → RelV x u → RelV y v → f a b = some k → SeqAt.EqP X.prog X.w A s u v k)
    {m : List (Key × Vl)} {ms : List (Key × V)} {kb : List (Key × Value)} (rm : RKs G w m ms) (rb : KV ms kb) :
    ∀ {l : List (Key × Vl)} {xs : List (Key × V)} {ka : List (Key × Value)} {k : Bool}, RKs G w l xs → KV xs ka → dctEq f m l = some k → PySem.W.KeqHitsP X.prog X.w A s kb ka k
  | [], _, _, k, .nil, .nil, e => by simp [dctEq] at e; subst e; exact .nil
  | (q, v) :: l, (_, x) :: _, ka0, k, .cons h r, q0, e => by
    cases q0 with
    | @cons _ qu _ ka q2 t =>
    obtain ⟨q', u⟩ := qu
    obtain ⟨e0, q1⟩ := q2
    have e0 : q = q' := e0
    subst e0
    have q1 : RelV x u := q1
    simp only [dctEq] at e
    rcases look_ok rm q with ⟨h1, h2⟩ | ⟨z, y, h1, h2, h3⟩
    · rw [h1] at e
      simp only [Option.some.injEq] at e
      subst e
      have rr : RelO (none : Option V) (valueAt kb q) := by rw [← h2]; exact rb.val q
      exact .miss rr.none_of
    · rw [h1] at e
      simp only at e
      split at e
      · rename_i a b e2 e3
        have rr : RelO (some y) (valueAt kb q) := by rw [← h2]; exact rb.val q
        obtain ⟨yv, hy, ry⟩ := rr.some_of
        simp only [Option.some.injEq] at e
        subst e
        exact .hit hy (hf _ _ _ _ _ _ _ h h3 q1 ry e2) (dctEq_at hf rm rb r t e3)
      · cases e
theorem tuple_eqI {prog : Program} {ww : World} (p q : Addr) (us vs : Array Value) (n n' : Nat) (d1 d2 : Option Addr) (s1 s2 : Array (Option Value)) (g : Nat → Bool) :
    MeetsIn prog ww (Builtin.«tuple.__eq__» ⟨[.ref p, .ref q], []⟩)
      (fun A R s => s.heap.get? p = some { cls := .type "tuple", dict := d1, data := .seq us n, slots := s1 } ∧ s.heap.get? q = some { cls := .type "tuple", dict := d2, data := .seq vs n', slots := s2 } ∧
        (∀ j (h1 : j < us.size) (h2 : j < vs.size), SeqAt.EqP prog ww A.in1 s us[j] vs[j] (g j)) ∧
        R (.ok (.ret (.bool ((List.range (min us.size vs.size)).all g && us.size == vs.size)))) s) := by
  intro A R s h
  obtain ⟨hp, gg, d, tk, os⟩ := s
  obtain ⟨e1, e2, turns, fin⟩ := h
  have f0 := AutoSeq1.sub_tuple_tuple
  have hl : (us.toList.zip vs.toList).length = min us.size vs.size := by simp
  wp_walk using AutoSeq1.wpAny_loadPart' e1, AutoSeq1.wpAny_loadPart' e2, wpAny_forIn_list _ (fun rest b s' => b.1 = none ∧ s' = ⟨hp, gg, d, tk, os⟩ ∧ ∃ i, rest = (us.toList.zip vs.toList).drop i ∧
    R (.ok (.ret (.bool (((List.range (min us.size vs.size)).drop i).all g && us.size == vs.size)))) ⟨hp, gg, d, tk, os⟩) _
  case turn =>
    rintro ⟨y, x⟩ rest b s' ⟨b0, rfl, i, hz, hR⟩
    have lt : i < (us.toList.zip vs.toList).length := by
      by_cases z : i < (us.toList.zip vs.toList).length
      · exact z
      · rw [List.drop_of_length_le (by omega)] at hz; cases hz
    have lm : i < min us.size vs.size := by omega
    have l1 : i < us.size := by omega
    have l2 : i < vs.size := by omega
    rw [List.drop_eq_getElem_cons lt] at hz
    injection hz with hyx hr
    obtain rfl : y = us[i] := by have := congrArg Prod.fst hyx; simpa using this
    obtain rfl : x = vs[i] := by have := congrArg Prod.snd hyx; simpa using this
    have hd : (List.range (min us.size vs.size)).drop i = i :: (List.range (min us.size vs.size)).drop (i + 1) := by rw [List.drop_eq_getElem_cons (by simpa using lm)]; simp
    rw [hd, List.all_cons] at hR
    refine wpAny_bind (turns i l1 l2 _ _ ?_)
    cases hy : g i with
    | true =>
      rw [hy] at hR
      wp_walk
      exact ⟨rfl, rfl, i + 1, hr, by simpa using hR⟩
    | false =>
      rw [hy] at hR
      wp_walk
      simpa using hR
  case fin =>
    rintro ⟨b1, b2⟩ s' ⟨b0, rfl, i, hz, hR⟩
    simp only at b0
    subst b0
    have ge : min us.size vs.size ≤ i := by
      by_cases z : i < (us.toList.zip vs.toList).length
      · rw [List.drop_eq_getElem_cons z] at hz; cases hz
      · omega
    rw [List.drop_of_length_le (by simpa using ge)] at hR
    wp_walk
    simpa [Builtin.Tuple.tupleCompareSizes] using hR
  case h => exact ⟨rfl, rfl, 0, rfl, by simpa using fin⟩
theorem rcP_tups {prog : Program} {ww : World} {A : Around} {p q : Addr} {us vs : Array Value} {g : Nat → Bool} (hp : s.heap.IsTuple p us) (hq : s.heap.IsTuple q vs) (hu : A.units < cLine)
    (turns : ∀ j (h1 : j < us.size) (h2 : j < vs.size), SeqAt.EqP prog ww A.in1 s us[j] vs[j] (g j)) (E Q : Value → Shared → Prop) (fin : Q (.bool ((List.range (min us.size vs.size)).all g && us.size == vs.size)) s) :
    wpAny (model prog ww) A (richCompare .Eq (.ref p) (.ref q)) Q E s := by
  obtain ⟨⟨c1, d1, t1, s1⟩, o1, e1, n1, f1⟩ := id hp
  obtain ⟨⟨c2, d2, t2, s2⟩, o2, e2, n2, f2⟩ := id hq
  simp only at e1 f1 e2 f2
  subst e1 f1 e2 f2
  have a1 : s.TypeIs (.ref p) "tuple" := ⟨_, o1, rfl⟩
  have a2 : s.TypeIs (.ref q) "tuple" := ⟨_, o2, rfl⟩
  exact wpAny_richCompare_same_room (op := .Eq) a1 a2 F.slot_tuple_eq (call_meetsIn F.slot_tuple_eq a1 F.entry_tuple_eq (F.args_tuple_eq_2 _ _) (tuple_eqI p q us vs n1 n2 d1 d2 s1 s2 g)
    ⟨o1, o2, turns, show Value.bool ((List.range (min us.size vs.size)).all g && us.size == vs.size) ≠ Value.notImplemented ∧ Q (.bool ((List.range (min us.size vs.size)).all g && us.size == vs.size)) s from ⟨(fun x => nomatch x), fin⟩⟩) hu
theorem mix_T {A : Around} (hu : A.units < cLine) {a c : Vl} {x : V} {u : Value} {q : Addr} {us : Array Value} (r : RV G w a x) (rx : RelV x u) (e : vw h a = .sc c) (T : s.heap.IsTuple q us) :
    (SeqAt.RcAt A s u (.ref q) false ∧ SeqAt.EqAt A s u (.ref q) false) ∧ (SeqAt.RcAt A s (.ref q) u false ∧ SeqAt.EqAt A s (.ref q) u false) := by
  cases a with
  | ref n => simp only [vw] at e; split at e <;> cases e
  | non => cases r; cases (show u = Value.none from rx); exact ⟨⟨.none_tuple T hu, .none_tuple T hu⟩, .tuple_none T hu, .tuple_none T hu⟩
  | bl b => cases r; cases (show u = Value.bool b from rx); exact ⟨⟨.bool_tuple _ T hu, .bool_tuple _ T hu⟩, .tuple_bool _ T hu, .tuple_bool _ T hu⟩
  | int b => cases r; obtain ⟨t, rfl⟩ := (show ∃ t, u = Value.int b t from rx); exact ⟨⟨.int_tuple _ _ T hu, .int_tuple _ _ T hu⟩, .tuple_int _ _ T hu, .tuple_int _ _ T hu⟩
  | str b => cases r; obtain ⟨t, rfl⟩ := (show ∃ t, u = Value.str b t from rx); exact ⟨⟨.str_tuple _ _ T hu, .str_tuple _ _ T hu⟩, .tuple_str _ _ T hu, .tuple_str _ _ T hu⟩
  | _ => cases e
theorem mix_L {A : Around} (hu : A.units < cLine) {a c : Vl} {x : V} {u : Value} {q : Addr} {us : Array Value} (r : RV G w a x) (rx : RelV x u) (e : vw h a = .sc c) (T : s.heap.IsList q us) :
    (SeqAt.RcAt A s u (.ref q) false ∧ SeqAt.EqAt A s u (.ref q) false) ∧ (SeqAt.RcAt A s (.ref q) u false ∧ SeqAt.EqAt A s (.ref q) u false) := by
  cases a with
  | ref n => simp only [vw] at e; split at e <;> cases e
  | non => cases r; cases (show u = Value.none from rx); exact ⟨⟨.none_list T hu, .none_list T hu⟩, .list_none T hu, .list_none T hu⟩
  | bl b => cases r; cases (show u = Value.bool b from rx); exact ⟨⟨.bool_list _ T hu, .bool_list _ T hu⟩, .list_bool _ T hu, .list_bool _ T hu⟩
  | int b => cases r; obtain ⟨t, rfl⟩ := (show ∃ t, u = Value.int b t from rx); exact ⟨⟨.int_list _ _ T hu, .int_list _ _ T hu⟩, .list_int _ _ T hu, .list_int _ _ T hu⟩
  | str b => cases r; obtain ⟨t, rfl⟩ := (show ∃ t, u = Value.str b t from rx); exact ⟨⟨.str_list _ _ T hu, .str_list _ _ T hu⟩, .list_str _ _ T hu, .list_str _ _ T hu⟩
  | _ => cases e
theorem eqF_rc (I : Inv X pins σ w.H s) (hK : X.K = G.K) (S : Sim G w h) (n : Nat) {A : Around} (hu : A.units < cLine)
    (ih : ∀ a b x y u v k, RV G w a x → RV G w b y → RelV x u → RelV y v → eqF n h a b = some k → SeqAt.EqP X.prog X.w A.in1 s u v k)
    {a b : Vl} {x y : V} {u v : Value} {k : Bool} (ra : RV G w a x) (rb : RV G w b y) (rx : RelV x u) (ry : RelV y v) (e : eqF (n + 1) h a b = some k) :
    (flatV x = true ∧ flatV y = true ∧ k = L2.eqV x y) ∨ (∃ p q, x = .ref p ∧ y = .ref q ∧ ∀ (E Q : Value → Shared → Prop), Q (.bool k) s → wpAny (model X.prog X.w) A (richCompare .Eq u v) Q E s) ∨ (¬ (flatV x = true ∧ flatV y = true) ∧ (∀ (E Q : Value → Shared → Prop), Q (.bool k) s → wpAny (model X.prog X.w) A (richCompare .Eq u v) Q E s) ∧ SeqAt.EqP X.prog X.w A s u v k) := by
  simp only [eqF] at e
  split at e
  · rename_i u v e1 e2
    obtain ⟨rfl, f⟩ := vw_sc ra e1
    obtain ⟨rfl, f'⟩ := vw_sc rb e2
    exact .inl ⟨f, f', scEq_ok ra rb e⟩
  · rename_i l m e1 e2
    obtain ⟨p, xs, rfl, h1, r1⟩ := vw_L S ra e1
    obtain ⟨q, ys, rfl, h2, r2⟩ := vw_L S rb e2
    refine .inr (.inl ⟨p, q, rfl, rfl, ?_⟩)
    cases rx; cases ry
    obtain ⟨us, v1, p1, _⟩ := I.list (hK ▸ h1)
    obtain ⟨vs, v2, p2, _⟩ := I.list (hK ▸ h2)
    have l1 := r1.length.trans v1.length
    have l2 := r2.length.trans v2.length
    intro E Q hq
    by_cases hl : l.length = m.length
    · rw [if_pos hl] at e
      obtain ⟨g, g1, g2⟩ := allEq_at ih r1 r2 v1 v2 e
      rw [g2] at hq
      exact SeqAt.rcP_lists (A := A) p1.isList p2.isList (e := g) (by simp; omega) hu (fun j h1 h2 => by simpa using g1 j (by simpa using h1) (by simpa using h2)) E Q (by simpa using hq)
    · rw [if_neg hl] at e
      cases e
      exact SeqAt.RcAt.lists_lengths p1.isList p2.isList (by simp; omega) hu _ _ E Q hq
  · rename_i l m e1 e2
    obtain ⟨p, xs, rfl, h1, r1⟩ := vw_T ra e1
    obtain ⟨q, ys, rfl, h2, r2⟩ := vw_T rb e2
    refine .inr (.inl ⟨p, q, rfl, rfl, ?_⟩)
    cases rx; cases ry
    obtain ⟨us, v1, p1, _⟩ := I.tuple (hK ▸ h1)
    obtain ⟨vs, v2, p2, _⟩ := I.tuple (hK ▸ h2)
    intro E Q hq
    obtain ⟨g, g1, g2⟩ := allEqT_at ih r1 r2 v1 v2 e
    rw [g2] at hq
    exact rcP_tups (A := A) (show s.heap.IsTuple p us.toArray from p1) (show s.heap.IsTuple q vs.toArray from p2) (g := g) hu (fun j h1 h2 => by simpa using g1 j (by simpa using h1) (by simpa using h2)) E Q (by simpa using hq)
  · rename_i l m e1 e2
    obtain ⟨p, xs, rfl, h1, r1⟩ := vw_D S ra e1
    obtain ⟨q, ys, rfl, h2, r2⟩ := vw_D S rb e2
    refine .inr (.inl ⟨p, q, rfl, rfl, ?_⟩)
    cases rx; cases ry
    obtain ⟨_, sa, va, k1, d1⟩ := dk_rd I.hok h1
    obtain ⟨_, sb, vb, k2, d2⟩ := dk_rd I.hok h2
    have l1 := r1.length.trans (Paired.length k1)
    have l2 := r2.length.trans (Paired.length k2)
    intro E Q hq
    by_cases hl : l.length = m.length
    · rw [if_pos hl] at e
      refine PySem.W.rcP_dicts (knd := mixKind X.prog X.w) (r := k) sa sb d1 d2 hu (fun _ => dctEq_at ih r2 k2 r1 k1 e) E Q ?_
      rw [show (va.length == vb.length && k) = k from by rw [← l1, ← l2, hl]; simp]
      exact hq
    · rw [if_neg hl] at e
      cases e
      refine PySem.W.rcP_dicts (knd := mixKind X.prog X.w) (r := false) sa sb d1 d2 hu (fun z => absurd (l1.trans (z.trans l2.symm)) hl) E Q ?_
      rw [Bool.and_false]
      exact hq
  · rename_i l m e1 e2
    cases e
    obtain ⟨q, ys, rfl, h2, r2⟩ := vw_T rb e2
    cases ry
    obtain ⟨vs, v2, p2, _⟩ := I.tuple (hK ▸ h2)
    obtain ⟨⟨z1, z2⟩, _⟩ := mix_T hu ra rx e1 p2
    exact .inr (.inr ⟨fun z => (by cases z.2), fun E Q hq => z1 _ _ E Q hq, z2.eqP⟩)
  · rename_i l m e1 e2
    cases e
    obtain ⟨q, ys, rfl, h2, r2⟩ := vw_T ra e1
    cases rx
    obtain ⟨vs, v2, p2, _⟩ := I.tuple (hK ▸ h2)
    obtain ⟨_, z1, z2⟩ := mix_T hu rb ry e2 p2
    exact .inr (.inr ⟨fun z => (by cases z.1), fun E Q hq => z1 _ _ E Q hq, z2.eqP⟩)
  · rename_i l m e1 e2
    cases e
    obtain ⟨q, ys, rfl, h2, r2⟩ := vw_L S rb e2
    cases ry
    obtain ⟨vs, v2, p2, _⟩ := I.list (hK ▸ h2)
    obtain ⟨⟨z1, z2⟩, _⟩ := mix_L hu ra rx e1 p2.isList
    exact .inr (.inr ⟨fun z => (by cases z.2), fun E Q hq => z1 _ _ E Q hq, z2.eqP⟩)
  · rename_i l m e1 e2
    cases e
    obtain ⟨q, ys, rfl, h2, r2⟩ := vw_L S ra e1
    cases rx
    obtain ⟨vs, v2, p2, _⟩ := I.list (hK ▸ h2)
    obtain ⟨_, z1, z2⟩ := mix_L hu rb ry e2 p2.isList
    exact .inr (.inr ⟨fun z => (by cases z.1), fun E Q hq => z1 _ _ E Q hq, z2.eqP⟩)
  · rename_i l m e1 e2
    cases e
    obtain ⟨p, xs, rfl, h1, r1⟩ := vw_L S ra e1
    obtain ⟨q, ys, rfl, h2, r2⟩ := vw_T rb e2
    cases rx; cases ry
    obtain ⟨us, v1, p1, _⟩ := I.list (hK ▸ h1)
    obtain ⟨vs, v2, p2, _⟩ := I.tuple (hK ▸ h2)
    exact .inr (.inr ⟨fun z => (by cases z.1), fun E Q hq => SeqAt.RcAt.list_tuple p1.isList p2 hu _ _ E Q hq, (SeqAt.EqAt.list_tuple p1.isList p2 hu).eqP⟩)
  · rename_i l m e1 e2
    cases e
    obtain ⟨p, xs, rfl, h1, r1⟩ := vw_T ra e1
    obtain ⟨q, ys, rfl, h2, r2⟩ := vw_L S rb e2
    cases rx; cases ry
    obtain ⟨us, v1, p1, _⟩ := I.tuple (hK ▸ h1)
    obtain ⟨vs, v2, p2, _⟩ := I.list (hK ▸ h2)
    exact .inr (.inr ⟨fun z => (by cases z.1), fun E Q hq => SeqAt.RcAt.tuple_list p1 p2.isList hu _ _ E Q hq, (SeqAt.EqAt.tuple_list p1 p2.isList hu).eqP⟩)
  · cases e
theorem eqF_at (I : Inv X pins σ w.H s) (hK : X.K = G.K) (S : Sim G w h) : ∀ (n : Nat) (A : Around), A.units + n < cLine → ∀ a b x y u v k, RV G w a x → RV G w b y → RelV x u → RelV y v → eqF n h a b = some k → SeqAt.EqP X.prog X.w A s u v k
  | 0, _, _, _, _, _, _, _, _, _, _, _, _, _, e => by simp [eqF] at e
  | n + 1, A, hu, a, b, x, y, u, v, k, ra, rb, rx, ry, e => by
    rcases eqF_rc I hK S n (A := A) (by omega) (eqF_at I hK S n A.in1 (by show A.units + 1 + n < cLine; omega)) ra rb rx ry e with ⟨f1, f2, rfl⟩ | ⟨p, q, rfl, rfl, z⟩ | ⟨_, _, z⟩
    · exact (eqAt_V rx ry f1 f2).eqP
    · cases rx; cases ry
      by_cases hpq : p = q
      · subst hpq
        rw [eqF_same I hK S _ _ _ _ _ ra rb e]
        exact (SeqAt.EqAt.same _).eqP
      · exact SeqAt.eqP_refs hpq z
    · exact z
end
end Core
end

section
set_option Elab.async false
set_option linter.all false
set_option maxRecDepth 100000
set_option maxHeartbeats 4000000
set_option autoImplicit false
/-! Core6n: != of values. -/
namespace Core
open PySem L2 PyProof.Rows
section
variable {prog : Program} {ww : World} {s : Shared}
theorem tuple_neI (p q : Addr) (us vs : Array Value) (n n' : Nat) (d1 d2 : Option Addr) (s1 s2 : Array (Option Value)) (g : Nat → Bool) :
    MeetsIn prog ww (Builtin.«tuple.__ne__» ⟨[.ref p, .ref q], []⟩)
      (fun A R s => s.heap.get? p = some { cls := .type "tuple", dict := d1, data := .seq us n, slots := s1 } ∧ s.heap.get? q = some { cls := .type "tuple", dict := d2, data := .seq vs n', slots := s2 } ∧
        (∀ j (h1 : j < us.size) (h2 : j < vs.size), SeqAt.EqP prog ww A.in1 s us[j] vs[j] (g j)) ∧
        R (.ok (.ret (.bool (!((List.range (min us.size vs.size)).all g && us.size == vs.size))))) s) := by
  intro A R s h
  obtain ⟨hp, gg, d, tk, os⟩ := s
  obtain ⟨e1, e2, turns, fin⟩ := h
  have f0 := AutoSeq1.sub_tuple_tuple
  have hl : (us.toList.zip vs.toList).length = min us.size vs.size := by simp
  wp_walk using AutoSeq1.wpAny_loadPart' e1, AutoSeq1.wpAny_loadPart' e2, wpAny_forIn_list _ (fun rest b s' => b.1 = none ∧ s' = ⟨hp, gg, d, tk, os⟩ ∧ ∃ i, rest = (us.toList.zip vs.toList).drop i ∧
    R (.ok (.ret (.bool (!(((List.range (min us.size vs.size)).drop i).all g && us.size == vs.size))))) ⟨hp, gg, d, tk, os⟩) _
  case turn =>
    rintro ⟨y, x⟩ rest b s' ⟨b0, rfl, i, hz, hR⟩
    have lt : i < (us.toList.zip vs.toList).length := by
      by_cases z : i < (us.toList.zip vs.toList).length
      · exact z
      · rw [List.drop_of_length_le (by omega)] at hz; cases hz
    have lm : i < min us.size vs.size := by omega
    have l1 : i < us.size := by omega
    have l2 : i < vs.size := by omega
    rw [List.drop_eq_getElem_cons lt] at hz
    injection hz with hyx hr
    obtain rfl : y = us[i] := by have := congrArg Prod.fst hyx; simpa using this
    obtain rfl : x = vs[i] := by have := congrArg Prod.snd hyx; simpa using this
    have hd : (List.range (min us.size vs.size)).drop i = i :: (List.range (min us.size vs.size)).drop (i + 1) := by rw [List.drop_eq_getElem_cons (by simpa using lm)]; simp
    rw [hd, List.all_cons] at hR
    refine wpAny_bind (turns i l1 l2 _ _ ?_)
    cases hy : g i with
    | true =>
      rw [hy] at hR
      wp_walk
      exact ⟨rfl, rfl, i + 1, hr, by simpa using hR⟩
    | false =>
      rw [hy] at hR
      wp_walk
      simpa using hR
  case fin =>
    rintro ⟨b1, b2⟩ s' ⟨b0, rfl, i, hz, hR⟩
    simp only at b0
    subst b0
    have ge : min us.size vs.size ≤ i := by
      by_cases z : i < (us.toList.zip vs.toList).length
      · rw [List.drop_eq_getElem_cons z] at hz; cases hz
      · omega
    rw [List.drop_of_length_le (by simpa using ge)] at hR
    wp_walk
    simpa [Builtin.Tuple.tupleCompareSizes, bne] using hR
  case h => exact ⟨rfl, rfl, 0, rfl, by simpa using fin⟩
theorem rcN_tups {A : Around} {p q : Addr} {us vs : Array Value} {g : Nat → Bool} (hp : s.heap.IsTuple p us) (hq : s.heap.IsTuple q vs) (hu : A.units < cLine)
    (turns : ∀ j (h1 : j < us.size) (h2 : j < vs.size), SeqAt.EqP prog ww A.in1 s us[j] vs[j] (g j)) (E Q : Value → Shared → Prop) (fin : Q (.bool (!((List.range (min us.size vs.size)).all g && us.size == vs.size))) s) :
    wpAny (model prog ww) A (richCompare .NotEq (.ref p) (.ref q)) Q E s := by
  obtain ⟨⟨c1, d1, t1, s1⟩, o1, e1, n1, f1⟩ := id hp
  obtain ⟨⟨c2, d2, t2, s2⟩, o2, e2, n2, f2⟩ := id hq
  simp only at e1 f1 e2 f2
  subst e1 f1 e2 f2
  have a1 : s.TypeIs (.ref p) "tuple" := ⟨_, o1, rfl⟩
  have a2 : s.TypeIs (.ref q) "tuple" := ⟨_, o2, rfl⟩
  exact wpAny_richCompare_same_room (op := .NotEq) a1 a2 F.slot_tuple_ne (call_meetsIn F.slot_tuple_ne a1 F.entry_tuple_ne (F.args_tuple_ne_2 _ _) (tuple_neI p q us vs n1 n2 d1 d2 s1 s2 g)
    ⟨o1, o2, turns, show Value.bool (!((List.range (min us.size vs.size)).all g && us.size == vs.size)) ≠ Value.notImplemented ∧ Q (.bool (!((List.range (min us.size vs.size)).all g && us.size == vs.size))) s from ⟨(fun x => nomatch x), fin⟩⟩) hu
theorem list_neLp (p q : Addr) (us vs : Array Value) (n n' : Nat) (d1 d2 : Option Addr) (s1 s2 : Array (Option Value)) (hz : us.size = vs.size) (g : Nat → Bool) (k : Nat) :
    ∀ i : Nat, us.size - i = k → MeetsIn prog ww (Builtin.«list.__eq__.loop» ⟨[.ref p, .ref q, rawInt i, rawInt 3], []⟩)
      (fun A R s => s.heap.get? p = some { cls := .type "list", dict := d1, data := .seq us n, slots := s1 } ∧ s.heap.get? q = some { cls := .type "list", dict := d2, data := .seq vs n', slots := s2 } ∧
        (∀ j (h1 : j < us.size) (h2 : j < vs.size), SeqAt.EqP prog ww A.in1 s us[j] vs[j] (g j)) ∧ R (.ok (.ret (.bool (!((List.range us.size).drop i).all g)))) s) := by
  induction k with
  | zero =>
    intro i hk A R s h
    obtain ⟨hp, gg, d, tk, os⟩ := s
    obtain ⟨e1, e2, turns, fin⟩ := h
    wp_walk using AutoSeq1.wpAny_loadPart' e1, AutoSeq1.wpAny_loadPart' e2
    have n1 : us[((i : Nat) : Int).toNat]? = none := by simp; omega
    have n2 : vs[((i : Nat) : Int).toNat]? = none := by simp; omega
    have nd : (List.range us.size).drop i = [] := by simp; omega
    rw [nd] at fin
    rw [n1, n2]
    wp_walk using AutoSeq1.wpAny_loadPart' e1, AutoSeq1.wpAny_loadPart' e2
    show R (.ok (.ret (.bool (us.size != vs.size)))) _
    rw [hz]
    simpa using fin
  | succ k ih =>
    intro i hk A R s h
    obtain ⟨hp, gg, d, tk, os⟩ := s
    obtain ⟨e1, e2, turns, fin⟩ := h
    wp_walk using AutoSeq1.wpAny_loadPart' e1, AutoSeq1.wpAny_loadPart' e2
    have l1 : i < us.size := by omega
    have l2 : i < vs.size := by omega
    have n1 : us[((i : Nat) : Int).toNat]? = some us[i] := by simp [l1]
    have n2 : vs[((i : Nat) : Int).toNat]? = some vs[i] := by simp [l2]
    have nd : (List.range us.size).drop i = i :: (List.range us.size).drop (i + 1) := by simp [List.drop_eq_getElem_cons, l1]
    have nc : ((i : Int) + 1) = ((i + 1 : Nat) : Int) := by omega
    rw [nd, List.all_cons] at fin
    rw [n1, n2]
    refine wpAny_bind (turns i l1 l2 _ _ ?_)
    cases gi : g i with
    | true =>
      rw [gi] at fin
      wp_walk
      rw [nc]
      refine ⟨plainId_quiet MeetsSeq3.plain_eq_loop _, codeAny_builtin MeetsSeq3.entry_eq_loop ?_⟩
      rw [Around.under_plainId MeetsSeq3.plain_eq_loop _]
      exact ih (i + 1) (by omega) A R _ ⟨e1, e2, turns, by simpa using fin⟩
    | false =>
      rw [gi] at fin
      wp_walk using AutoSeq1.wpAny_loadPart' e1, AutoSeq1.wpAny_loadPart' e2
      rw [n1, n2]
      wp_walk
      simpa using fin
theorem list_neI (p q : Addr) (us vs : Array Value) (n n' : Nat) (d1 d2 : Option Addr) (s1 s2 : Array (Option Value)) (hz : us.size = vs.size) (g : Nat → Bool) :
    MeetsIn prog ww (Builtin.«list.__ne__» ⟨[.ref p, .ref q], []⟩)
      (fun A R s => s.heap.get? p = some { cls := .type "list", dict := d1, data := .seq us n, slots := s1 } ∧ s.heap.get? q = some { cls := .type "list", dict := d2, data := .seq vs n', slots := s2 } ∧
        (∀ j (h1 : j < us.size) (h2 : j < vs.size), SeqAt.EqP prog ww A.in1 s us[j] vs[j] (g j)) ∧ R (.ok (.ret (.bool (!(List.range us.size).all g)))) s) := by
  intro A R s h
  obtain ⟨hp, gg, d, tk, os⟩ := s
  obtain ⟨e1, e2, turns, fin⟩ := h
  have f0 := AutoSeq1.sub_list_list
  have ne : ¬ (us.size != vs.size) = true := by simp [hz]
  wp_walk using AutoSeq1.wpAny_loadPart' e1, AutoSeq1.wpAny_loadPart' e2
  refine ⟨plainId_quiet MeetsSeq3.plain_eq_loop _, codeAny_builtin MeetsSeq3.entry_eq_loop ?_⟩
  rw [Around.under_plainId MeetsSeq3.plain_eq_loop _]
  exact list_neLp p q us vs n n' d1 d2 s1 s2 hz g _ 0 rfl A R _ ⟨e1, e2, turns, by simpa using fin⟩
theorem rcN_lists {A : Around} {p q : Addr} {us vs : Array Value} {g : Nat → Bool} (hp : s.heap.IsList p us) (hq : s.heap.IsList q vs) (hz : us.size = vs.size) (hu : A.units < cLine)
    (turns : ∀ j (h1 : j < us.size) (h2 : j < vs.size), SeqAt.EqP prog ww A.in1 s us[j] vs[j] (g j)) (E Q : Value → Shared → Prop) (fin : Q (.bool (!(List.range us.size).all g)) s) :
    wpAny (model prog ww) A (richCompare .NotEq (.ref p) (.ref q)) Q E s := by
  obtain ⟨⟨c1, d1, t1, s1⟩, o1, e1, n1, f1⟩ := id hp
  obtain ⟨⟨c2, d2, t2, s2⟩, o2, e2, n2, f2⟩ := id hq
  simp only at e1 f1 e2 f2
  subst e1 f1 e2 f2
  have a1 : s.TypeIs (.ref p) "list" := ⟨_, o1, rfl⟩
  have a2 : s.TypeIs (.ref q) "list" := ⟨_, o2, rfl⟩
  exact wpAny_richCompare_same_room (op := .NotEq) a1 a2 F.slot_list_ne (call_meetsIn F.slot_list_ne a1 F.entry_list_ne (F.args_list_ne_2 _ _) (list_neI p q us vs n1 n2 d1 d2 s1 s2 hz g)
    ⟨o1, o2, turns, show Value.bool (!(List.range us.size).all g) ≠ Value.notImplemented ∧ Q (.bool (!(List.range us.size).all g)) s from ⟨(fun x => nomatch x), fin⟩⟩) hu
theorem rcN_dicts {K : Type} [DecidableEq K] {knd : KeyKind prog ww K} {A : Around} {p q : Addr} {kp kq : List (K × Value)} {r : Bool} (sp : (p == sysModules) = false) (sq : (q == sysModules) = false)
    (dp : s.heap.DictOf knd p kp) (dq : s.heap.DictOf knd q kq) (hu : A.units < cLine) (hits : kp.length = kq.length → PySem.W.KeqHitsP prog ww A.in1 s kq kp r) (E Q : Value → Shared → Prop) (fin : Q (.bool (!(kp.length == kq.length && r))) s) :
    wpAny (model prog ww) A (richCompare .NotEq (.ref p) (.ref q)) Q E s := by
  refine wpAny_richCompare_same_room (op := .NotEq) dp.typeIs dq.typeIs PySem.F.slot_dict_ne (wpAny_call_entry PySem.F.slot_dict_ne dp.typeIs PySem.F.entry_dict_ne ?_ (PySem.F.args_dict_ne_2 _ _)) hu
  show wpAny _ _ (Builtin.Dict.dictSlotArgs "__ne__" ⟨[.ref p, .ref q], []⟩ >>= _) _ _ s
  refine wpAny_bind ?_
  unfold Builtin.Dict.dictSlotArgs
  refine wpAny_bind (wpAny_notOrdered_dict dp.typeIs ?_)
  show wpAny _ _ (pure (Value.ref p, Value.ref q)) _ _ s
  refine wpAny_pure (wpAny_bind (wpAny_isInstance (T := "dict") dq.typeIs PySem.F.sub_dict_dict ?_))
  simp only [Bool.not_true, Bool.false_eq_true, if_false]
  refine wpAny_bind (wpAny_pure (wpAny_bind (wpAny_pure (wpAny_bind (PySem.W.samePairsP sp sq dp dq hits (wpAny_pure ⟨_, rfl, fun x => (nomatch x), ?_⟩))))))
  simpa using fin
end
section
variable {X : Cx} {pins : List (Addr × Obj)} {σ : L2.St} {s : Shared} {G : Gs} {w : Wd} {h : Hv}
theorem mixN_T {A : Around} (hu : A.units < cLine) {a c : Vl} {x : V} {u : Value} {q : Addr} {us : Array Value} (r : RV G w a x) (rx : RelV x u) (e : vw h a = .sc c) (T : s.heap.IsTuple q us) :
    SeqAt.RcNeAt A s u (.ref q) true ∧ SeqAt.RcNeAt A s (.ref q) u true := by
  cases a with
  | ref n => simp only [vw] at e; split at e <;> cases e
  | non => cases r; cases (show u = Value.none from rx); exact ⟨.none_tuple T hu, .tuple_none T hu⟩
  | bl b => cases r; cases (show u = Value.bool b from rx); exact ⟨.bool_tuple _ T hu, .tuple_bool _ T hu⟩
  | int b => cases r; obtain ⟨t, rfl⟩ := (show ∃ t, u = Value.int b t from rx); exact ⟨.int_tuple _ _ T hu, .tuple_int _ _ T hu⟩
  | str b => cases r; obtain ⟨t, rfl⟩ := (show ∃ t, u = Value.str b t from rx); exact ⟨.str_tuple _ _ T hu, .tuple_str _ _ T hu⟩
  | _ => cases e
theorem mixN_L {A : Around} (hu : A.units < cLine) {a c : Vl} {x : V} {u : Value} {q : Addr} {us : Array Value} (r : RV G w a x) (rx : RelV x u) (e : vw h a = .sc c) (T : s.heap.IsList q us) :
    SeqAt.RcNeAt A s u (.ref q) true ∧ SeqAt.RcNeAt A s (.ref q) u true := by
  cases a with
  | ref n => simp only [vw] at e; split at e <;> cases e
  | non => cases r; cases (show u = Value.none from rx); exact ⟨.none_list T hu, .list_none T hu⟩
  | bl b => cases r; cases (show u = Value.bool b from rx); exact ⟨.bool_list _ T hu, .list_bool _ T hu⟩
  | int b => cases r; obtain ⟨t, rfl⟩ := (show ∃ t, u = Value.int b t from rx); exact ⟨.int_list _ _ T hu, .list_int _ _ T hu⟩
  | str b => cases r; obtain ⟨t, rfl⟩ := (show ∃ t, u = Value.str b t from rx); exact ⟨.str_list _ _ T hu, .list_str _ _ T hu⟩
  | _ => cases e
theorem eqF_rcN (I : Inv X pins σ w.H s) (hK : X.K = G.K) (S : Sim G w h) (n : Nat) {A : Around} (hu : A.units < cLine)
    (ih : ∀ a b x y u v k, RV G w a x → RV G w b y → RelV x u → RelV y v → eqF n h a b = some k → SeqAt.EqP X.prog X.w A.in1 s u v k)
    {a b : Vl} {x y : V} {u v : Value} {k : Bool} (ra : RV G w a x) (rb : RV G w b y) (rx : RelV x u) (ry : RelV y v) (e : eqF (n + 1) h a b = some k) :
    (flatV x = true ∧ flatV y = true ∧ k = L2.eqV x y) ∨ (¬ (flatV x = true ∧ flatV y = true) ∧ ∀ (E Q : Value → Shared → Prop), Q (.bool (!k)) s → wpAny (model X.prog X.w) A (richCompare .NotEq u v) Q E s) := by
  simp only [eqF] at e
  split at e
  · rename_i u v e1 e2
    obtain ⟨rfl, f⟩ := vw_sc ra e1
    obtain ⟨rfl, f'⟩ := vw_sc rb e2
    exact .inl ⟨f, f', scEq_ok ra rb e⟩
  · rename_i l m e1 e2
    obtain ⟨p, xs, rfl, h1, r1⟩ := vw_L S ra e1
    obtain ⟨q, ys, rfl, h2, r2⟩ := vw_L S rb e2
    refine .inr ⟨fun z => (by cases z.1), ?_⟩
    cases rx; cases ry
    obtain ⟨us, v1, p1, _⟩ := I.list (hK ▸ h1)
    obtain ⟨vs, v2, p2, _⟩ := I.list (hK ▸ h2)
    have l1 := r1.length.trans v1.length
    have l2 := r2.length.trans v2.length
    intro E Q hq
    by_cases hl : l.length = m.length
    · rw [if_pos hl] at e
      obtain ⟨g, g1, g2⟩ := allEq_at ih r1 r2 v1 v2 e
      rw [g2] at hq
      exact rcN_lists (A := A) p1.isList p2.isList (g := g) (by simp; omega) hu (fun j h1 h2 => by simpa using g1 j (by simpa using h1) (by simpa using h2)) E Q (by simpa using hq)
    · rw [if_neg hl] at e
      cases e
      exact SeqAt.RcNeAt.lists_lengths p1.isList p2.isList (by simp; omega) hu _ _ E Q hq
  · rename_i l m e1 e2
    obtain ⟨p, xs, rfl, h1, r1⟩ := vw_T ra e1
    obtain ⟨q, ys, rfl, h2, r2⟩ := vw_T rb e2
    refine .inr ⟨fun z => (by cases z.1), ?_⟩
    cases rx; cases ry
    obtain ⟨us, v1, p1, _⟩ := I.tuple (hK ▸ h1)
    obtain ⟨vs, v2, p2, _⟩ := I.tuple (hK ▸ h2)
    intro E Q hq
    obtain ⟨g, g1, g2⟩ := allEqT_at ih r1 r2 v1 v2 e
    rw [g2] at hq
    exact rcN_tups (A := A) (show s.heap.IsTuple p us.toArray from p1) (show s.heap.IsTuple q vs.toArray from p2) (g := g) hu (fun j h1 h2 => by simpa using g1 j (by simpa using h1) (by simpa using h2)) E Q (by simpa using hq)
  · rename_i l m e1 e2
    obtain ⟨p, xs, rfl, h1, r1⟩ := vw_D S ra e1
    obtain ⟨q, ys, rfl, h2, r2⟩ := vw_D S rb e2
    refine .inr ⟨fun z => (by cases z.1), ?_⟩
    cases rx; cases ry
    obtain ⟨_, sa, va, k1, d1⟩ := dk_rd I.hok h1
    obtain ⟨_, sb, vb, k2, d2⟩ := dk_rd I.hok h2
    have l1 := r1.length.trans (Paired.length k1)
    have l2 := r2.length.trans (Paired.length k2)
    intro E Q hq
    by_cases hl : l.length = m.length
    · rw [if_pos hl] at e
      refine rcN_dicts (knd := mixKind X.prog X.w) (r := k) sa sb d1 d2 hu (fun _ => dctEq_at ih r2 k2 r1 k1 e) E Q ?_
      rw [show (va.length == vb.length && k) = k from by rw [← l1, ← l2, hl]; simp]
      exact hq
    · rw [if_neg hl] at e
      cases e
      refine rcN_dicts (knd := mixKind X.prog X.w) (r := false) sa sb d1 d2 hu (fun z => absurd (l1.trans (z.trans l2.symm)) hl) E Q ?_
      rw [Bool.and_false]
      exact hq
  · rename_i l m e1 e2
    cases e
    obtain ⟨q, ys, rfl, h2, r2⟩ := vw_T rb e2
    cases ry
    obtain ⟨vs, v2, p2, _⟩ := I.tuple (hK ▸ h2)
    obtain ⟨z1, _⟩ := mixN_T hu ra rx e1 p2
    exact .inr ⟨fun z => (by cases z.2), fun E Q hq => z1 _ _ E Q hq⟩
  · rename_i l m e1 e2
    cases e
    obtain ⟨q, ys, rfl, h2, r2⟩ := vw_T ra e1
    cases rx
    obtain ⟨vs, v2, p2, _⟩ := I.tuple (hK ▸ h2)
    obtain ⟨_, z1⟩ := mixN_T hu rb ry e2 p2
    exact .inr ⟨fun z => (by cases z.1), fun E Q hq => z1 _ _ E Q hq⟩
  · rename_i l m e1 e2
    cases e
    obtain ⟨q, ys, rfl, h2, r2⟩ := vw_L S rb e2
    cases ry
    obtain ⟨vs, v2, p2, _⟩ := I.list (hK ▸ h2)
    obtain ⟨z1, _⟩ := mixN_L hu ra rx e1 p2.isList
    exact .inr ⟨fun z => (by cases z.2), fun E Q hq => z1 _ _ E Q hq⟩
  · rename_i l m e1 e2
    cases e
    obtain ⟨q, ys, rfl, h2, r2⟩ := vw_L S ra e1
    cases rx
    obtain ⟨vs, v2, p2, _⟩ := I.list (hK ▸ h2)
    obtain ⟨_, z1⟩ := mixN_L hu rb ry e2 p2.isList
    exact .inr ⟨fun z => (by cases z.1), fun E Q hq => z1 _ _ E Q hq⟩
  · rename_i l m e1 e2
    cases e
    obtain ⟨p, xs, rfl, h1, r1⟩ := vw_L S ra e1
    obtain ⟨q, ys, rfl, h2, r2⟩ := vw_T rb e2
    cases rx; cases ry
    obtain ⟨us, v1, p1, _⟩ := I.list (hK ▸ h1)
    obtain ⟨vs, v2, p2, _⟩ := I.tuple (hK ▸ h2)
    exact .inr ⟨fun z => (by cases z.1), fun E Q hq => SeqAt.RcNeAt.list_tuple p1.isList p2 hu _ _ E Q hq⟩
  · rename_i l m e1 e2
    cases e
    obtain ⟨p, xs, rfl, h1, r1⟩ := vw_T ra e1
    obtain ⟨q, ys, rfl, h2, r2⟩ := vw_L S rb e2
    cases rx; cases ry
    obtain ⟨us, v1, p1, _⟩ := I.tuple (hK ▸ h1)
    obtain ⟨vs, v2, p2, _⟩ := I.list (hK ▸ h2)
    exact .inr ⟨fun z => (by cases z.1), fun E Q hq => SeqAt.RcNeAt.tuple_list p1 p2.isList hu _ _ E Q hq⟩
  · cases e
end
end Core
end

section
set_option Elab.async false
set_option linter.all false
set_option maxRecDepth 100000
set_option maxHeartbeats 4000000
set_option autoImplicit false
/-! Core6o: order of tuples. -/
namespace Core
open PySem L2 PyProof.Rows
section
variable {prog : Program} {ww : World} {s : Shared}
theorem tuple_ltI (p q : Addr) (us vs : Array Value) (n n' : Nat) (d1 d2 : Option Addr) (s1 s2 : Array (Option Value)) (g r : Nat → Bool) :
    MeetsIn prog ww (Builtin.«tuple.__lt__» ⟨[.ref p, .ref q], []⟩)
      (fun A R s => s.heap.get? p = some { cls := .type "tuple", dict := d1, data := .seq us n, slots := s1 } ∧ s.heap.get? q = some { cls := .type "tuple", dict := d2, data := .seq vs n', slots := s2 } ∧
        (∀ j (h1 : j < us.size) (h2 : j < vs.size), SeqAt.EqP prog ww A.in1 s us[j] vs[j] (g j)) ∧
        (∀ j (h1 : j < us.size) (h2 : j < vs.size), g j = false → ∀ (E Q : Value → Shared → Prop), Q (.bool (r j)) s → wpAny (model prog ww) A.in1 (richCompare .Lt us[j] vs[j]) Q E s) ∧
        R (.ok (.ret (.bool (Ob.lexAt g r (decide (us.size < vs.size)) 0 (min us.size vs.size))))) s) := by
  intro A R s h
  obtain ⟨hp, gg, d, tk, os⟩ := s
  obtain ⟨e1, e2, turns, falls, fin⟩ := h
  have f0 := AutoSeq1.sub_tuple_tuple
  have hl : (us.toList.zip vs.toList).length = min us.size vs.size := by simp
  wp_walk using AutoSeq1.wpAny_loadPart' e1, AutoSeq1.wpAny_loadPart' e2, wpAny_forIn_list _ (fun rest b s' => b.1 = none ∧ s' = ⟨hp, gg, d, tk, os⟩ ∧ ∃ i, rest = (us.toList.zip vs.toList).drop i ∧
    R (.ok (.ret (.bool (Ob.lexAt g r (decide (us.size < vs.size)) i (min us.size vs.size - i))))) ⟨hp, gg, d, tk, os⟩) _
  case turn =>
    rintro ⟨y, x⟩ rest b s' ⟨b0, rfl, i, hz, hR⟩
    have lt : i < (us.toList.zip vs.toList).length := by
      by_cases z : i < (us.toList.zip vs.toList).length
      · exact z
      · rw [List.drop_of_length_le (by omega)] at hz; cases hz
    have lm : i < min us.size vs.size := by omega
    have l1 : i < us.size := by omega
    have l2 : i < vs.size := by omega
    rw [List.drop_eq_getElem_cons lt] at hz
    injection hz with hyx hr
    obtain rfl : y = us[i] := by have := congrArg Prod.fst hyx; simpa using this
    obtain rfl : x = vs[i] := by have := congrArg Prod.snd hyx; simpa using this
    rw [show min us.size vs.size - i = (min us.size vs.size - (i + 1)) + 1 by omega, Ob.lexAt_succ] at hR
    refine wpAny_bind (turns i l1 l2 _ _ ?_)
    cases hy : g i with
    | true =>
      rw [hy, if_pos rfl] at hR
      wp_walk
      exact ⟨rfl, rfl, i + 1, hr, hR⟩
    | false =>
      rw [hy, if_neg Bool.false_ne_true] at hR
      have fall := falls i l1 l2 hy
      wp_walk using fall
      simpa using hR
  case fin =>
    rintro ⟨b1, b2⟩ s' ⟨b0, rfl, i, hz, hR⟩
    simp only at b0
    subst b0
    have ge : min us.size vs.size ≤ i := by
      by_cases z : i < (us.toList.zip vs.toList).length
      · rw [List.drop_eq_getElem_cons z] at hz; cases hz
      · omega
    rw [Nat.sub_eq_zero_of_le ge, Ob.lexAt_zero] at hR
    wp_walk
    simpa [Builtin.Tuple.tupleCompareSizes] using hR
  case h => exact ⟨rfl, rfl, 0, rfl, by simpa using fin⟩
theorem rcO_lt {A : Around} {p q : Addr} {us vs : Array Value} {g r : Nat → Bool} (hp : s.heap.IsTuple p us) (hq : s.heap.IsTuple q vs) (hu : A.units < cLine)
    (turns : ∀ j (h1 : j < us.size) (h2 : j < vs.size), SeqAt.EqP prog ww A.in1 s us[j] vs[j] (g j))
    (falls : ∀ j (h1 : j < us.size) (h2 : j < vs.size), g j = false → ∀ (E Q : Value → Shared → Prop), Q (.bool (r j)) s → wpAny (model prog ww) A.in1 (richCompare .Lt us[j] vs[j]) Q E s) (E Q : Value → Shared → Prop) (fin : Q (.bool (Ob.lexAt g r (decide (us.size < vs.size)) 0 (min us.size vs.size))) s) :
    wpAny (model prog ww) A (richCompare .Lt (.ref p) (.ref q)) Q E s := by
  obtain ⟨⟨c1, d1, t1, s1⟩, o1, e1, n1, f1⟩ := id hp
  obtain ⟨⟨c2, d2, t2, s2⟩, o2, e2, n2, f2⟩ := id hq
  simp only at e1 f1 e2 f2
  subst e1 f1 e2 f2
  have a1 : s.TypeIs (.ref p) "tuple" := ⟨_, o1, rfl⟩
  have a2 : s.TypeIs (.ref q) "tuple" := ⟨_, o2, rfl⟩
  exact wpAny_richCompare_same_room (op := .Lt) a1 a2 F.slot_tuple_lt (call_meetsIn F.slot_tuple_lt a1 F.entry_tuple_lt (F.args_tuple_lt_2 _ _) (tuple_ltI p q us vs n1 n2 d1 d2 s1 s2 g r)
    ⟨o1, o2, turns, falls, show Value.bool (Ob.lexAt g r (decide (us.size < vs.size)) 0 (min us.size vs.size)) ≠ Value.notImplemented ∧ Q (.bool (Ob.lexAt g r (decide (us.size < vs.size)) 0 (min us.size vs.size))) s from ⟨(fun x => nomatch x), fin⟩⟩) hu
theorem tuple_leI (p q : Addr) (us vs : Array Value) (n n' : Nat) (d1 d2 : Option Addr) (s1 s2 : Array (Option Value)) (g r : Nat → Bool) :
    MeetsIn prog ww (Builtin.«tuple.__le__» ⟨[.ref p, .ref q], []⟩)
      (fun A R s => s.heap.get? p = some { cls := .type "tuple", dict := d1, data := .seq us n, slots := s1 } ∧ s.heap.get? q = some { cls := .type "tuple", dict := d2, data := .seq vs n', slots := s2 } ∧
        (∀ j (h1 : j < us.size) (h2 : j < vs.size), SeqAt.EqP prog ww A.in1 s us[j] vs[j] (g j)) ∧
        (∀ j (h1 : j < us.size) (h2 : j < vs.size), g j = false → ∀ (E Q : Value → Shared → Prop), Q (.bool (r j)) s → wpAny (model prog ww) A.in1 (richCompare .LtE us[j] vs[j]) Q E s) ∧
        R (.ok (.ret (.bool (Ob.lexAt g r (decide (us.size ≤ vs.size)) 0 (min us.size vs.size))))) s) := by
  intro A R s h
  obtain ⟨hp, gg, d, tk, os⟩ := s
  obtain ⟨e1, e2, turns, falls, fin⟩ := h
  have f0 := AutoSeq1.sub_tuple_tuple
  have hl : (us.toList.zip vs.toList).length = min us.size vs.size := by simp
  wp_walk using AutoSeq1.wpAny_loadPart' e1, AutoSeq1.wpAny_loadPart' e2, wpAny_forIn_list _ (fun rest b s' => b.1 = none ∧ s' = ⟨hp, gg, d, tk, os⟩ ∧ ∃ i, rest = (us.toList.zip vs.toList).drop i ∧
    R (.ok (.ret (.bool (Ob.lexAt g r (decide (us.size ≤ vs.size)) i (min us.size vs.size - i))))) ⟨hp, gg, d, tk, os⟩) _
  case turn =>
    rintro ⟨y, x⟩ rest b s' ⟨b0, rfl, i, hz, hR⟩
    have lt : i < (us.toList.zip vs.toList).length := by
      by_cases z : i < (us.toList.zip vs.toList).length
      · exact z
      · rw [List.drop_of_length_le (by omega)] at hz; cases hz
    have lm : i < min us.size vs.size := by omega
    have l1 : i < us.size := by omega
    have l2 : i < vs.size := by omega
    rw [List.drop_eq_getElem_cons lt] at hz
    injection hz with hyx hr
    obtain rfl : y = us[i] := by have := congrArg Prod.fst hyx; simpa using this
    obtain rfl : x = vs[i] := by have := congrArg Prod.snd hyx; simpa using this
    rw [show min us.size vs.size - i = (min us.size vs.size - (i + 1)) + 1 by omega, Ob.lexAt_succ] at hR
    refine wpAny_bind (turns i l1 l2 _ _ ?_)
    cases hy : g i with
    | true =>
      rw [hy, if_pos rfl] at hR
      wp_walk
      exact ⟨rfl, rfl, i + 1, hr, hR⟩
    | false =>
      rw [hy, if_neg Bool.false_ne_true] at hR
      have fall := falls i l1 l2 hy
      wp_walk using fall
      simpa using hR
  case fin =>
    rintro ⟨b1, b2⟩ s' ⟨b0, rfl, i, hz, hR⟩
    simp only at b0
    subst b0
    have ge : min us.size vs.size ≤ i := by
      by_cases z : i < (us.toList.zip vs.toList).length
      · rw [List.drop_eq_getElem_cons z] at hz; cases hz
      · omega
    rw [Nat.sub_eq_zero_of_le ge, Ob.lexAt_zero] at hR
    wp_walk
    simpa [Builtin.Tuple.tupleCompareSizes] using hR
  case h => exact ⟨rfl, rfl, 0, rfl, by simpa using fin⟩
theorem rcO_le {A : Around} {p q : Addr} {us vs : Array Value} {g r : Nat → Bool} (hp : s.heap.IsTuple p us) (hq : s.heap.IsTuple q vs) (hu : A.units < cLine)
    (turns : ∀ j (h1 : j < us.size) (h2 : j < vs.size), SeqAt.EqP prog ww A.in1 s us[j] vs[j] (g j))
    (falls : ∀ j (h1 : j < us.size) (h2 : j < vs.size), g j = false → ∀ (E Q : Value → Shared → Prop), Q (.bool (r j)) s → wpAny (model prog ww) A.in1 (richCompare .LtE us[j] vs[j]) Q E s) (E Q : Value → Shared → Prop) (fin : Q (.bool (Ob.lexAt g r (decide (us.size ≤ vs.size)) 0 (min us.size vs.size))) s) :
    wpAny (model prog ww) A (richCompare .LtE (.ref p) (.ref q)) Q E s := by
  obtain ⟨⟨c1, d1, t1, s1⟩, o1, e1, n1, f1⟩ := id hp
  obtain ⟨⟨c2, d2, t2, s2⟩, o2, e2, n2, f2⟩ := id hq
  simp only at e1 f1 e2 f2
  subst e1 f1 e2 f2
  have a1 : s.TypeIs (.ref p) "tuple" := ⟨_, o1, rfl⟩
  have a2 : s.TypeIs (.ref q) "tuple" := ⟨_, o2, rfl⟩
  exact wpAny_richCompare_same_room (op := .LtE) a1 a2 F.slot_tuple_le (call_meetsIn F.slot_tuple_le a1 F.entry_tuple_le (F.args_tuple_le_2 _ _) (tuple_leI p q us vs n1 n2 d1 d2 s1 s2 g r)
    ⟨o1, o2, turns, falls, show Value.bool (Ob.lexAt g r (decide (us.size ≤ vs.size)) 0 (min us.size vs.size)) ≠ Value.notImplemented ∧ Q (.bool (Ob.lexAt g r (decide (us.size ≤ vs.size)) 0 (min us.size vs.size))) s from ⟨(fun x => nomatch x), fin⟩⟩) hu
theorem tuple_gtI (p q : Addr) (us vs : Array Value) (n n' : Nat) (d1 d2 : Option Addr) (s1 s2 : Array (Option Value)) (g r : Nat → Bool) :
    MeetsIn prog ww (Builtin.«tuple.__gt__» ⟨[.ref p, .ref q], []⟩)
      (fun A R s => s.heap.get? p = some { cls := .type "tuple", dict := d1, data := .seq us n, slots := s1 } ∧ s.heap.get? q = some { cls := .type "tuple", dict := d2, data := .seq vs n', slots := s2 } ∧
        (∀ j (h1 : j < us.size) (h2 : j < vs.size), SeqAt.EqP prog ww A.in1 s us[j] vs[j] (g j)) ∧
        (∀ j (h1 : j < us.size) (h2 : j < vs.size), g j = false → ∀ (E Q : Value → Shared → Prop), Q (.bool (r j)) s → wpAny (model prog ww) A.in1 (richCompare .Gt us[j] vs[j]) Q E s) ∧
        R (.ok (.ret (.bool (Ob.lexAt g r (decide (us.size > vs.size)) 0 (min us.size vs.size))))) s) := by
  intro A R s h
  obtain ⟨hp, gg, d, tk, os⟩ := s
  obtain ⟨e1, e2, turns, falls, fin⟩ := h
  have f0 := AutoSeq1.sub_tuple_tuple
  have hl : (us.toList.zip vs.toList).length = min us.size vs.size := by simp
  wp_walk using AutoSeq1.wpAny_loadPart' e1, AutoSeq1.wpAny_loadPart' e2, wpAny_forIn_list _ (fun rest b s' => b.1 = none ∧ s' = ⟨hp, gg, d, tk, os⟩ ∧ ∃ i, rest = (us.toList.zip vs.toList).drop i ∧
    R (.ok (.ret (.bool (Ob.lexAt g r (decide (us.size > vs.size)) i (min us.size vs.size - i))))) ⟨hp, gg, d, tk, os⟩) _
  case turn =>
    rintro ⟨y, x⟩ rest b s' ⟨b0, rfl, i, hz, hR⟩
    have lt : i < (us.toList.zip vs.toList).length := by
      by_cases z : i < (us.toList.zip vs.toList).length
      · exact z
      · rw [List.drop_of_length_le (by omega)] at hz; cases hz
    have lm : i < min us.size vs.size := by omega
    have l1 : i < us.size := by omega
    have l2 : i < vs.size := by omega
    rw [List.drop_eq_getElem_cons lt] at hz
    injection hz with hyx hr
    obtain rfl : y = us[i] := by have := congrArg Prod.fst hyx; simpa using this
    obtain rfl : x = vs[i] := by have := congrArg Prod.snd hyx; simpa using this
    rw [show min us.size vs.size - i = (min us.size vs.size - (i + 1)) + 1 by omega, Ob.lexAt_succ] at hR
    refine wpAny_bind (turns i l1 l2 _ _ ?_)
    cases hy : g i with
    | true =>
      rw [hy, if_pos rfl] at hR
      wp_walk
      exact ⟨rfl, rfl, i + 1, hr, hR⟩
    | false =>
      rw [hy, if_neg Bool.false_ne_true] at hR
      have fall := falls i l1 l2 hy
      wp_walk using fall
      simpa using hR
  case fin =>
    rintro ⟨b1, b2⟩ s' ⟨b0, rfl, i, hz, hR⟩
    simp only at b0
    subst b0
    have ge : min us.size vs.size ≤ i := by
      by_cases z : i < (us.toList.zip vs.toList).length
      · rw [List.drop_eq_getElem_cons z] at hz; cases hz
      · omega
    rw [Nat.sub_eq_zero_of_le ge, Ob.lexAt_zero] at hR
    wp_walk
    simpa [Builtin.Tuple.tupleCompareSizes] using hR
  case h => exact ⟨rfl, rfl, 0, rfl, by simpa using fin⟩
theorem rcO_gt {A : Around} {p q : Addr} {us vs : Array Value} {g r : Nat → Bool} (hp : s.heap.IsTuple p us) (hq : s.heap.IsTuple q vs) (hu : A.units < cLine)
    (turns : ∀ j (h1 : j < us.size) (h2 : j < vs.size), SeqAt.EqP prog ww A.in1 s us[j] vs[j] (g j))
    (falls : ∀ j (h1 : j < us.size) (h2 : j < vs.size), g j = false → ∀ (E Q : Value → Shared → Prop), Q (.bool (r j)) s → wpAny (model prog ww) A.in1 (richCompare .Gt us[j] vs[j]) Q E s) (E Q : Value → Shared → Prop) (fin : Q (.bool (Ob.lexAt g r (decide (us.size > vs.size)) 0 (min us.size vs.size))) s) :
    wpAny (model prog ww) A (richCompare .Gt (.ref p) (.ref q)) Q E s := by
  obtain ⟨⟨c1, d1, t1, s1⟩, o1, e1, n1, f1⟩ := id hp
  obtain ⟨⟨c2, d2, t2, s2⟩, o2, e2, n2, f2⟩ := id hq
  simp only at e1 f1 e2 f2
  subst e1 f1 e2 f2
  have a1 : s.TypeIs (.ref p) "tuple" := ⟨_, o1, rfl⟩
  have a2 : s.TypeIs (.ref q) "tuple" := ⟨_, o2, rfl⟩
  exact wpAny_richCompare_same_room (op := .Gt) a1 a2 F.slot_tuple_gt (call_meetsIn F.slot_tuple_gt a1 F.entry_tuple_gt (F.args_tuple_gt_2 _ _) (tuple_gtI p q us vs n1 n2 d1 d2 s1 s2 g r)
    ⟨o1, o2, turns, falls, show Value.bool (Ob.lexAt g r (decide (us.size > vs.size)) 0 (min us.size vs.size)) ≠ Value.notImplemented ∧ Q (.bool (Ob.lexAt g r (decide (us.size > vs.size)) 0 (min us.size vs.size))) s from ⟨(fun x => nomatch x), fin⟩⟩) hu
theorem tuple_geI (p q : Addr) (us vs : Array Value) (n n' : Nat) (d1 d2 : Option Addr) (s1 s2 : Array (Option Value)) (g r : Nat → Bool) :
    MeetsIn prog ww (Builtin.«tuple.__ge__» ⟨[.ref p, .ref q], []⟩)
      (fun A R s => s.heap.get? p = some { cls := .type "tuple", dict := d1, data := .seq us n, slots := s1 } ∧ s.heap.get? q = some { cls := .type "tuple", dict := d2, data := .seq vs n', slots := s2 } ∧
        (∀ j (h1 : j < us.size) (h2 : j < vs.size), SeqAt.EqP prog ww A.in1 s us[j] vs[j] (g j)) ∧
        (∀ j (h1 : j < us.size) (h2 : j < vs.size), g j = false → ∀ (E Q : Value → Shared → Prop), Q (.bool (r j)) s → wpAny (model prog ww) A.in1 (richCompare .GtE us[j] vs[j]) Q E s) ∧
        R (.ok (.ret (.bool (Ob.lexAt g r (decide (us.size ≥ vs.size)) 0 (min us.size vs.size))))) s) := by
  intro A R s h
  obtain ⟨hp, gg, d, tk, os⟩ := s
  obtain ⟨e1, e2, turns, falls, fin⟩ := h
  have f0 := AutoSeq1.sub_tuple_tuple
  have hl : (us.toList.zip vs.toList).length = min us.size vs.size := by simp
  wp_walk using AutoSeq1.wpAny_loadPart' e1, AutoSeq1.wpAny_loadPart' e2, wpAny_forIn_list _ (fun rest b s' => b.1 = none ∧ s' = ⟨hp, gg, d, tk, os⟩ ∧ ∃ i, rest = (us.toList.zip vs.toList).drop i ∧
    R (.ok (.ret (.bool (Ob.lexAt g r (decide (us.size ≥ vs.size)) i (min us.size vs.size - i))))) ⟨hp, gg, d, tk, os⟩) _
  case turn =>
    rintro ⟨y, x⟩ rest b s' ⟨b0, rfl, i, hz, hR⟩
    have lt : i < (us.toList.zip vs.toList).length := by
      by_cases z : i < (us.toList.zip vs.toList).length
      · exact z
      · rw [List.drop_of_length_le (by omega)] at hz; cases hz
    have lm : i < min us.size vs.size := by omega
    have l1 : i < us.size := by omega
    have l2 : i < vs.size := by omega
    rw [List.drop_eq_getElem_cons lt] at hz
    injection hz with hyx hr
    obtain rfl : y = us[i] := by have := congrArg Prod.fst hyx; simpa using this
    obtain rfl : x = vs[i] := by have := congrArg Prod.snd hyx; simpa using this
    rw [show min us.size vs.size - i = (min us.size vs.size - (i + 1)) + 1 by omega, Ob.lexAt_succ] at hR
    refine wpAny_bind (turns i l1 l2 _ _ ?_)
    cases hy : g i with
    | true =>
      rw [hy, if_pos rfl] at hR
      wp_walk
      exact ⟨rfl, rfl, i + 1, hr, hR⟩
    | false =>
      rw [hy, if_neg Bool.false_ne_true] at hR
      have fall := falls i l1 l2 hy
      wp_walk using fall
      simpa using hR
  case fin =>
    rintro ⟨b1, b2⟩ s' ⟨b0, rfl, i, hz, hR⟩
    simp only at b0
    subst b0
    have ge : min us.size vs.size ≤ i := by
      by_cases z : i < (us.toList.zip vs.toList).length
      · rw [List.drop_eq_getElem_cons z] at hz; cases hz
      · omega
    rw [Nat.sub_eq_zero_of_le ge, Ob.lexAt_zero] at hR
    wp_walk
    simpa [Builtin.Tuple.tupleCompareSizes] using hR
  case h => exact ⟨rfl, rfl, 0, rfl, by simpa using fin⟩
theorem rcO_ge {A : Around} {p q : Addr} {us vs : Array Value} {g r : Nat → Bool} (hp : s.heap.IsTuple p us) (hq : s.heap.IsTuple q vs) (hu : A.units < cLine)
    (turns : ∀ j (h1 : j < us.size) (h2 : j < vs.size), SeqAt.EqP prog ww A.in1 s us[j] vs[j] (g j))
    (falls : ∀ j (h1 : j < us.size) (h2 : j < vs.size), g j = false → ∀ (E Q : Value → Shared → Prop), Q (.bool (r j)) s → wpAny (model prog ww) A.in1 (richCompare .GtE us[j] vs[j]) Q E s) (E Q : Value → Shared → Prop) (fin : Q (.bool (Ob.lexAt g r (decide (us.size ≥ vs.size)) 0 (min us.size vs.size))) s) :
    wpAny (model prog ww) A (richCompare .GtE (.ref p) (.ref q)) Q E s := by
  obtain ⟨⟨c1, d1, t1, s1⟩, o1, e1, n1, f1⟩ := id hp
  obtain ⟨⟨c2, d2, t2, s2⟩, o2, e2, n2, f2⟩ := id hq
  simp only at e1 f1 e2 f2
  subst e1 f1 e2 f2
  have a1 : s.TypeIs (.ref p) "tuple" := ⟨_, o1, rfl⟩
  have a2 : s.TypeIs (.ref q) "tuple" := ⟨_, o2, rfl⟩
  exact wpAny_richCompare_same_room (op := .GtE) a1 a2 F.slot_tuple_ge (call_meetsIn F.slot_tuple_ge a1 F.entry_tuple_ge (F.args_tuple_ge_2 _ _) (tuple_geI p q us vs n1 n2 d1 d2 s1 s2 g r)
    ⟨o1, o2, turns, falls, show Value.bool (Ob.lexAt g r (decide (us.size ≥ vs.size)) 0 (min us.size vs.size)) ≠ Value.notImplemented ∧ Q (.bool (Ob.lexAt g r (decide (us.size ≥ vs.size)) 0 (min us.size vs.size))) s from ⟨(fun x => nomatch x), fin⟩⟩) hu
end
def isOrd (op : COp) : Bool := match op with
  | .lt => true | .le => true | .gt => true | .ge => true | _ => false
theorem ordI_some {op : COp} (h : isOrd op = true) (i j : Int) : ∃ b, ordI op i j = some b := by cases op <;> first | exact ⟨_, rfl⟩ | cases h
theorem lexAt_shift (e r : Nat → Bool) (x y z : Bool) : ∀ k i, Ob.lexAt (fun j => match j with | 0 => x | j + 1 => e j) (fun j => match j with | 0 => y | j + 1 => r j) z (i + 1) k = Ob.lexAt e r z i k
  | 0, i => rfl
  | k + 1, i => by
    rw [Ob.lexAt_succ, Ob.lexAt_succ, lexAt_shift e r x y z k (i + 1)]
section
variable {G : Gs} {X : Cx} {w : Wd} {h : Hv} {pins : List (Addr × Obj)} {σ : L2.St} {s : Shared}
theorem lexO_at {fe fo : Vl → Vl → Option Bool} {A : Around} {op : COp} (ho : isOrd op = true) (hf : ∀ a b x y u v k, RV G w a x → RV G w b y → RelV x u → RelV y v → fe a b = some k → SeqAt.EqP X.prog X.w A s u v k)
    (hg : ∀ a b x y u v k, RV G w a x → RV G w b y → RelV x u → RelV y v → fo a b = some k → ∀ (E Q : Value → Shared → Prop), Q (.bool k) s → wpAny (model X.prog X.w) A (richCompare op.op u v) Q E s) :
    ∀ {l m : List Vl} {xs ys : List V} {us vs : List Value} {k : Bool}, RVs G w l xs → RVs G w m ys → Vals xs us → Vals ys vs → lexO fe fo op l m = some k →
      ∃ e r : Nat → Bool, (∀ j (h1 : j < us.length) (h2 : j < vs.length), SeqAt.EqP X.prog X.w A s us[j] vs[j] (e j)) ∧
        (∀ j (h1 : j < us.length) (h2 : j < vs.length), e j = false → ∀ (E Q : Value → Shared → Prop), Q (.bool (r j)) s → wpAny (model X.prog X.w) A (richCompare op.op us[j] vs[j]) Q E s) ∧
        k = Ob.lexAt e r ((ordI op (us.length : Nat) (vs.length : Nat)).getD false) 0 (min us.length vs.length)
  | [], m, [], ys, us, vs, k, _, rm, q, q', e => by
    cases q
    have l2 := rm.length.trans q'.length
    simp only [lexO] at e
    refine ⟨fun _ => true, fun _ => true, fun j h1 => absurd h1 (Nat.not_lt_zero j), fun j h1 => absurd h1 (Nat.not_lt_zero j), ?_⟩
    simp only [List.length_nil, Nat.zero_min, Ob.lexAt_zero]
    rw [← l2]
    exact (by rw [show ((0 : Nat) : Int) = 0 from rfl, e]; rfl)
  | a :: l, [], x :: xs, [], us, vs, k, ra, _, q, q', e => by
    cases q'
    have l1 := ra.length.trans q.length
    simp only [lexO] at e
    refine ⟨fun _ => true, fun _ => true, fun j _ h1 => absurd h1 (Nat.not_lt_zero j), fun j _ h1 => absurd h1 (Nat.not_lt_zero j), ?_⟩
    simp only [List.length_nil, Nat.min_zero, Ob.lexAt_zero]
    rw [← l1]
    exact (by rw [show ((0 : Nat) : Int) = 0 from rfl, e]; rfl)
  | a :: l, b :: m, _ :: _, _ :: _, us, vs, k, .cons h r, .cons h' r', q0, q0', e => by
    cases q0 with
    | cons q t =>
    cases q0' with
    | cons q' t' =>
    have zz : ∀ n m : Nat, ordI op ((n + 1 : Nat) : Int) ((m + 1 : Nat) : Int) = ordI op (n : Int) (m : Int) := fun n m => by
      cases op <;> simp [ordI]
    simp only [lexO] at e
    split at e
    · rename_i k2 e1 e2
      simp only [Option.some.injEq] at e
      subst e
      obtain ⟨g, p, g1, g2, g3⟩ := lexO_at ho hf hg r r' t t' e2
      refine ⟨fun j => match j with | 0 => true | j + 1 => g j, fun j => match j with | 0 => false | j + 1 => p j, fun j h1 h2 => ?_, fun j h1 h2 hj => ?_, ?_⟩
      · cases j with
        | zero => exact hf _ _ _ _ _ _ _ h h' q q' e1
        | succ j => exact g1 j (Nat.lt_of_succ_lt_succ h1) (Nat.lt_of_succ_lt_succ h2)
      · cases j with
        | zero => cases hj
        | succ j => exact g2 j (Nat.lt_of_succ_lt_succ h1) (Nat.lt_of_succ_lt_succ h2) hj
      · rw [g3]
        simp only [List.length_cons, Nat.succ_min_succ, zz]
        rw [show ∀ c : Nat, Nat.succ c = c + 1 from fun _ => rfl, Ob.lexAt_succ, if_pos rfl, lexAt_shift]
    · rename_i k2 e1 e2
      obtain ⟨g, p, g1, g2, g3⟩ := lexO_at ho hf hg r r' t t' e2
      refine ⟨fun j => match j with | 0 => false | j + 1 => g j, fun j => match j with | 0 => k | j + 1 => p j, fun j h1 h2 => ?_, fun j h1 h2 hj => ?_, ?_⟩
      · cases j with
        | zero => exact hf _ _ _ _ _ _ _ h h' q q' e1
        | succ j => exact g1 j (Nat.lt_of_succ_lt_succ h1) (Nat.lt_of_succ_lt_succ h2)
      · cases j with
        | zero => exact hg _ _ _ _ _ _ _ h h' q q' e
        | succ j => exact g2 j (Nat.lt_of_succ_lt_succ h1) (Nat.lt_of_succ_lt_succ h2) hj
      · simp only [List.length_cons, Nat.succ_min_succ]
        rw [show ∀ c : Nat, Nat.succ c = c + 1 from fun _ => rfl, Ob.lexAt_succ, if_neg Bool.false_ne_true]
    · cases e
theorem ordF_at (I : Inv X pins σ w.H s) (hK : X.K = G.K) (S : Sim G w h) {op : COp} (ho : isOrd op = true) : ∀ (n : Nat) (A : Around), A.units + n < cLine → ∀ a b x y u v k, RV G w a x → RV G w b y → RelV x u → RelV y v → ordF op n h a b = some k →
    ∀ (E Q : Value → Shared → Prop), Q (.bool k) s → wpAny (model X.prog X.w) A (richCompare op.op u v) Q E s
  | 0, _, _, _, _, _, _, _, _, _, _, _, _, _, e => by simp [ordF] at e
  | n + 1, A, hu, a, b, x, y, u, v, k, ra, rb, rx, ry, e => by
    simp only [ordF] at e
    split at e
    · rename_i c d e1 e2
      obtain ⟨rfl, _⟩ := vw_sc ra e1
      obtain ⟨rfl, _⟩ := vw_sc rb e2
      unfold scOrd at e
      split at e
      · cases ra.int'; cases rb.int'
        obtain ⟨t, rfl⟩ := rx
        obtain ⟨t', rfl⟩ := ry
        intro E Q hq
        cases op <;> first | cases ho | skip
        · cases e; exact Ob.RcOp.lt_int _ _ _ _ X.prog X.w E Q hq
        · cases e; exact Ob.RcOp.le_int _ _ _ _ X.prog X.w E Q hq
        · cases e; exact Ob.RcOp.gt_int _ _ _ _ X.prog X.w E Q hq
        · cases e; exact Ob.RcOp.ge_int _ _ _ _ X.prog X.w E Q hq
      · cases ra.bl'; cases rb.bl'
        cases rx; cases ry
        intro E Q hq
        cases op <;> first | cases ho | skip
        · cases e; exact lt_bool hq
        · cases e; exact le_bool hq
        · cases e; exact gt_bool hq
        · cases e; exact ge_bool hq
      · cases e
    · rename_i l m e1 e2
      obtain ⟨p, xs, rfl, h1, r1⟩ := vw_T ra e1
      obtain ⟨q, ys, rfl, h2, r2⟩ := vw_T rb e2
      cases rx; cases ry
      obtain ⟨us, v1, p1, _⟩ := I.tuple (hK ▸ h1)
      obtain ⟨vs, v2, p2, _⟩ := I.tuple (hK ▸ h2)
      intro E Q hq
      obtain ⟨g, r, g1, g2, g3⟩ := lexO_at ho (A := A.in1) (eqF_at I hK S n A.in1 (by show A.units + 1 + n < cLine; omega)) (ordF_at I hK S ho n A.in1 (by show A.units + 1 + n < cLine; omega)) r1 r2 v1 v2 e
      rw [g3] at hq
      have t1 : ∀ j (h1 : j < us.toArray.size) (h2 : j < vs.toArray.size), SeqAt.EqP X.prog X.w A.in1 s us.toArray[j] vs.toArray[j] (g j) := fun j h1 h2 => by simpa using g1 j (by simpa using h1) (by simpa using h2)
      have hA : A.units < cLine := by omega
      cases op <;> first | cases ho | skip
      · exact rcO_lt (A := A) (show s.heap.IsTuple p us.toArray from p1) (show s.heap.IsTuple q vs.toArray from p2) (g := g) (r := r) hA t1 (fun j h1 h2 hj => by simpa [COp.op] using g2 j (by simpa using h1) (by simpa using h2) hj) E Q (by simpa [ordI] using hq)
      · exact rcO_le (A := A) (show s.heap.IsTuple p us.toArray from p1) (show s.heap.IsTuple q vs.toArray from p2) (g := g) (r := r) hA t1 (fun j h1 h2 hj => by simpa [COp.op] using g2 j (by simpa using h1) (by simpa using h2) hj) E Q (by simpa [ordI] using hq)
      · exact rcO_gt (A := A) (show s.heap.IsTuple p us.toArray from p1) (show s.heap.IsTuple q vs.toArray from p2) (g := g) (r := r) hA t1 (fun j h1 h2 hj => by simpa [COp.op] using g2 j (by simpa using h1) (by simpa using h2) hj) E Q (by simpa [ordI] using hq)
      · exact rcO_ge (A := A) (show s.heap.IsTuple p us.toArray from p1) (show s.heap.IsTuple q vs.toArray from p2) (g := g) (r := r) hA t1 (fun j h1 h2 hj => by simpa [COp.op] using g2 j (by simpa using h1) (by simpa using h2) hj) E Q (by simpa [ordI] using hq)
    · cases e
end
end Core
end

section
set_option Elab.async false
set_option linter.all false
set_option maxRecDepth 100000
set_option maxHeartbeats 4000000
set_option autoImplicit false
/-! Core7: the values' operators and the built-ins. -/
namespace Core
open PySem L2 PyProof.Rows

structure XOk (G : Gs) (X : Cx) : Prop where
  K : X.K = G.K
  calm : X.calm = true
  un : X.A.units + 100 < cLine
section
variable {X : Cx} {G : Gs} {E : XK}
/-- two values in, a result out -/
def rd2 (G : Gs) (F : Vl → Vl → Hv → Res Vl) (E : XK) : R2 := fun x y H Q => ∃ w h a b, w.H = H ∧ Sim G w h ∧ RV G w a x ∧ RV G w b y ∧ Post G w (F a b h) Q E
theorem bits_lt (i : Int) : i.natAbs < 2 ^ (natBits i + 1) := by
  unfold natBits
  by_cases h : i.natAbs = 0
  · rw [h]; exact Nat.two_pow_pos _
  · exact (Nat.log2_lt h).mp (Nat.lt_succ_self _)
theorem pow_any {prog : Program} {w : World} {A : Around} {Ex : Value → Shared → Prop} {s : Shared} {a n : Int} {t u : Tok} {Q : Value → Shared → Prop} (hn : 0 ≤ n) (hz : (natBits a + 1 : Int) * n ≤ 100000000)
    (h : Q (.int (a ^ n.toNat) s.toks) { s with toks := s.toks + 1 }) : wpAny (model prog w) A (binaryOp .Pow (.int a t) (.int n u)) Q Ex s := by
  refine pow_int hn ?_ h
  have e : (Builtin.Int.intBits a : Int) ≤ (natBits a + 1 : Int) := by
    have : Builtin.Int.intBits a ≤ natBits a + 1 := by
      unfold Builtin.Int.intBits natBits
      first | omega | (split <;> omega) | (simp; try omega)
    exact_mod_cast this
  exact Int.le_trans (Int.mul_le_mul_of_nonneg_right e hn) (Int.le_trans hz (by decide))
theorem cat_ok : OpR X (binaryOp .Add) (fun x y H Q => ∃ l b xs zs, x = .ref l ∧ y = .ref b ∧ SqL X.K H l xs ∧ SqL X.K H b zs ∧ xs.length + zs.length ≤ sizeLine ∧ ∀ p, H p = none → Q (.ref p) (upd H p (.lst (xs ++ zs)))) := by
  intro pins s σ H x y v u Q I rx ry h
  obtain ⟨l, b, xs, zs, rfl, rfl, hH, hB, hz, q⟩ := h
  cases rx
  cases ry
  obtain ⟨its, r, pl, hl⟩ := I.list hH
  obtain ⟨its2, r2, pl2, hl2⟩ := I.list hB
  obtain ⟨⟨c1, d1, t1, s1⟩, e1, c, n, d⟩ := id pl.isList
  obtain ⟨⟨c2, d2, t2, s2⟩, e2, c', n2, d'⟩ := id pl2.isList
  simp only at c d c' d'
  subst c d c' d'
  have z1 := r.length
  have z2 := r2.length
  refine concat_meets ⟨_, e1, rfl⟩ ⟨_, e2, rfl⟩ noFill_list_add seq_list_add PySem.F.slot_list_add PySem.F.entry_list_add (PySem.F.args_list_add_2 _ _) (list_addW l b its.toArray its2.toArray n n2 d1 d2 s1 s2 (by simp only [List.size_toArray]; omega)) ⟨e1, e2, ?_⟩
  rw [show its.toArray ++ its2.toArray = (its ++ its2).toArray from by simp]
  exact ⟨.ref _, _, I.lnew (t' := s.toks) (r.append r2) (by rw [List.length_append]; omega), rfl, q _ I.fresh⟩
theorem bin_ok (hx : XOk G X) (op : BOp) (fz : Bool) : OpR X (binaryOp op.op) (rd2 G (binF op fz) E) := by
  intro pins s σ H x y v u Q I rx ry ⟨w, h, a, b, e, S, ra, rb, p⟩
  subst e
  unfold binF at p
  split at p
  · cases ra.int'; cases rb.int'
    exact op_add pins s σ _ _ _ v u Q I rx ry ⟨_, _, rfl, rfl, p.ok S (.int _)⟩
  · cases ra.int'; cases rb.int'
    exact op_sub pins s σ _ _ _ v u Q I rx ry ⟨_, _, rfl, rfl, p.ok S (.int _)⟩
  · cases ra.int'; cases rb.int'
    obtain ⟨c, p⟩ := p.chk
    exact op_mulW pins s σ _ _ _ v u Q I rx ry ⟨_, _, rfl, rfl, c, p.ok S (.int _)⟩
  · cases ra.int'; cases rb.int'
    obtain ⟨c, p⟩ := p.chk
    exact op_fdivW pins s σ _ _ _ v u Q I rx ry ⟨_, _, rfl, rfl, c, p.ok S (.int _)⟩
  · cases ra.int'; cases rb.int'
    obtain ⟨c, p⟩ := p.chk
    exact op_mod pins s σ _ _ _ v u Q I rx ry ⟨_, _, rfl, rfl, c, p.ok S (.int _)⟩
  · cases ra.int'; cases rb.int'
    obtain ⟨c, p⟩ := p.chk
    obtain ⟨t, rfl⟩ := rx
    obtain ⟨t', rfl⟩ := ry
    exact pow_any c.1 c.2 ⟨.int _, w.H, I.tok _, ⟨_, rfl⟩, p.ok S (.int _)⟩
  · cases ra.str'; cases rb.str'
    obtain ⟨c, p⟩ := p.chk
    exact op_add_str pins s σ _ _ _ v u Q I rx ry ⟨_, _, rfl, rfl, by rw [← lim_eq]; exact c, p.ok S (.str _)⟩
  · obtain ⟨a1, vs, rfl, h1, r1⟩ := ra.tup'
    obtain ⟨a2, us, rfl, h2, r2⟩ := rb.tup'
    obtain ⟨⟨c, n1, n2⟩, p⟩ := p.chk
    have z1 := r1.length
    have z2 := r2.length
    refine op_catT pins s σ _ _ _ v u Q I rx ry ⟨_, _, vs, us, rfl, rfl, hx.K ▸ h1, hx.K ▸ h2, fun e => ?_, by rw [← lim_eq]; omega, fun e => ?_, fun _ q hq => mkT_ok p S (r1.append r2) hq⟩
    · subst e; exact n1 (List.length_eq_zero_iff.mp z1)
    · subst e; exact absurd (List.length_eq_zero_iff.mp z2) n2
  · split at p
    · rename_i l m e1 e2
      obtain ⟨a1, vs, rfl, h1, r1⟩ := asL_ok S ra e1
      obtain ⟨a2, us, rfl, h2, r2⟩ := asL_ok S rb e2
      obtain ⟨c, p⟩ := p.chk
      have z1 := r1.length
      have z2 := r2.length
      exact cat_ok pins s σ _ _ _ v u Q I rx ry ⟨_, _, vs, us, rfl, rfl, hx.K ▸ h1, hx.K ▸ h2, by rw [← lim_eq]; omega, fun q hq => mkL_ok p S (r1.append r2) hq⟩
    · exact p.elim
  · exact p.elim

/-! ### comparisons -/
theorem scEq_scal {a b : Vl} {x y : V} {k : Bool} {w : Wd} (ra : RV G w a x) (rb : RV G w b y) (e : scEq a b = some k) : scal x y = true ∧ k = decide (x = y) := by
  cases a <;> cases b <;> first | (simp [scEq] at e; done) | skip
  all_goals (cases ra; cases rb; simp only [scEq, Option.some.injEq] at e; subst e; simp [scal])
theorem eq_run {pins : List (Addr × Obj)} {σ : L2.St} {s : Shared} {w : Wd} {h : Hv} (hx : XOk G X) (I : Inv X pins σ w.H s) (S : Sim G w h) {a b : Vl} {x y : V} {u v : Value} {k : Bool} (ra : RV G w a x) (rb : RV G w b y) (rx : RelV x u) (ry : RelV y v)
    (e : Core.eqV h a b = some k) {Q : VK} (q : Q (.bl k) w.H) : wpAny (model X.prog X.w) X.A (compareOp .Eq u v) (EP X pins σ Q) X.xe s := by
  have hu := hx.un
  by_cases z : ∃ c d, vw h a = .sc c ∧ vw h b = .sc d
  · obtain ⟨c, d, e1, e2⟩ := z
    have e' : scEq c d = some k := by
      unfold Core.eqV at e
      simp only [eqF, e1, e2] at e
      exact e
    obtain ⟨rfl, _⟩ := vw_sc ra e1
    obtain ⟨rfl, _⟩ := vw_sc rb e2
    obtain ⟨h1, h2⟩ := scEq_scal ra rb e'
    exact op_eq pins s σ _ _ _ u v Q I rx ry ⟨h1, h2 ▸ q⟩
  · rcases eqF_rc I hx.K S 59 (A := X.A) (by omega) (eqF_at I hx.K S 59 X.A.in1 (by show X.A.units + 1 + 59 < cLine; omega)) ra rb rx ry e with ⟨f1, f2, rfl⟩ | ⟨_, _, rfl, rfl, z⟩ | ⟨_, z, _⟩
    · refine absurd ⟨a, b, ?_⟩ z
      exact ⟨flat_vw ra f1, flat_vw rb f2⟩
    · exact z _ _ ⟨.bl k, w.H, I, rfl, q⟩
    · exact z _ _ ⟨.bl k, w.H, I, rfl, q⟩
where
  flat_vw {a : Vl} {x : V} {w : Wd} {h : Hv} (r : RV G w a x) (f : flatV x = true) : vw h a = .sc a := by
    cases r <;> first | rfl | cases f
theorem ne_run {pins : List (Addr × Obj)} {σ : L2.St} {s : Shared} {w : Wd} {h : Hv} (hx : XOk G X) (I : Inv X pins σ w.H s) (S : Sim G w h) {a b : Vl} {x y : V} {u v : Value} {k : Bool} (ra : RV G w a x) (rb : RV G w b y) (rx : RelV x u) (ry : RelV y v)
    (e : Core.eqV h a b = some k) {Q : VK} (q : Q (.bl (!k)) w.H) : wpAny (model X.prog X.w) X.A (compareOp .NotEq u v) (EP X pins σ Q) X.xe s := by
  have hu := hx.un
  by_cases z : ∃ c d, vw h a = .sc c ∧ vw h b = .sc d
  · obtain ⟨c, d, e1, e2⟩ := z
    have e' : scEq c d = some k := by
      unfold Core.eqV at e
      simp only [eqF, e1, e2] at e
      exact e
    obtain ⟨rfl, _⟩ := vw_sc ra e1
    obtain ⟨rfl, _⟩ := vw_sc rb e2
    obtain ⟨h1, h2⟩ := scEq_scal ra rb e'
    exact op_ne pins s σ _ _ _ u v Q I rx ry ⟨h1, h2 ▸ q⟩
  · rcases eqF_rcN I hx.K S 59 (A := X.A) (by omega) (eqF_at I hx.K S 59 X.A.in1 (by show X.A.units + 1 + 59 < cLine; omega)) ra rb rx ry e with ⟨f1, f2, rfl⟩ | ⟨_, z⟩
    · refine absurd ⟨a, b, ?_⟩ z
      exact ⟨eq_run.flat_vw ra f1, eq_run.flat_vw rb f2⟩
    · exact z _ _ ⟨.bl (!k), w.H, I, rfl, q⟩
theorem flat_of {a : Vl} {x : V} {w : Wd} {h : Hv} {c} (r : RV G w a x) (e : vw h a = .sc c) : a = c ∧ flatV x = true := vw_sc r e
theorem eqV_flat {w : Wd} {h : Hv} {a b : Vl} {x y : V} {k : Bool} (ra : RV G w a x) (rb : RV G w b y) (f1 : flatV x = true) (f2 : flatV y = true) (e : Core.eqV h a b = some k) : k = L2.eqV x y := by
  unfold Core.eqV at e
  simp only [eqF, eq_run.flat_vw ra f1, eq_run.flat_vw rb f2] at e
  exact scEq_ok ra rb e
def rdB (G : Gs) (F : Vl → Vl → Hv → Option Bool) (E : XK) : R2 := fun x y H Q => ∃ w h a b, w.H = H ∧ Sim G w h ∧ RV G w a x ∧ RV G w b y ∧ Post G w (ofO ((F a b h).map .bl) h) Q E
theorem Post.bool {w : Wd} {h : Hv} {Q : VK} {o : Option Bool} (p : Post G w (ofO (o.map .bl) h) Q E) (S : Sim G w h) : ∃ k, o = some k ∧ Q (.bl k) w.H := by
  obtain ⟨a, e, p⟩ := p.ofO
  cases o with
  | none => cases e
  | some k => cases e; exact ⟨k, rfl, p.ok S (.bl k)⟩
theorem key_shape {v x k} {w : Wd} (r : RV G w v x) (e : keyOf v = some k) : x = kV k := keyOf_ok r e
theorem bl_beq (a b : Bool) : (Value.bool a == Value.bool b) = decide (a = b) := by
  by_cases e : a = b
  · subst e
    exact (beq_self_eq_true (Value.bool a)).trans (decide_eq_true (p := a = a) rfl).symm
  · exact (beq_eq_false_iff_ne.mpr fun z => e (Value.bool.inj z)).trans (decide_eq_false e).symm
theorem op_isBl : OpR X (compareOp .Is) (fun x y H Q => ∃ a b, x = .bl a ∧ y = .bl b ∧ Q (.bl (decide (a = b))) H) := by
  intro pins s σ H x y v u Q I rx ry h
  obtain ⟨a, b, rfl, rfl, q⟩ := h
  cases (show v = Value.bool a from rx)
  cases (show u = Value.bool b from ry)
  exact wpAny_is_plain rfl (fin_bl I q (bl_beq a b).symm)
theorem cmp_ok (hx : XOk G X) (op : COp) : OpR X (compareOp op.op) (rdB G (cmpF op) E) := by
  intro pins s σ H x y v u Q I rx ry ⟨w, h, a, b, e, S, ra, rb, p⟩
  subst e
  obtain ⟨k, e, q⟩ := p.bool S
  have hu := hx.un
  cases op with
  | eq => exact eq_run hx I S ra rb rx ry e q
  | ne =>
    simp only [cmpF, Option.map_eq_some_iff] at e
    obtain ⟨k', e, rfl⟩ := e
    exact ne_run hx I S ra rb rx ry e q
  | lt =>
    simp only [cmpF] at e
    split at e
    · exact ordF_at I hx.K S (op := .lt) rfl 60 X.A (by omega) _ _ _ _ _ _ _ ra rb rx ry e X.xe (EP X pins σ Q) ⟨.bl k, w.H, I, rfl, q⟩
    · exact lt_run I ra rb rx ry e q
  | gt =>
    simp only [cmpF] at e
    split at e
    · exact ordF_at I hx.K S (op := .gt) rfl 60 X.A (by omega) _ _ _ _ _ _ _ ra rb rx ry e X.xe (EP X pins σ Q) ⟨.bl k, w.H, I, rfl, q⟩
    · exact gt_run I ra rb rx ry e q
  | le =>
    simp only [cmpF] at e
    split at e
    · cases ra.int'; cases rb.int'; cases e
      exact op_le pins s σ _ _ _ v u Q I rx ry ⟨_, _, rfl, rfl, q⟩
    · exact ordF_at I hx.K S (op := .le) rfl 60 X.A (by omega) _ _ _ _ _ _ _ ra rb rx ry e X.xe (EP X pins σ Q) ⟨.bl k, w.H, I, rfl, q⟩
    · cases e
  | ge =>
    simp only [cmpF] at e
    split at e
    · cases ra.int'; cases rb.int'; cases e
      exact op_ge pins s σ _ _ _ v u Q I rx ry ⟨_, _, rfl, rfl, q⟩
    · exact ordF_at I hx.K S (op := .ge) rfl 60 X.A (by omega) _ _ _ _ _ _ _ ra rb rx ry e X.xe (EP X pins σ Q) ⟨.bl k, w.H, I, rfl, q⟩
    · cases e
  | is_ =>
    simp only [cmpF] at e
    split at e
    · cases rb.non'
      refine op_isN pins s σ _ _ _ v u Q I rx ry ⟨rfl, ?_⟩
      cases e
      cases ra <;> simpa using q
    · split at e
      · cases rb.bl'; cases ra.bl'
        cases e
        exact op_isBl pins s σ _ _ _ v u Q I rx ry ⟨_, _, rfl, rfl, q⟩
      · cases e
    · cases e
  | isnot =>
    simp only [cmpF] at e
    split at e
    · cases rb.non'
      refine op_notN pins s σ _ _ _ v u Q I rx ry ⟨rfl, ?_⟩
      cases e
      cases ra <;> simpa using q
    · cases e
  | in_ => exact in_run1 hx I S ra rb rx ry e q
  | notin =>
    simp only [cmpF, Option.map_eq_some_iff] at e
    obtain ⟨k', e, rfl⟩ := e
    exact in_run2 hx I S ra rb rx ry e q
where
  lt_run {pins : List (Addr × Obj)} {σ : L2.St} {s : Shared} {w : Wd} {h : Hv} {a b : Vl} {x y : V} {u v : Value} {k : Bool} {Q : VK} (I : Inv X pins σ w.H s) (ra : RV G w a x) (rb : RV G w b y) (rx : RelV x v) (ry : RelV y u)
      (e : Core.ltV h a b = some k) (q : Q (.bl k) w.H) : wpAny (model X.prog X.w) X.A (compareOp .Lt v u) (EP X pins σ Q) X.xe s := by
    simp only [Core.ltV, ltF] at e
    split at e
    · rename_i c d e1 e2
      obtain ⟨rfl, _⟩ := vw_sc ra e1
      obtain ⟨rfl, _⟩ := vw_sc rb e2
      unfold scLt at e
      split at e
      · cases ra.int'; cases rb.int'; cases e
        exact op_lt pins s σ _ _ _ v u Q I rx ry ⟨_, _, rfl, rfl, q⟩
      · cases ra.str'; cases rb.str'; cases e
        exact op_lt_str pins s σ _ _ _ v u Q I rx ry ⟨_, _, rfl, rfl, q⟩
      · cases e
    · cases e
  gt_run {pins : List (Addr × Obj)} {σ : L2.St} {s : Shared} {w : Wd} {h : Hv} {a b : Vl} {x y : V} {u v : Value} {k : Bool} {Q : VK} (I : Inv X pins σ w.H s) (ra : RV G w a x) (rb : RV G w b y) (rx : RelV x v) (ry : RelV y u)
      (e : Core.ltV h b a = some k) (q : Q (.bl k) w.H) : wpAny (model X.prog X.w) X.A (compareOp .Gt v u) (EP X pins σ Q) X.xe s := by
    simp only [Core.ltV, ltF] at e
    split at e
    · rename_i c d e1 e2
      obtain ⟨rfl, _⟩ := vw_sc rb e1
      obtain ⟨rfl, _⟩ := vw_sc ra e2
      unfold scLt at e
      split at e
      · cases ra.int'; cases rb.int'; cases e
        exact op_gt pins s σ _ _ _ v u Q I rx ry ⟨_, _, rfl, rfl, q⟩
      · cases ra.str'; cases rb.str'; cases e
        exact op_gt_str pins s σ _ _ _ v u Q I rx ry ⟨_, _, rfl, rfl, q⟩
      · cases e
    · cases e
  in_run1 {pins : List (Addr × Obj)} {σ : L2.St} {s : Shared} {w : Wd} {h : Hv} {a b : Vl} {x y : V} {u v : Value} {k : Bool} {Q : VK} (hx : XOk G X) (I : Inv X pins σ w.H s) (S : Sim G w h) (ra : RV G w a x) (rb : RV G w b y) (rx : RelV x v) (ry : RelV y u)
      (e : inF h a b = some k) (q : Q (.bl k) w.H) : wpAny (model X.prog X.w) X.A (compareOp .In v u) (EP X pins σ Q) X.xe s := by
    unfold inF at e
    split at e
    · cases e
    · split at e
      · rename_i l e1
        obtain ⟨p, kvs, rfl, hd, rk⟩ := asD_ok S rb e1
        cases ry
        simp only [Option.map_eq_some_iff] at e
        obtain ⟨kk, e2, rfl⟩ := e
        cases key_shape ra e2
        have g : DGet w.H p (kV kk) (valV kvs kk) := .inl ⟨kvs, kk, hd, rfl, rfl⟩
        refine d_in (by have := hx.un; omega) I g rx fun s' I' => ⟨.bl _, w.H, I', rfl, ?_⟩
        rcases look_ok rk kk with ⟨h1, h2⟩ | ⟨v', x', h1, h2, _⟩
        · rw [h1] at q; rw [h2]; exact q
        · rw [h1] at q; rw [h2]; exact q
      · cases e
  in_run2 {pins : List (Addr × Obj)} {σ : L2.St} {s : Shared} {w : Wd} {h : Hv} {a b : Vl} {x y : V} {u v : Value} {k : Bool} {Q : VK} (hx : XOk G X) (I : Inv X pins σ w.H s) (S : Sim G w h) (ra : RV G w a x) (rb : RV G w b y) (rx : RelV x v) (ry : RelV y u)
      (e : inF h a b = some k) (q : Q (.bl (!k)) w.H) : wpAny (model X.prog X.w) X.A (compareOp .NotIn v u) (EP X pins σ Q) X.xe s := by
    unfold inF at e
    split at e
    · cases e
    · split at e
      · rename_i l e1
        obtain ⟨p, kvs, rfl, hd, rk⟩ := asD_ok S rb e1
        cases ry
        simp only [Option.map_eq_some_iff] at e
        obtain ⟨kk, e2, rfl⟩ := e
        cases key_shape ra e2
        have g : DGet w.H p (kV kk) (valV kvs kk) := .inl ⟨kvs, kk, hd, rfl, rfl⟩
        refine d_notIn (by have := hx.un; omega) I g rx fun s' I' => ⟨.bl _, w.H, I', rfl, ?_⟩
        rcases look_ok rk kk with ⟨h1, h2⟩ | ⟨v', x', h1, h2, _⟩
        · rw [h1] at q; rw [h2]; exact q
        · rw [h1] at q; rw [h2]; exact q
      · cases e
/-! ### items, slices -/
theorem atI_ok {w : Wd} {l : List Vl} {vs : List V} {i : Int} {v : Vl} (r : RVs G w l vs) (e : ((L2.ixN l.length i).bind fun k => l[k]?) = some v) : ∃ x, atI vs i = some x ∧ RV G w v x := by
  simp only [Option.bind_eq_some_iff] at e
  obtain ⟨k, e1, e2⟩ := e
  obtain ⟨x, e3, r1⟩ := r.get e2
  refine ⟨x, ?_, r1⟩
  unfold atI
  rw [← r.length, e1]
  exact e3
theorem sub_ok (hx : XOk G X) : IxR X (rd2 G subF E) := by
  intro value slice pins s σ H x y v u Q I rx ry ⟨w, h, a, b, e, S, ra, rb, p⟩ hs
  subst e
  unfold subF at p
  split at p
  · cases ra.str'; cases rb.int'
    obtain ⟨c, p⟩ := p.chk
    obtain ⟨v', e, p⟩ := p.ofO
    simp only [Option.bind_eq_some_iff, Option.map_eq_some_iff] at e
    obtain ⟨k, e1, c', e2, rfl⟩ := e
    refine ix_str value slice pins s σ _ _ _ v u Q I rx ry ⟨_, _, c', rfl, rfl, by rw [← lim_eq]; exact c, ?_, p.ok S (.str _)⟩ hs
    unfold atI
    rw [e1]
    exact e2
  · split at p
    · rename_i l i e1 _
      cases rb.int'
      obtain ⟨v', e, p⟩ := p.ofO
      obtain ⟨q, vs, rfl, hq, r1⟩ := asS_ok S ra e1
      obtain ⟨x', e2, r2⟩ := atI_ok r1 e
      rcases hq with hq | hq
      · exact ix_list value slice pins s σ _ _ _ v u Q I rx ry ⟨_, _, _, _, rfl, rfl, hx.K ▸ hq, e2, p.ok S r2⟩ hs
      · exact ix_tup value slice pins s σ _ _ _ v u Q I rx ry ⟨_, _, _, _, rfl, rfl, hx.K ▸ hq, e2, p.ok S r2⟩ hs
    · split at p
      · rename_i l e1
        obtain ⟨v', e, p⟩ := p.ofO
        simp only [Option.bind_eq_some_iff] at e
        obtain ⟨k, e2, e3⟩ := e
        obtain ⟨q, kvs, rfl, hd, rk⟩ := asD_ok S ra e1
        cases rx
        cases key_shape rb e2
        rcases look_ok rk k with ⟨h1, h2⟩ | ⟨v2, x', h1, h2, r2⟩
        · rw [h1] at e3; cases e3
        · rw [h1] at e3; cases e3
          have g : DGet w.H q (kV k) (some x') := .inl ⟨kvs, k, hd, rfl, h2.symm⟩
          exact tail_any (dict_typeIs I g) PySem.F.slot_dict_getitem.lookup (d_getItem (by have := hx.un; omega) I g ry fun w' s' I' r' => ⟨x', w.H, I', r', p.ok S r2⟩) hs
      · exact p.elim
theorem RVs.cut {w : Wd} {l : List Vl} {vs : List V} (r : RVs G w l vs) (lo hi : Option Int) : RVs G w (Core.cut l lo hi) (cutV vs lo hi) := by
  unfold Core.cut cutV
  rw [r.length]
  exact (r.drop _).take _
theorem slc_ok (hx : XOk G X) (fz : Bool) : SlR X (fun x lo hi H Q => ∃ w h a, w.H = H ∧ Sim G w h ∧ RV G w a x ∧ Post G w (slcF fz a lo hi h) Q E) := by
  intro pins s σ H x v vl vu lo hi sl Q I rx hs pl pu ⟨w, h, a, e, S, ra, p⟩
  subst e
  unfold slcF at p
  split at p
  · cases ra.str'
    obtain ⟨c, p⟩ := p.chk
    exact sl_str pins s σ _ _ v vl vu lo hi sl Q I rx hs pl pu ⟨_, rfl, by rw [← lim_eq]; exact c, p.ok S (.str _)⟩
  · obtain ⟨q, vs, rfl, hq, r⟩ := ra.tup'
    obtain ⟨c, p⟩ := p.chk
    rw [r.length] at c
    exact sl_tup pins s σ _ _ v vl vu lo hi sl Q I rx hs pl pu ⟨_, vs, rfl, hx.K ▸ hq, c, fun t ht => mkT_ok p S (r.cut lo hi) ht⟩
  · split at p
    · rename_i l e1
      obtain ⟨q, vs, rfl, hq, r⟩ := asL_ok S ra e1
      exact sl_list pins s σ _ _ v vl vu lo hi sl Q I rx hs pl pu ⟨_, vs, rfl, hx.K ▸ hq, fun t ht => mkL_ok p S (r.cut lo hi) ht⟩
    · exact p.elim

/-! ### built-ins -/
def rdA (G : Gs) (F : List Vl → Hv → Res Vl) (E : XK) : List V → Hp → VK → Prop := fun xs H Q => ∃ w h l, w.H = H ∧ Sim G w h ∧ RVs G w l xs ∧ Post G w (F l h) Q E
theorem RVs.one {w : Wd} {v : Vl} {xs : List V} (r : RVs G w [v] xs) : ∃ x, xs = [x] ∧ RV G w v x := by
  cases r with
  | cons h r => cases r; exact ⟨_, rfl, h⟩
theorem RVs.two {w : Wd} {v u : Vl} {xs : List V} (r : RVs G w [v, u] xs) : ∃ x y, xs = [x, y] ∧ RV G w v x ∧ RV G w u y := by
  cases r with
  | cons h r => obtain ⟨y, rfl, h'⟩ := r.one; exact ⟨_, _, rfl, h, h'⟩
theorem tru_ok' {w : Wd} {h : Hv} : ∀ {l : List Vl} {vs : List V} {bs : List Bool}, RVs G w l vs → tru? h l = some bs → vs = bs.map V.bl
  | [], _, _, .nil, e => by simp [tru?] at e; subst e; rfl
  | v :: l, _, bs, .cons r t, e => by
    simp only [tru?] at e
    split at e
    · rename_i b r' e1
      cases r.bl'
      cases e
      rw [tru_ok' t e1]; rfl
    · cases e
theorem pairs_ok {w : Wd} : ∀ {l : List Vl} {vs : List V} {ps : List (Key × Vl)}, RVs G w l vs → pairs? l = some ps →
    ∃ (as : List Addr) (kvs : List (Key × V)), vs = as.map V.ref ∧ RKs G w ps kvs ∧ Paired (fun p kv => SqT G.K w.H p [kV kv.1, kv.2]) as kvs
  | [], _, _, .nil, e => by simp [pairs?] at e; subst e; exact ⟨[], [], rfl, .nil, .nil⟩
  | v :: l, _, ps, .cons r t, e => by
    unfold pairs? at e
    split at e
    · rename_i heq; cases heq
    · rename_i k v' r' heq
      cases heq
      split at e
      · rename_i kk rr e1 e2
        cases e
        obtain ⟨a, us, rfl, hq, r2⟩ := r.tup'
        obtain ⟨x1, x2, rfl, q1, q2⟩ := r2.two
        cases key_shape q1 e1
        obtain ⟨as, kvs, rfl, h1, h2⟩ := pairs_ok t e2
        exact ⟨a :: as, (kk, x2) :: kvs, rfl, .cons q2 h1, .cons hq h2⟩
      · cases e
    · cases e
theorem sortedS_le {l : List Str} (h : sortedS l = true) : l.Pairwise leS := by
  cases l with
  | nil => exact .nil
  | cons x r => exact go x r h
where
  lt_le {a b : List Nat} (h : PySem.Spec.ltCps b a = false) : a ≤ b := by
    intro hlt
    exact Bool.noConfusion (h.symm.trans (aux hlt))
  aux : ∀ {a b : List Nat}, b < a → PySem.Spec.ltCps b a = true
    | [], b, h => absurd h (List.not_lt_nil b)
    | _ :: _, [], _ => rfl
    | x :: a, y :: b, h => by
      unfold PySem.Spec.ltCps
      rcases List.cons_lt_cons_iff.mp h with h' | ⟨rfl, h'⟩
      · simp [h']
      · simp; exact aux h'
  go (x : Str) : ∀ r : List Str, risingS x r = true → (x :: r).Pairwise leS
    | [], _ => by simp
    | y :: r, h => by
      unfold risingS at h
      rw [Bool.and_eq_true] at h
      have hy : leS x y := lt_le (by simpa using h.1)
      have ih := go y r h.2
      refine List.pairwise_cons.mpr ⟨fun z hz => ?_, ih⟩
      rcases List.mem_cons.mp hz with rfl | hz
      · exact hy
      · exact leS_trans hy ((List.pairwise_cons.mp ih).1 z hz)
theorem sort_is {l m : List Str} (p : l.Perm m) (h : sortedS l = true) : l = sortS m := sorted_unique (sortedS_le h) (sortS_sorted m) (p.trans (sortS_perm m).symm)
def Blt.v : Blt → Value
  | .len => .builtin "len" | .abs => .builtin "abs" | .ord => .builtin "ord" | .int => .type "int" | .sum => .builtin "sum" | .list => .type "list" | .tuple => .type "tuple" | .dict => .type "dict"
  | .sorted => .builtin "sorted" | .str => .type "str" | .all => .builtin "all" | .any => .builtin "any"
theorem ord_len {z : Str} {c : Nat} (e : z.cps.toList = [c]) : z.length = 1 ∧ (z.cps.getD 0 0 : Nat) = c := by
  have e2 : z.cps = #[c] := by rw [← Array.toArray_toList (xs := z.cps), e]
  constructor
  · show z.cps.size = 1
    rw [e2]; rfl
  · rw [e2]; rfl
theorem keysV_ok {w : Wd} : ∀ {l : List (Key × Vl)} {vs : List (Key × V)}, RKs G w l vs → RVs G w (l.map fun p => keyVl p.1) (vs.map fun kv => kV kv.1)
  | [], _, .nil => .nil
  | (k, v) :: l, _, .cons h r => .cons (by cases k <;> constructor) (keysV_ok r)
theorem blt_ok (hx : XOk G X) (b : Blt) (fz : Bool) : CallR X b.v (rdA G (bltF b fz) E) := by
  intro pins s σ H xs us Q I ru ⟨w, h, l, e, S, r, p⟩
  subst e
  have hu := hx.un
  unfold bltF at p
  split at p
  · obtain ⟨x, rfl, r1⟩ := r.one
    cases r1.str'
    obtain ⟨c, p⟩ := p.chk
    exact call_len_str pins s σ _ _ us Q I ru ⟨_, rfl, by rw [← lim_eq]; exact c, p.ok S (.int _)⟩
  · obtain ⟨x, rfl, r1⟩ := r.one
    split at p
    · rename_i l e1
      obtain ⟨q, vs, rfl, hq, r2⟩ := asS_ok S r1 e1
      rw [r2.length] at p
      exact call_len_seq pins s σ _ _ us Q I ru ⟨_, vs, rfl, hx.K ▸ hq, p.ok S (.int _)⟩
    · split at p
      · rename_i l e1
        obtain ⟨q, kvs, rfl, hq, r2⟩ := asD_ok S r1 e1
        rw [r2.length] at p
        obtain ⟨u, rfl, r3⟩ := vals1 ru
        cases r3
        exact d_len I hq fun t s' I' => ⟨.int _, w.H, I', ⟨t, rfl⟩, p.ok S (.int _)⟩
      · exact p.elim
  · obtain ⟨x, rfl, r1⟩ := r.one
    cases r1.int'
    exact call_abs pins s σ _ _ us Q I ru ⟨_, rfl, p.ok S (.int _)⟩
  · obtain ⟨x, rfl, r1⟩ := r.one
    cases r1.str'
    split at p
    · rename_i c e1
      obtain ⟨e2, e3⟩ := ord_len e1
      refine call_ord pins s σ _ _ us Q I ru ⟨_, rfl, e2, ?_⟩
      rw [e3]
      exact p.ok S (.int _)
    · exact p.elim
  · obtain ⟨x, rfl, r1⟩ := r.one
    cases r1.int'
    exact call_int1 pins s σ _ _ us Q I ru (.inl ⟨_, rfl, p.ok S (.int _)⟩)
  · obtain ⟨x, rfl, r1⟩ := r.one
    cases r1.bl'
    exact call_int1 pins s σ _ _ us Q I ru (.inr ⟨_, rfl, p.ok S (.int _)⟩)
  · obtain ⟨x, rfl, r1⟩ := r.one
    split at p
    · rename_i l e1
      simp only [Option.bind_eq_some_iff] at e1
      obtain ⟨m, e1, e2⟩ := e1
      obtain ⟨q, vs, rfl, hq, r2⟩ := asL_ok S r1 e1
      cases ints_ok r2 e2
      exact cr_sum hx.calm pins s σ _ _ us Q I ru ⟨_, _, rfl, hx.K ▸ hq, p.ok S (.int _)⟩
    · exact p.elim
  · obtain ⟨x, rfl, r1⟩ := r.one
    split at p
    · rename_i l e1
      obtain ⟨q, vs, rfl, hq, r2⟩ := asS_ok S r1 e1
      exact call_list_of pins s σ _ _ us Q I ru ⟨_, vs, rfl, hx.K ▸ hq, fun t ht => mkL_ok p S r2 ht⟩
    · split at p
      · rename_i l e1
        obtain ⟨q, kvs, rfl, hq, r2⟩ := asD_ok S r1 e1
        exact call_listD hx.calm pins s σ _ _ us Q I ru ⟨_, kvs, rfl, hq, fun t ht => mkL_ok p S (keysV_ok r2) ht⟩
      · exact p.elim
  · obtain ⟨x, rfl, r1⟩ := r.one
    obtain ⟨q, vs, rfl, hq, r2⟩ := r1.tup'
    exact call_tuple_of pins s σ _ _ us Q I ru ⟨_, vs, rfl, .inr ⟨hx.K ▸ hq, p.ok S r1⟩⟩
  · obtain ⟨x, rfl, r1⟩ := r.one
    split at p
    · rename_i l e1
      obtain ⟨q, vs, rfl, hq, r2⟩ := asL_ok S r1 e1
      exact call_tuple_of pins s σ _ _ us Q I ru ⟨_, vs, rfl, .inl ⟨hx.K ▸ hq, fun t ht => mkT_ok p S r2 ht⟩⟩
    · exact p.elim
  · cases r
    have ev : us = [] := by cases ru; rfl
    subst ev
    refine FK.call_dict0 ?_
    exact ⟨.ref _, upd w.H s.heap.objs.size (.dK []), I.laid (t' := s.toks) (fun b o q => Heap.get?_push_of_some _ q) (Nat.le_refl _) (dk_empty s.heap I.big), rfl, mkD_ok p S .nil I.fresh⟩
  · obtain ⟨x, rfl, r1⟩ := r.one
    split at p
    · rename_i l e1
      obtain ⟨q, kvs, rfl, hq, r2⟩ := asD_ok S r1 e1
      exact call_dictD pins s σ _ _ us Q I ru ⟨_, kvs, rfl, hq, fun t ht => mkD_ok p S r2 ht⟩
    · split at p
      · rename_i l e1
        simp only [Option.bind_eq_some_iff] at e1
        obtain ⟨m, e1, e2⟩ := e1
        obtain ⟨q, vs, rfl, hq, r2⟩ := asL_ok S r1 e1
        obtain ⟨c, p⟩ := p.chk
        obtain ⟨as, kvs, rfl, h1, h2⟩ := pairs_ok r2 e2
        exact call_dictP hx.calm pins s σ _ _ us Q I ru ⟨_, as, kvs, rfl, hx.K ▸ hq, hx.K ▸ h2, fun t ht => mkD_ok p S (merge_ok .nil h1) ht⟩
      · exact p.elim
  · obtain ⟨x, rfl, r1⟩ := r.one
    split at p
    · rename_i l e1
      split at p
      · rename_i ks e2
        obtain ⟨q, kvs, rfl, hq, r2⟩ := asD_ok S r1 e1
        obtain ⟨c, p⟩ := p.chk
        refine call_sortedD hx.calm pins s σ _ _ us Q I ru ⟨_, kvs, ks, rfl, hq, keyS_ok r2 e2, c, fun ys t h1 h2 ht => ?_⟩
        rw [sort_is h1 h2]
        exact mkL_ok p S (strs_rv _) ht
      · exact p.elim
    · split at p
      · rename_i ks e1
        simp only [Option.bind_eq_some_iff] at e1
        obtain ⟨m, e1, e2⟩ := e1
        obtain ⟨q, vs, rfl, hq, r2⟩ := asL_ok S r1 e1
        obtain ⟨c, p⟩ := p.chk
        cases strs_ok r2 e2
        refine cr_sortedS pins s σ _ _ us Q I ru ⟨_, ks, rfl, hx.K ▸ hq, c, fun ys t h1 h2 ht => ?_⟩
        rw [sort_is h1 h2]
        exact mkL_ok p S (strs_rv _) ht
      · exact p.elim
  · obtain ⟨x, rfl, r1⟩ := r.one
    cases r1.str'
    exact SkE.call_str_str pins s σ _ _ us Q I ru ⟨_, rfl, p.ok S (.str _)⟩
  · obtain ⟨x, rfl, r1⟩ := r.one
    split at p
    · rename_i l e1
      simp only [Option.bind_eq_some_iff] at e1
      obtain ⟨m, e1, e2⟩ := e1
      obtain ⟨q, vs, rfl, hq, r2⟩ := asL_ok S r1 e1
      cases tru_ok' r2 e2
      exact cr_all hx.calm pins s σ _ _ us Q I ru ⟨_, _, rfl, hx.K ▸ hq, p.ok S (.bl _)⟩
    · exact p.elim
  · obtain ⟨x, rfl, r1⟩ := r.one
    split at p
    · rename_i l e1
      simp only [Option.bind_eq_some_iff] at e1
      obtain ⟨m, e1, e2⟩ := e1
      obtain ⟨q, vs, rfl, hq, r2⟩ := asL_ok S r1 e1
      cases tru_ok' r2 e2
      exact cr_any hx.calm pins s σ _ _ us Q I ru ⟨_, _, rfl, hx.K ▸ hq, p.ok S (.bl _)⟩
    · exact p.elim
  · exact p.elim
end
end Core
end

section
set_option Elab.async false
set_option linter.all false
set_option maxRecDepth 100000
set_option maxHeartbeats 4000000
set_option autoImplicit false
/-! Core8: the context; calls of the program's functions, classes, special methods. -/
namespace Core
open PySem L2 PyProof.Rows

/-- where the program's functions stand -/
structure Fcts where
  fA : Nat → Addr
  fD : Nat → FuncData
  ps : Nat → List Str
abbrev Cl := Nat → List Vl → Hv → Res Vl
def spOf (G : Gs) (T : Tab) (cl : Cl) (f : Nat) : Sp := fun vs H Q E => ∃ (w : Wd) (h : Hv) (args : List Vl), w.H = H ∧ Sim G w h ∧ (∃ d, T.defs f = some d ∧ args.length = d.np) ∧ RVs G w args vs ∧ Post G w (cl f args h) Q E
def tyNs : List String := ["NoneType", "bool", "int", "str", "tuple", "list", "dict"]
/-- the class has no such operator -/
def fillsNo (K : PySem.W.Frag) (D : Addr) (nm : String) : Bool := (PySem.W.clsIn K D).any fun cd => cd.mro.all fun c => decide (PySem.W.findIn K c (PySem.dunder nm) = some none) && decide (PySem.W.findIn K c (dunderR nm) = some none)
/-- what the written part must say of a special method -/
def SpF (K : PySem.W.Frag) (C f : Addr) : SM → Prop
  | .init => Mk K C f
  | .len => PySem.W.isFn K (.ref f) = true ∧ PySem.W.findIn K (.ref C) "__len__" = some (some (.ref f))
  | .getitem => PySem.W.isFn K (.ref f) = true ∧ PySem.W.fnIn K f = true ∧ PySem.W.findIn K (.ref C) "__getitem__" = some (some (.ref f))
  | .setitem => PySem.W.isFn K (.ref f) = true ∧ PySem.W.noSeq K C = true ∧ PySem.W.findIn K (.ref C) "__setitem__" = some (some (.ref f))
  | .cmp op => match op with
    | .in_ => PySem.W.isFn K (.ref f) = true ∧ PySem.W.findIn K (.ref C) "__contains__" = some (some (.ref f))
    | op => PySem.W.isFn K (.ref f) = true ∧ PySem.W.findIn K (.ref C) (cmpInfo op.op).2.1 = some (some (.ref f))
  | .bin op => PySem.W.isFn K (.ref f) = true ∧ PySem.W.selfFirst K C = true ∧ PySem.W.findIn K (.ref C) (PySem.dunder op.op.info.2) = some (some (.ref f))
  | .iadd => PySem.W.isFn K (.ref f) = true ∧ PySem.W.selfFirst K C = true ∧ PySem.W.findIn K (.ref C) (dunderI Operator.Add.info.2) = some (some (.ref f))
  | .call => PySem.W.isFn K (.ref f) = true ∧ PySem.W.fnIn K f = true ∧ PySem.W.findIn K (.ref C) "__call__" = some (some (.ref f))
def bltNames : List Str := ["len", "abs", "ord", "int", "sum", "list", "tuple", "dict", "sorted", "str", "all", "any", "range", "enumerate", "isinstance", "bool", "reversed", "zip", "min", "max"]
/-- what the written part says of a class of exceptions -/
structure XcK (K : PySem.W.Frag) (C : Addr) : Prop where
  cl : (PySem.W.clsIn K C).isSome = true
  ga : PySem.W.findIn K (.ref C) "__getattribute__" = some (some (.builtin "BaseException.__getattribute__"))
  gg : PySem.W.findIn K (.ref C) "__getattr__" = some none
  sb : PySem.W.subIn K (.ref C) (.type "BaseException") = some true
  hd : PySem.W.hasDictIn K C = true
  ha : PySem.W.findIn K (.ref C) "__class__" = some (some (.builtin "object.__class__"))
  hn : PySem.W.specialIn K (.builtin "object.__class__") "__get__" = some (some (.builtin "getset_descriptor.__get__"))
  ht : PySem.W.takesIn K (.builtin "object.__class__") = some true
  hm : PySem.W.mroIn K C (.type "object") = some true
  ty : PySem.W.typeIn K (.ref C) = some (.type "type")
  ve : PySem.W.kitOne K (.ref C) (.type "ValueError") = some true
abbrev veT : List Value := [.type "ValueError", .type "Exception", .type "BaseException", .type "object"]
structure Stc (G : Gs) (mg : Str → Option Value) (T : Tab) (M : Nm) (F : Fcts) : Prop where
  fN : G.fN = M.fN
  fnd : M.fN.Nodup
  mdj : ∀ x ∈ M.mN, x ∉ M.fN
  fn : ∀ f x, M.fnN f = some x → mg x = some (.ref (F.fA f)) ∧ PySem.W.keepIn G.K (.ref (F.fA f)) = true
  cls : ∀ c x, M.clN c = some x → mg x = some (.ref (G.cA c)) ∧ PySem.W.keepIn G.K (.ref (G.cA c)) = true
  blt : ∀ x ∈ bltNames, mg x = none
  fld : ∀ c f, T.fld c f = true → ∃ x, M.fN[f]? = some x ∧ Cls G.K (G.cA c) ∧ NoAttr G.K (G.cA c) x
  meth : ∀ c m f, T.meth c m = some f → ∃ x, M.mN[m]? = some x ∧ Cls G.K (G.cA c) ∧ Meth G.K (G.cA c) x (F.fA f)
  sp : ∀ c m f, T.sp c m = some f → SpF G.K (G.cA c) (F.fA f) m
  nft : ∀ c n, T.isC c = true → n ∈ tyNs → PySem.W.notFirst G.K (G.cA c) (.type n) = true
  nfc : ∀ c d, T.isC c = true → T.isC d = true → PySem.W.notFirst G.K (G.cA c) (.ref (G.cA d)) = true
  bin : ∀ c op f d, T.sp c (.bin op) = some f → T.isC d = true → c = d ∨ fillsNo G.K (G.cA d) op.op.info.2 = true
  dfl : ∀ f d, T.defs f = some d → (F.ps f).length = d.np ∧ ∀ n, n ≤ d.np → d.np ≤ n + d.dfl.length →
    ∃ ds dvs, Vals dvs ds ∧ Binds G.K (F.fD f) (F.ps f) ds ∧ dvs.length + n = d.np ∧ ∀ w, RVs G w (d.dfl.drop (d.dfl.length + n - d.np)) dvs
  xcl : ∀ c x, M.xN c = some x → mg x = some (.ref (G.cA c)) ∧ PySem.W.keepIn G.K (.ref (G.cA c)) = true ∧ T.isX c = true
  xok : ∀ c, T.isX c = true → XcK G.K (G.cA c)
  xex : ∀ c, T.xc c = true → T.isX c = true ∧ PySem.W.excIn G.K (G.cA c) veT "ValueError.__new__" = true
  xsub : ∀ c d, T.isX c = true → T.isX d = true → PySem.W.exmOne G.K (.ref (G.cA c)) (.ref (G.cA d)) = some (T.sub c d) ∧ PySem.W.kitOne G.K (.ref (G.cA c)) (.ref (G.cA d)) = some (T.sub c d)
  xfl : ∀ c f, T.xf c f = true → ∃ x, M.fN[f]? = some x ∧ T.isX c = true ∧ PySem.W.findIn G.K (.ref (G.cA c)) x = some none
  xve : mg "ValueError" = none
def ClOk (T : Tab) (cl : Cl) : Prop := ∀ f args h, cl f args h = .st ∨ ∃ d, T.defs f = some d ∧ args.length ≤ d.np ∧ d.np ≤ args.length + d.dfl.length ∧ cl f args h = cl f (args ++ d.dfl.drop (d.dfl.length + args.length - d.np)) h
theorem clOk_callN (T : Tab) (n : Nat) : ClOk T (callN T n) := by
  intro f args h
  cases n with
  | zero => exact .inl rfl
  | succ n =>
    cases hd : T.defs f with
    | none => left; simp only [callN, hd]
    | some d =>
      by_cases c : args.length + d.dfl.length < d.np ∨ d.np < args.length
      · left; simp only [callN, hd, if_pos c]
      · right
        refine ⟨d, rfl, by omega, by omega, ?_⟩
        have hl : (args ++ d.dfl.drop (d.dfl.length + args.length - d.np)).length = d.np := by simp; omega
        have c2 : ¬ ((args ++ d.dfl.drop (d.dfl.length + args.length - d.np)).length + d.dfl.length < d.np ∨ d.np < (args ++ d.dfl.drop (d.dfl.length + args.length - d.np)).length) := by omega
        simp only [callN, hd, if_neg c, if_neg c2]
        rw [show d.dfl.drop (d.dfl.length + (args ++ d.dfl.drop (d.dfl.length + args.length - d.np)).length - d.np) = [] from by rw [hl]; simp]
        rw [List.append_nil]
structure XC (G : Gs) (T : Tab) (M : Nm) (F : Fcts) (cl : Cl) (k : Nat) (X : Cx) (E : L2.St → XK) : Prop extends XOk G X where
  nd : X.N.Nodup
  stc : Stc G X.mg T M F
  clok : ClOk T cl
  fnok : ∀ f d, T.defs f = some d → FnOk X.prog X.w X.K X.mg X.base (L2.CX X.prog X.w) k (F.fA f) (F.fD f) (F.ps f) (spOf G T cl f)
  room : Room (k + 3) X.A
  tk : L2.Takes X (fun cls d σ H => E σ cls d H)
  po : PassesOwn (model X.prog X.w) X.A X.env X.xe
section
variable {G : Gs} {T : Tab} {M : Nm} {F : Fcts} {cl : Cl} {k : Nat} {X : Cx} {E : L2.St → XK} {pins : List (Addr × Obj)} {σ : L2.St} {s : Shared} {w : Wd} {h : Hv} {Q : VK}
theorem XC.px (hx : XC G T M F cl k X E) (pins : List (Addr × Obj)) (σ : L2.St) (H : Hp) (s : Shared) (e : Value) (s' : Shared) (I : Inv X pins σ H s) (c : L2.CX X.prog X.w X.stack H s (E σ) e s') : X.xe e s' := hx.tk e s' (XE.of_call I (fun _ _ _ h => h) c)
/-- a function of the program is called -/
theorem run_cl (hx : XC G T M F cl k X E) {A : Around} (hr : Room k A) (e0 : Env0 X.prog X.w X.K X.mg X.base A X.stack s w.H) (I : Inv X pins σ w.H s) (S : Sim G w h) {f : Nat} {args : List Vl} {vs : List V} {us : List Value}
    (ra : RVs G w args vs) (r : Vals vs us) (p : Post G w (cl f args h) Q (E σ)) :
    codeAny (model X.prog X.w) A (.call (.ref (F.fA f)) ⟨us, []⟩) (fun r s' => match r with | .ok (.ret v) => EP X pins σ Q v s' | .ok _ => False | .error e => X.xe e s') s := by
  rcases hx.clok f args h with e | ⟨d, hd, l1, l2, e⟩
  · rw [e] at p; exact p.elim
  · obtain ⟨hl, hb⟩ := hx.stc.dfl f d hd
    obtain ⟨ds, dvs, hv, hb, hn, hrv⟩ := hb args.length l1 l2
    have F0 := hx.fnok f d hd
    have hb : Binds X.K (F.fD f) (F.ps f) ds := hx.K ▸ hb
    have r2 : Vals (vs ++ dvs) (us ++ ds) := r.append hv
    have z1 := ra.length
    have h2 : spOf G T cl f (vs ++ dvs) w.H Q (E σ) := ⟨w, h, args ++ d.dfl.drop (d.dfl.length + args.length - d.np), rfl, S, ⟨d, hd, by simp; omega⟩, ra.append (hrv w), e ▸ p⟩
    have hl2 : (us ++ ds).length = (F.ps f).length := by rw [← r2.length]; exact F0.len _ _ _ _ h2
    refine codeAny_mono (F0.run A X.stack s w.H ⟨us, []⟩ (us ++ ds) (vs ++ dvs) Q (E σ) hr e0 (hb s us I.kIn hl2) r2 h2) fun r s' hq => ?_
    cases r with
    | error e => exact hx.px pins σ w.H s e s' I hq
    | ok fl =>
      cases fl with
      | ret u => exact I.after hq
      | next => exact False.elim hq
      | brk => exact False.elim hq
      | cont => exact False.elim hq
theorem run_cl1 (hx : XC G T M F cl k X E) (I : Inv X pins σ w.H s) (S : Sim G w h) {f : Nat} {args : List Vl} {vs : List V} {us : List Value}
    (ra : RVs G w args vs) (r : Vals vs us) (p : Post G w (cl f args h) Q (E σ)) : wpAny (model X.prog X.w) X.A (call (.ref (F.fA f)) us) (EP X pins σ Q) X.xe s :=
  wpAny_call (codeAny_mono (run_cl hx (hx.room.mono (by omega)) I.env0 I S ra r p) fun r s' hq => by
    cases r with
    | error e => exact hq
    | ok fl => cases fl <;> exact hq)
theorem run_cl2 (hx : XC G T M F cl k X E) (I : Inv X pins σ w.H s) (S : Sim G w h) {f : Nat} {args : List Vl} {vs : List V} {us : List Value}
    (ra : RVs G w args vs) (r : Vals vs us) (p : Post G w (cl f args h) Q (E σ)) : wpAny (model X.prog X.w) X.A.in1 (call (.ref (F.fA f)) us) (EP X pins σ Q) X.xe s :=
  wpAny_call (codeAny_mono (run_cl hx ((hx.room.mono (by omega) : Room (k + 1) X.A).in1) I.env0.in1 I S ra r p) fun r s' hq => by
    cases r with
    | error e => exact hq
    | ok fl => cases fl <;> exact hq)
/-- a class of the program is called -/
theorem run_mk (hx : XC G T M F cl k X E) (I : Inv X pins σ w.H s) (S : Sim G w h) {c : Nat} {args : List Vl} {vs : List V} {us : List Value}
    (ra : RVs G w args vs) (r : Vals vs us) (p : Post G w (mkD' T cl c args h) Q (E σ)) : wpAny (model X.prog X.w) X.A (call (.ref (G.cA c)) us) (EP X pins σ Q) X.xe s := by
  unfold mkD' spC at p
  cases hs : T.sp c .init with
  | none => rw [hs] at p; exact p.elim
  | some f =>
    rw [hs] at p
    have Mf : Mk X.K (G.cA c) (F.fA f) := hx.K ▸ (show Mk G.K (G.cA c) (F.fA f) from hx.stc.sp c .init f hs)
    have n1 := I.hok.fresh (Nat.le_succ s.heap.objs.size)
    have n2 := I.hok.fresh (Nat.le_refl s.heap.objs.size)
    have I2 := Inv.made (C := G.cA c) I
    have kp : ∀ b o, w.H b = some o → upd (upd w.H s.heap.objs.size (.own (s.heap.objs.size + 1))) (s.heap.objs.size + 1) (.ins (G.cA c) s.heap.objs.size []) b = some o := fun b o e => by
      rw [upd_ne (ne_of_none e n1), upd_ne (ne_of_none e n2)]; exact e
    obtain ⟨S2, x2, g⟩ := S.alloc (c := .obj c []) n1 kp (fun z => nomatch z) ⟨_, [], upd_same, .nil⟩
    have q := p.ext x2
    refine wpAny_call (make_map (f := F.fA f) I.kIn Mf.makes Mf.init (beq_iff_eq.mp Mf.fn) (codeAny_mono (run_cl (Q := fun v H2 => v = .non ∧ Q (.ref (s.heap.objs.size + 1)) H2) hx ((hx.room.mono (by omega) : Room (k + 1) X.A).make (G.cA c) us []) (I2.env0.make (G.cA c) us []) I2 S2
      (.cons (.ref g) (ra.ext x2)) (.cons rfl r) (q.bind fun v h1 w' x e S r q => ?_)) fun r s' hq' => ?_))
    · cases v with
      | non => exact ⟨r.non', q.ok S (.ref (prefix_get e.pre g))⟩
      | _ => exact q.elim
    · cases r with
      | error e => exact hq'
      | ok fl =>
        cases fl with
        | ret u =>
          obtain ⟨v, H', I3, rv, ev, q3⟩ := hq'
          subst ev
          exact ⟨rv, ⟨V.ref (s.heap.objs.size + 1), H', I3, rfl, q3⟩⟩
        | next => exact False.elim hq'
        | brk => exact False.elim hq'
        | cont => exact False.elim hq'
/-! ### special methods -/
theorem inst_of (I : Inv X pins σ w.H s) (S : Sim G w h) {v : Vl} {x : V} {c : Nat} {fs : List (Nat × Vl)} (r : RV G w v x) (e : asO h v = some (c, fs)) :
    ∃ a ox od, x = .ref a ∧ PySem.W.InstAt s.heap a ox (G.cA c) od := by
  obtain ⟨a, dx, fs', rfl, ha, _⟩ := asO_ok S r e
  obtain ⟨mA, O, _⟩ := ins_get I.hok ha
  obtain ⟨od, J, _⟩ := O.look
  exact ⟨a, _, _, rfl, J⟩
theorem tru1_ok {v : Vl} {x : V} {u : Value} (I : Inv X pins σ w.H s) (S : Sim G w h) (r : RV G w v x) (ru : RelV x u) (p : Post G w (tru1 h v) Q (E σ)) {Qb : Bool → Shared → Prop} (hq : ∀ b, Q (.bl b) w.H → Qb b s) :
    wpAny (model X.prog X.w) X.A (truthy u) Qb X.xe s := by
  cases v with
  | bl b => cases r.bl'; cases ru; exact wpAny_truthy_bool (hq b (p.ok S (.bl b)))
  | _ => exact p.elim
theorem notV_ok {v : Vl} {x : V} {u : Value} (I : Inv X pins σ w.H s) (S : Sim G w h) (r : RV G w v x) (ru : RelV x u) (p : Post G w (notV h v) Q (E σ)) {Qb : Bool → Shared → Prop} (hq : ∀ b, Q (.bl (!b)) w.H → Qb b s) :
    wpAny (model X.prog X.w) X.A (truthy u) Qb X.xe s := by
  cases v with
  | bl b => cases r.bl'; cases ru; exact wpAny_truthy_bool (hq b (p.ok S (.bl (!b))))
  | _ => exact p.elim
/-- the type of a value -/
theorem ty_look (hx : XOk G X) (I : Inv X pins σ w.H s) (S : Sim G w h) {v : Vl} {x : V} {u : Value} (r : RV G w v x) (ru : RelV x u) (e : tyKn T h v = true) :
    ∃ tb, PySem.W.Looks (model X.prog X.w) s.heap (typeOf u) tb ∧ ((∃ n, tb = .type n ∧ n ∈ tyNs) ∨ ∃ d, T.isC d = true ∧ tb = .ref (G.cA d)) := by
  have base : ∀ {n : String}, TyX X.K w.H x (.type n) → n ∈ tyNs → ∃ tb, PySem.W.Looks (model X.prog X.w) s.heap (typeOf u) tb ∧ ((∃ n, tb = .type n ∧ n ∈ tyNs) ∨ ∃ d, T.isC d = true ∧ tb = .ref (G.cA d)) := fun {n} z hn => by
    obtain ⟨P, k, hp, _⟩ := kit_of I ru z
    exact ⟨_, k.ty _ _ I.kIn hp, .inl ⟨n, rfl, hn⟩⟩
  have own : ∀ {c : Nat} {fs : List (Nat × Vl)}, asO h v = some (c, fs) → T.isC c = true → ∃ tb, PySem.W.Looks (model X.prog X.w) s.heap (typeOf u) tb ∧ ((∃ n, tb = .type n ∧ n ∈ tyNs) ∨ ∃ d, T.isC d = true ∧ tb = .ref (G.cA d)) := fun {c fs} e1 e2 => by
    obtain ⟨q, ox, od, rfl, J⟩ := inst_of I S r e1
    cases ru
    exact ⟨_, J.type, .inr ⟨c, e2, rfl⟩⟩
  have lst : ∀ {a vs}, FzL X.K w a vs → TyX X.K w.H (.ref a) (.type "list") := fun hq => by
    rcases hq with ⟨h1 | ⟨o, h1⟩, _⟩ | ⟨o, its, n, h1, h2, h3, h4, _⟩
    · exact .base (.lst h1)
    · exact .base (.frz h1)
    · exact .kList h1 h2
  cases v with
  | non => cases r; exact base (.base .non) (by decide)
  | bl y => cases r; exact base (.base (.bl y)) (by decide)
  | int y => cases r; exact base (.base (.int y)) (by decide)
  | str y => cases r; exact base (.base (.str y)) (by decide)
  | tup l =>
    cases r with
    | tup hq r =>
      rcases hq with ⟨h1 | ⟨o, h1⟩, _⟩ | ⟨o, its, n, h1, h2, h3, _⟩
      · exact base (.base (.tup h1)) (by decide)
      · exact base (.fTuple h1) (by decide)
      · exact base (.kTuple (by rw [hx.K]; exact h1) h2) (by decide)
  | fl l => cases r with | fl hq r => exact base (lst (by rw [hx.K]; exact hq)) (by decide)
  | fd l =>
    cases r with
    | fd hq r =>
      rcases hq.1 with h1 | ⟨o, h1⟩
      · exact base (.base (.dK h1)) (by decide)
      · exact base (.fDict h1) (by decide)
  | fo c fs => exact own rfl e
  | ref n =>
    cases r with
    | ref hn =>
      simp only [tyKn] at e
      split at e
      · rename_i l hc
        obtain ⟨vs, h1, h2⟩ := S.ok _ _ _ hc hn
        exact base (.base (.lst h1)) (by decide)
      · rename_i l hc
        obtain ⟨vs, h1, h2⟩ := S.ok _ _ _ hc hn
        exact base (.base (.dK h1)) (by decide)
      · rename_i c l hc
        exact own (show asO h (.ref n) = some (c, l) by simp only [asO, hc]) e
      · cases e
theorem anyM_no {β : Type} {M : Model} {hp : Heap} {f : β → Sem Bool} : ∀ {l : List β}, (∀ c ∈ l, PySem.W.Looks M hp (f c) false) → PySem.W.Looks M hp (l.anyM f) false
  | [], _ => .now
  | n :: r, e => (e n (by simp)).andThen (anyM_no fun c hc => e c (by simp [hc]))
theorem fillsNo_ok {K : PySem.W.Frag} {M : Model} {hp : Heap} {D : Addr} {nm : String} (X : K.In hp) (e : fillsNo K D nm = true) : PySem.W.Looks M hp (fillsNumberSlot (.ref D) nm) false := by
  obtain ⟨cd, hcd, hm⟩ := PySem.W.any_some e
  rw [List.all_eq_true] at hm
  have Lm : PySem.W.Looks M hp (mroOf (.ref D)) cd.mro := (PySem.W.looks_clsIn X hcd).andThen (f := fun cd => pure cd.mro) .now
  unfold fillsNumberSlot
  refine Lm.andThen (anyM_no fun c hc => ?_)
  have z := hm c hc
  simp only [Bool.and_eq_true, decide_eq_true_eq] at z
  have L1 := PySem.W.looks_findIn (M := M) X z.1
  have L2 := PySem.W.looks_findIn (M := M) X z.2
  cases c with
  | type n => exact L1.andThen (L2.andThen .now)
  | _ =>
    refine anyM_no fun z hz => ?_
    simp only [List.mem_cons, List.not_mem_nil, or_false] at hz
    rcases hz with rfl | rfl
    · exact L1.andThen .now
    · exact L2.andThen .now
theorem binop_D {prog : Program} {w : World} {A : Around} {E : Value → Shared → Prop} {s : Shared} {K : PySem.W.Frag} {x C D L f : Addr} {h₀ : Heap} {m : Str → Option Value} {ox : Obj} {od : Option Obj} {op : Operator} {b : Value} {Q : Value → Shared → Prop} (F : PyProof.Rows.Fr h₀ L s.heap m) (X₀ : K.In h₀) (I : PySem.W.InstAt s.heap x ox C od) (hb : PySem.W.Looks (model prog w) s.heap (typeOf b) (.ref D)) (hn : fillsNo K D op.info.2 = true) (hc : PySem.W.selfFirst K C = true)
    (hs : PySem.W.findIn K (.ref C) (PySem.dunder op.info.2) = some (some (.ref f))) (hf : PySem.W.isFn K (.ref f) = true)
    (h : wpAny (model prog w) A (call (.ref f) [.ref x, b]) (PySem.W.CmpBack Q) E s) : wpAny (model prog w) A (binaryOp op (.ref x) b) Q E s := by
  have X := X₀.keeps F.keep
  obtain ⟨cd, hcd, hm⟩ := PySem.W.any_some hc
  obtain ⟨rest, hm⟩ : ∃ rest, cd.mro = .ref C :: rest := by
    cases q : cd.mro with
    | nil => rw [q] at hm; cases hm
    | cons a r => rw [q] at hm; exact ⟨r, by rw [List.head?_cons] at hm; cases (beq_iff_eq.mp hm); rfl⟩
  by_cases hCD : D = C
  · subst hCD
    exact PySem.W.binop_K F X₀ I hb hc hs hf h
  have hne : (Value.ref C == Value.ref D) = false := Bool.eq_false_iff.mpr fun q => hCD (by cases beq_iff_eq.mp q; rfl)
  unfold binaryOp
  refine PySem.wpAny_holding (wpAny_bind ?_)
  unfold binaryOp1
  refine wpAny_bind (I.type.here (wpAny_bind (hb.here (wpAny_bind ((PySem.W.fills_K X hcd hm hs).here ?_)))))
  simp only [hne, Bool.false_eq_true, if_false]
  refine wpAny_bind ((fillsNo_ok X hn).here ?_)
  simp only [Bool.and_false, Bool.false_eq_true, if_false, Bool.false_and]
  refine wpAny_bind (wpAny_pure ?_)
  simp only [Bool.false_eq_true, if_false]
  refine wpAny_bind (m := tryMethod (.ref x) _ b) ?_
  unfold tryMethod
  refine wpAny_bind (PySem.W.special_fn X I hs (beq_iff_eq.mp hf) (wpAny_mono h (fun v s' hv => ?_) fun _ _ e => e))
  cases v <;> first | exact hv.elim | exact wpAny_pure (wpAny_pure (wpAny_pure hv))
/-- what comes back is a value -/
theorem cmpBack {x : V} {v : Value} {s : Shared} {P : Value → Shared → Prop} (r : RelV x v) (q : P v s) : PySem.W.CmpBack P v s := by
  cases v <;> first | exact q | skip
  cases x <;> first | (cases r; done) | (obtain ⟨t, r⟩ := r; cases r; done) | (obtain ⟨t, r⟩ := r; exact nomatch r)
/-- operations that may look at the slots -/
def OpS (X : Cx) (f : Value → Value → Sem Value) (r : L2.St → R2) : Prop :=
  ∀ (pins : List (Addr × Obj)) (s : Shared) (τ : L2.St) (H : Hp) (x y : V) (v u : Value) (Q : VK), Inv X pins τ H s → RelV x v → RelV y u → r τ x y H Q → wpAny (model X.prog X.w) X.A (f v u) (EP X pins τ Q) X.xe s
def CallS (X : Cx) (f : Value) (r : L2.St → List V → Hp → VK → Prop) : Prop :=
  ∀ (pins : List (Addr × Obj)) (s : Shared) (τ : L2.St) (H : Hp) (xs : List V) (us : List Value) (Q : VK), Inv X pins τ H s → Vals xs us → r τ xs H Q → wpAny (model X.prog X.w) X.A (call f us) (EP X pins τ Q) X.xe s
theorem cmpO_ok (hx : XC G T M F cl k X E) (op : COp) (hi : op ≠ .in_) (hi2 : op ≠ .notin ∧ op ≠ .is_ ∧ op ≠ .isnot) : OpS X (compareOp op.op) (fun σ => rd2 G (cmpO T cl op) (E σ)) := by
  intro pins s σ H x y v u Q I rx ry ⟨w, h, a, b, e, S, ra, rb, p⟩
  subst e
  unfold cmpO at p
  split at p
  · rename_i c fs e1
    split at p
    · rename_i hc
      unfold spC at p
      cases hs : T.sp c (.cmp op) with
      | none => rw [hs] at p; exact p.elim
      | some f =>
        rw [hs] at p
        have z := hx.stc.sp c _ f hs
        obtain ⟨z1, z2⟩ : PySem.W.isFn G.K (.ref (F.fA f)) = true ∧ PySem.W.findIn G.K (.ref (G.cA c)) (cmpInfo op.op).2.1 = some (some (.ref (F.fA f))) := by
          cases op <;> first | exact absurd rfl hi | exact z
        obtain ⟨q, ox, od, rfl, J⟩ := inst_of I S ra e1
        cases rx
        obtain ⟨m, hF⟩ := I.fr
        obtain ⟨tb, hl, ht⟩ := ty_look (T := T) hx.toXOk I S rb ry hc.2
        have nf : PySem.W.notFirst G.K (G.cA c) tb = true := by
          rcases ht with ⟨n, rfl, hn⟩ | ⟨d, hd, rfl⟩
          · exact hx.stc.nft c n hc.1 hn
          · exact hx.stc.nfc c d hc.1 hd
        have e0 : compareOp op.op (.ref q) u = richCompare op.op (.ref q) u := by cases op <;> first | exact absurd rfl hi | exact absurd rfl hi2.1 | exact absurd rfl hi2.2.1 | exact absurd rfl hi2.2.2 | rfl
        rw [e0]
        refine PySem.W.cmp_K (by have := hx.toXOk.un; omega) hF I.ok.mod.kin J hl (hx.K ▸ nf) (hx.K ▸ z2) (hx.K ▸ z1) ?_
        exact wpAny_mono (run_cl1 hx I S (.cons ra (.cons rb .nil)) (.cons rfl (.cons ry .nil)) p) (fun v s' hv => by
          obtain ⟨x', H', I', r', q'⟩ := hv
          exact cmpBack r' ⟨x', H', I', r', q'⟩) fun _ _ e => e
    · exact p.elim
  · exact cmp_ok hx.toXOk op pins s σ _ _ _ v u Q I rx ry ⟨w, h, a, b, rfl, S, ra, rb, p⟩
theorem cmpD_ok (hx : XC G T M F cl k X E) (op : COp) : OpS X (compareOp op.op) (fun σ => rd2 G (fun a b h => (cmpD T cl op a b h).bind fun v h => tru1 h v) (E σ)) := by
  intro pins s σ H x y v u Q I rx ry ⟨w, h, a, b, e, S, ra, rb, p⟩
  subst e
  have key : ∀ {r : Res Vl} {Q : VK}, Post G w (r.bind fun v h => tru1 h v) Q (E σ) → Post G w r Q (E σ) := fun {r Q} p => by
    cases r with
    | ok v h =>
      cases v with
      | bl b => exact p
      | _ => exact p.elim
    | ex c fs h => exact p
    | st => exact p.elim
  have base : ∀ {op : COp}, op ≠ .in_ ∧ op ≠ .notin ∧ op ≠ .is_ ∧ op ≠ .isnot → Post G w (cmpO T cl op a b h) Q (E σ) → wpAny (model X.prog X.w) X.A (compareOp op.op v u) (EP X pins σ Q) X.xe s := fun {op} hop p =>
    cmpO_ok hx op hop.1 hop.2 pins s σ _ _ _ v u Q I rx ry ⟨w, h, a, b, rfl, S, ra, rb, p⟩
  have base2 : ∀ {op : COp}, Post G w (ofO ((cmpF op a b h).map .bl) h) Q (E σ) → wpAny (model X.prog X.w) X.A (compareOp op.op v u) (EP X pins σ Q) X.xe s := fun {op} p =>
    cmp_ok hx.toXOk op pins s σ _ _ _ v u Q I rx ry ⟨w, h, a, b, rfl, S, ra, rb, p⟩
  have p := key p
  unfold cmpD at p
  cases op with
  | in_ =>
    simp only at p
    split at p
    · rename_i c fs e1
      unfold spC at p
      cases hs : T.sp c (.cmp .in_) with
      | none => rw [hs] at p; exact p.elim
      | some f =>
        rw [hs] at p
        obtain ⟨z1, z2⟩ := (show _ ∧ _ from hx.stc.sp c _ f hs)
        obtain ⟨q, ox, od, rfl, J⟩ := inst_of I S rb e1
        cases ry
        obtain ⟨m, hF⟩ := I.fr
        refine PySem.W.in_K hF I.ok.mod.kin J (hx.K ▸ z2) (hx.K ▸ z1) ?_
        refine thn (run_cl1 hx I S (.cons rb (.cons ra .nil)) (.cons rfl (.cons rx .nil)) (p.bind (Q' := fun v' H' => ∃ w' h1 b, w'.H = H' ∧ Sim G w' h1 ∧ RV G w' b v' ∧ Post G w' (tru1 h1 b) Q (E σ)) fun v h1 w' x e S r q => ⟨w', h1, v, rfl, S, r, q⟩)) fun u' s1 h1 => ?_
        obtain ⟨x', H', I', ru, w', h1, b', rfl, S', r', q⟩ := h1
        exact tru1_ok I' S' r' ru q fun b hq => ⟨.bl b, w'.H, I', rfl, hq⟩
    · exact base2 p
  | notin =>
    simp only at p
    split at p
    · rename_i c fs e1
      unfold spC at p
      cases hs : T.sp c (.cmp .in_) with
      | none => rw [hs] at p; exact p.elim
      | some f =>
        rw [hs] at p
        obtain ⟨z1, z2⟩ := (show _ ∧ _ from hx.stc.sp c _ f hs)
        obtain ⟨q, ox, od, rfl, J⟩ := inst_of I S rb e1
        cases ry
        obtain ⟨m, hF⟩ := I.fr
        refine PySem.W.notIn_K hF I.ok.mod.kin J (hx.K ▸ z2) (hx.K ▸ z1) ?_
        refine thn (run_cl1 hx I S (.cons rb (.cons ra .nil)) (.cons rfl (.cons rx .nil)) (p.bind (Q' := fun v' H' => ∃ w' h1 b, w'.H = H' ∧ Sim G w' h1 ∧ RV G w' b v' ∧ Post G w' (notV h1 b) Q (E σ)) fun v h1 w' x e S r q => ⟨w', h1, v, rfl, S, r, q⟩)) fun u' s1 h1 => ?_
        obtain ⟨x', H', I', ru, w', h1, b', rfl, S', r', q⟩ := h1
        exact notV_ok I' S' r' ru q fun b hq => ⟨.bl (!b), w'.H, I', rfl, hq⟩
    · exact base2 p
  | is_ => exact base2 p
  | isnot => exact base2 p
  | eq => exact base (by decide) p
  | ne => exact base (by decide) p
  | lt => exact base (by decide) p
  | le => exact base (by decide) p
  | gt => exact base (by decide) p
  | ge => exact base (by decide) p
theorem binD_ok (hx : XC G T M F cl k X E) (op : BOp) (fz : Bool) : OpS X (binaryOp op.op) (fun σ => rd2 G (binD T cl op fz) (E σ)) := by
  intro pins s σ H x y v u Q I rx ry ⟨w, h, a, b, e, S, ra, rb, p⟩
  subst e
  unfold binD at p
  split at p
  · rename_i c fs e1
    split at p
    · rename_i d fs2 e2
      split at p
      · rename_i hd
        unfold spC at p
        cases hs : T.sp c (.bin op) with
        | none => rw [hs] at p; exact p.elim
        | some f =>
          rw [hs] at p
          obtain ⟨z1, z2, z3⟩ := (show _ ∧ _ ∧ _ from hx.stc.sp c _ f hs)
          obtain ⟨q, ox, od, rfl, J⟩ := inst_of I S ra e1
          obtain ⟨q2, ox2, od2, rfl, J2⟩ := inst_of I S rb e2
          cases rx; cases ry
          obtain ⟨m, hF⟩ := I.fr
          have go := wpAny_mono (run_cl1 hx I S (.cons ra (.cons rb .nil)) (.cons (show RelV (.ref q) (.ref q) from rfl) (.cons (show RelV (.ref q2) (.ref q2) from rfl) .nil)) p) (Q' := PySem.W.CmpBack (EP X pins σ Q)) (fun v s' hv => by
            obtain ⟨x', H', I', r', q'⟩ := hv
            exact cmpBack r' ⟨x', H', I', r', q'⟩) fun _ _ e => e
          rcases hx.stc.bin c op f d hs hd with rfl | hn
          · exact PySem.W.binop_K hF I.ok.mod.kin J J2.type (hx.K ▸ z2) (hx.K ▸ z3) (hx.K ▸ z1) go
          · exact binop_D hF I.ok.mod.kin J J2.type (hx.K ▸ hn) (hx.K ▸ z2) (hx.K ▸ z3) (hx.K ▸ z1) go
      · exact p.elim
    · exact p.elim
  · exact bin_ok hx.toXOk op fz pins s σ _ _ _ v u Q I rx ry ⟨w, h, a, b, rfl, S, ra, rb, p⟩
theorem subD_ok (hx : XC G T M F cl k X E) {value slice : Expr} (hsl : ∀ a i, subscripted slice true (.ref a) i = runValue (.builtin "lifetime.subscript" ⟨[.ref a, i], []⟩)) {x y : V} {v u : Value} (I : Inv X pins σ w.H s) (S : Sim G w h) (rx : RelV x v) (ry : RelV y u) {a b : Vl} (ra : RV G w a x) (rb : RV G w b y)
    (p : Post G w (subD T cl a b h) Q (E σ)) (hs : PlainIx slice) : wpAny (model X.prog X.w) X.A (subscriptTail value slice v u) (EP X pins σ Q) X.xe s := by
  unfold subD at p
  split at p
  · rename_i c fs e1
    unfold spC at p
    cases hs : T.sp c .getitem with
    | none => rw [hs] at p; exact p.elim
    | some f =>
      rw [hs] at p
      obtain ⟨z1, z2, z3⟩ := (show _ ∧ _ ∧ _ from hx.stc.sp c _ f hs)
      obtain ⟨q, ox, od, rfl, J⟩ := inst_of I S ra e1
      cases rx
      obtain ⟨m, hF⟩ := I.fr
      exact PySem.W.sub_K hF I.ok.mod.kin J (hx.K ▸ z3) (hx.K ▸ z2) (hx.K ▸ z1) (run_cl2 hx I S (.cons ra (.cons rb .nil)) (.cons rfl (.cons ry .nil)) p) (hsl _ _)
  · exact sub_ok hx.toXOk value slice pins s σ _ _ _ v u Q I rx ry ⟨w, h, a, b, rfl, S, ra, rb, p⟩ (hs _ _)
theorem post_noX {w : Wd} {r : Res Vl} {Q : VK} {E1 E2 : XK} (p : Post G w (noX r) Q E1) : Post G w r Q E2 := by
  cases r with
  | ok v h => exact p
  | ex c fs h => exact p.elim
  | st => exact p
theorem bltD_ok (hx : XC G T M F cl k X E) {E1 : XK} (b : Blt) (fz : Bool) : CallR X b.v (rdA G (bltD T cl b fz) E1) := by
  intro pins s σ H xs us Q I ru ⟨w, h, l, e, S, r, p⟩
  subst e
  unfold bltD at p
  split at p
  · rename_i v
    split at p
    · rename_i c fs e1
      unfold spC at p
      cases hs : T.sp c .len with
      | none => rw [hs] at p; exact p.elim
      | some f =>
        rw [hs] at p
        obtain ⟨z1, z2⟩ := (show _ ∧ _ from hx.stc.sp c _ f hs)
        obtain ⟨x, rfl, r1⟩ := r.one
        obtain ⟨q, ox, od, rfl, J⟩ := inst_of I S r1 e1
        obtain ⟨u, rfl, r3⟩ := vals1 ru
        cases r3
        obtain ⟨m, hF⟩ := I.fr
        refine PySem.W.len_K hF I.ok.mod.kin J (hx.K ▸ z2) (hx.K ▸ z1) ?_
        refine thn (run_cl2 hx I S (.cons r1 .nil) (.cons rfl .nil) (post_noX (PostG.bind (R := RV G) (Q' := fun v' H' => ∃ i, v' = .int i ∧ (0 ≤ i ∧ i < 1000000000) ∧ Q (.int i) H') p fun v h1 w' x e S r q => ?_))) fun u' s1 h1 => ?_
        · cases v with
          | int i =>
            obtain ⟨c, q⟩ := q.chk
            exact ⟨i, r.int', c, q.ok S (.int i)⟩
          | _ => exact q.elim
        · obtain ⟨x', H', I', ru, i, rfl, c, q⟩ := h1
          obtain ⟨t, rfl⟩ := ru
          exact ⟨⟨c.1, by omega⟩, .int i, H', I'.tok _, ⟨_, rfl⟩, q⟩
    · exact blt_ok hx.toXOk .len fz pins s σ _ _ us Q I ru ⟨w, h, _, rfl, S, r, p⟩
  · exact blt_ok hx.toXOk _ fz pins s σ _ _ us Q I ru ⟨w, h, _, rfl, S, r, p⟩
/-- comparisons that raise nothing -/
theorem cmpN_ok (hx : XC G T M F cl k X E) {E1 : XK} (op : COp) : OpR X (compareOp op.op) (rd2 G (fun a b h => (noX (cmpD T cl op a b h)).bind fun v h => tru1 h v) E1) := by
  intro pins s σ H x y v u Q I rx ry ⟨w, h, a, b, e, S, ra, rb, p⟩
  have key : ∀ r : Res Vl, Post G w ((noX r).bind fun v h => tru1 h v) Q E1 → Post G w (r.bind fun v h => tru1 h v) Q (E σ) := fun r p => by
    cases r with
    | ok v h =>
      cases v with
      | bl b => exact p
      | _ => exact p.elim
    | ex c fs h => exact p.elim
    | st => exact p
  exact cmpD_ok hx op pins s σ H x y v u Q I rx ry ⟨w, h, a, b, e, S, ra, rb, key _ p⟩
/-! rules for such operations -/
section
variable {a b : Expr} {ta tb : TE} {pos : Pos}
theorem pe_opS {op : Operator} {r : L2.St → R2} (ho : OpS X (binaryOp op) r) (ha : PE X a ta) (hb : PE X b tb) : PE X (.BinOp a op b pos) (fun σ H Q => tOp (r σ) ta tb σ H Q) :=
  ⟨fun pins s τ H Q I q => wpAny_BinOp (L2.binT ha hb I q fun v u s2 x y H2 I2 rx ry q2 => ho pins s2 τ H2 x y v u Q I2 rx ry q2)⟩
theorem pe_cmpS {op : CmpOp} {r : L2.St → R2} (ho : OpS X (compareOp op) r) (ha : PE X a ta) (hb : PE X b tb) (hm : behindInMarks op b = false) : PE X (.Compare a [op] [b] pos) (fun σ H Q => tOp (r σ) ta tb σ H Q) :=
  ⟨fun pins s τ H Q I q => wpAny_Compare1 (L2.binT ha hb I q fun v u s2 x y H2 I2 rx ry q2 => ho pins s2 τ H2 x y v u Q I2 rx ry q2) hm⟩
theorem pt_cmpS {op : CmpOp} {r : L2.St → R2} (ho : OpS X (compareOp op) r) (ha : PE X a ta) (hb : PE X b tb) (hm : behindInMarks op b = false) : PT X (.Compare a [op] [b] pos) (fun σ H Q => tOp (r σ) ta tb σ H fun x H' => ∃ k, x = .bl k ∧ Q k H') :=
  ⟨fun pins s τ H Q I q => wpAny_isTrue_Compare1 (thn (ha.run pins s τ H _ I q) fun v s1 ⟨x, H1, I1, r1, q1⟩ => thn (hb.run pins s1 τ H1 _ I1 q1) fun u s2 ⟨y, H2, I2, r2, q2⟩ =>
    thn (ho pins s2 τ H2 x y v u _ I2 r1 r2 q2) fun c s3 ⟨z, H3, I3, r3, k, e, q3⟩ => by
      subst e
      cases r3
      exact wpAny_truthy_bool ⟨H3, I3, q3⟩) hm⟩
end
end
end Core
end

section
set_option Elab.async false
set_option linter.all false
set_option maxRecDepth 100000
set_option maxHeartbeats 4000000
set_option autoImplicit false
/-! Core9: readings; truth, types, methods, stores, targets. -/
namespace Core
open PySem L2 PyProof.Rows

def Lcl (G : Gs) (w : Wd) (st : Lo) (σ : L2.St) : Prop := st.length = σ.length ∧ ∀ (i : Nat) (v : Vl), st[i]? = some (some v) → ∃ x, σ[i]? = some (some x) ∧ RV G w v x
theorem Lcl.ext0 {G : Gs} {w w' : Wd} {st : Lo} {σ : L2.St} (l : Lcl G w st σ) (e : Ext0 w w') : Lcl G w' st σ := ⟨l.1, fun i v q => let ⟨x, a, b⟩ := l.2 i v q; ⟨x, a, b.ext0 e⟩⟩
theorem Lcl.ext {G : Gs} {w w' : Wd} {st : Lo} {σ : L2.St} (l : Lcl G w st σ) (e : Ext w w') : Lcl G w' st σ := l.ext0 e.toExt0
theorem Lcl.set {G : Gs} {w : Wd} {st : Lo} {σ : L2.St} (l : Lcl G w st σ) (i : Nat) {v : Vl} {x : V} (r : RV G w v x) : Lcl G w (st.set i (some v)) (σ.set i (some x)) := by
  refine ⟨by simp [l.1], fun j u q => ?_⟩
  by_cases h : i = j
  · subst h
    rw [List.getElem?_set] at q
    split at q
    · split at q
      · rename_i hl
        cases q
        exact ⟨x, by rw [List.getElem?_set_self (by rw [← l.1]; exact hl)], r⟩
      · cases q
    · rename_i z; exact absurd rfl z
  · rw [List.getElem?_set_ne h] at q ⊢
    exact l.2 j u q
theorem Lcl.none {G : Gs} {w : Wd} {st : Lo} {σ : L2.St} (l : Lcl G w st σ) (i : Nat) : Lcl G w (st.set i none) (σ.set i none) := by
  refine ⟨by simp [l.1], fun j u q => ?_⟩
  by_cases h : i = j
  · subst h
    rw [List.getElem?_set] at q
    split at q
    · split at q <;> cases q
    · rename_i z; exact absurd rfl z
  · rw [List.getElem?_set_ne h] at q ⊢
    exact l.2 j u q
theorem Lcl.wipe {G : Gs} {w : Wd} {st : Lo} {σ : L2.St} (l : Lcl G w st σ) : ∀ vs : List Nat, Lcl G w (wipeL st vs) (L2.wipe σ vs)
  | [] => l
  | v :: vs => (l.wipe vs).none v

def rdE (G : Gs) (r : Lo → Hv → Res Vl) (E : L2.St → XK) : TE := fun σ H Q => ∃ (w : Wd) (h : Hv) (st : Lo), w.H = H ∧ Sim G w h ∧ Lcl G w st σ ∧ Post G w (r st h) Q (E σ)
def rdT (G : Gs) (r : Lo → Hv → Res Vl) (E : L2.St → XK) : TT := fun σ H Q => rdE G r E σ H fun v H' => ∃ b, v = .bl b ∧ Q b H'
def rdEs (G : Gs) (r : Lo → Hv → Res (List Vl)) (E : L2.St → XK) : TA := fun σ H Q => ∃ (w : Wd) (h : Hv) (st : Lo), w.H = H ∧ Sim G w h ∧ Lcl G w st σ ∧ PostG G (RVs G) w (r st h) Q (E σ)
def rdO (G : Gs) (r : Lo → Hv → Res (Option Int)) (E : L2.St → XK) : TO := fun σ H Q => ∃ (w : Wd) (h : Hv) (st : Lo), w.H = H ∧ Sim G w h ∧ Lcl G w st σ ∧ PostG G (fun _ a b => a = b) w (r st h) Q (E σ)
section
variable {X : Cx} {x : Expr} {xs : List Expr}
theorem pe_imp {t t' : TE} (h : PE X x t) (k : ∀ σ H Q, t' σ H Q → t σ H Q) : PE X x t' := ⟨fun pins s σ H Q I q => h.run pins s σ H Q I (k σ H Q q)⟩
theorem pt_imp {t t' : TT} (h : PT X x t) (k : ∀ σ H Q, t' σ H Q → t σ H Q) : PT X x t' := ⟨fun pins s σ H Q I q => h.run pins s σ H Q I (k σ H Q q)⟩
theorem pa_imp {t t' : TA} (h : PA X xs t) (k : ∀ σ H Q, t' σ H Q → t σ H Q) : PA X xs t' := ⟨fun pos pins s σ H Q I q => h.run pos pins s σ H Q I (k σ H Q q)⟩
theorem po_imp {x : Option Expr} {t t' : TO} (h : PO X x t) (k : ∀ σ H Q, t' σ H Q → t σ H Q) : PO X x t' := ⟨fun pins s σ H Q I q => h.run pins s σ H Q I (k σ H Q q)⟩
end
section
variable {G : Gs} {T : Tab} {M : Nm} {F : Fcts} {cl : Cl} {k : Nat} {X : Cx} {E : L2.St → XK} {E1 : XK} {w : Wd} {h : Hv} {Q : VK}
/-- the kit's truth, and that of a dict that is locked -/
def TruV2 (K : PySem.W.Frag) (x : V) (H : Hp) (k : Bool) : Prop := TruV K x H k ∨ ∃ p kvs, x = .ref p ∧ Rd H p (.dK kvs) ∧ k = !kvs.isEmpty
theorem tru2_ok {X : Cx} : TruR X (fun x H Q => ∃ k, TruV2 X.K x H k ∧ Q k H) := by
  intro pins s σ H x v Q I rx h
  obtain ⟨k, e | ⟨p, kvs, rfl, e, rfl⟩, q⟩ := h
  · exact tru_ok pins s σ H x v Q I rx ⟨k, e, q⟩
  · cases rx
    exact d_truth I e fun s' I' => ⟨H, I', q⟩
theorem pe_orT2 {X : Cx} {a b : Expr} {ta tb : TE} {rest : List Expr} {pos : Pos} (ha : PE X a ta) (hb : PE X (.BoolOp .Or (b :: rest) pos) tb) : PE X (.BoolOp .Or (a :: b :: rest) pos) (fun σ H Q => ta σ H fun x H1 => ∃ k, TruV2 X.K x H1 k ∧ if k = true then Q x H1 else tb σ H1 Q) := by
  refine ⟨fun pins s σ H Q I h => ?_⟩
  refine BoolOp_or (thn (ha.run pins s σ H _ I h) fun v s1 ⟨x, H1, I1, r1, q1⟩ => ?_)
  obtain ⟨k, e, q1⟩ := q1
  refine thn (tru2_ok pins s1 σ H1 x v (fun c H2 => c = k ∧ H2 = H1) I1 r1 ⟨k, e, rfl, rfl⟩) fun c s2 hc => ?_
  obtain ⟨H2, I2, e1, e2⟩ := hc
  rw [e2] at I2
  rw [← e1] at q1
  cases c with
  | true => exact ⟨x, H1, I2, r1, q1⟩
  | false => exact hb.run pins s2 σ H1 Q I2 q1
theorem pe_andT2 {X : Cx} {a b : Expr} {ta tb : TE} {rest : List Expr} {pos : Pos} (ha : PE X a ta) (hb : PE X (.BoolOp .And (b :: rest) pos) tb) : PE X (.BoolOp .And (a :: b :: rest) pos) (fun σ H Q => ta σ H fun x H1 => ∃ k, TruV2 X.K x H1 k ∧ if k = true then tb σ H1 Q else Q x H1) := by
  refine ⟨fun pins s σ H Q I h => ?_⟩
  refine BoolOp_and (thn (ha.run pins s σ H _ I h) fun v s1 ⟨x, H1, I1, r1, q1⟩ => ?_)
  obtain ⟨k, e, q1⟩ := q1
  refine thn (tru2_ok pins s1 σ H1 x v (fun c H2 => c = k ∧ H2 = H1) I1 r1 ⟨k, e, rfl, rfl⟩) fun c s2 hc => ?_
  obtain ⟨H2, I2, e1, e2⟩ := hc
  rw [e2] at I2
  rw [← e1] at q1
  cases c with
  | true => exact hb.run pins s2 σ H1 Q I2 q1
  | false => exact ⟨x, H1, I2, r1, q1⟩
theorem pt_truth2 {X : Cx} {a : Expr} {ta : TE} (ha : PE X a ta) (he : ∀ whole, isTrue a X.env whole = (do let v ← whole; standAt a.pos; holding [v] (truthy v))) :
    PT X a (fun σ H Q => ta σ H fun x H' => ∃ k, TruV2 X.K x H' k ∧ Q k H') := by
  refine ⟨fun pins s σ H Q I h => ?_⟩
  exact isTrue_plain (thn (ha.run pins s σ H _ I h) fun v s1 ⟨x, H1, I1, r1, q1⟩ => tru2_ok pins s1 σ H1 x v Q I1 r1 q1) (he _)
theorem truV_ok (hx : XOk G X) (S : Sim G w h) {v : Vl} {x : V} {b : Bool} (r : RV G w v x) (e : truV h v = some b) : TruV2 X.K x w.H b := by
  have em : ∀ {l : List Vl} {vs : List V}, RVs G w l vs → (!l.isEmpty) = !vs.isEmpty := fun r => by cases r <;> rfl
  have emk : ∀ {l : List (Key × Vl)} {vs : List (Key × V)}, RKs G w l vs → (!l.isEmpty) = !vs.isEmpty := fun r => by cases r <;> rfl
  cases v with
  | non => cases r; cases e; exact .inl rfl
  | bl c => cases r; cases e; exact .inl rfl
  | int i => cases r; cases e; exact .inl rfl
  | str s =>
    cases r
    simp only [truV] at e
    split at e
    · rename_i c; cases e; exact .inl ⟨by rw [← lim_eq]; exact c, rfl⟩
    · cases e
  | tup l => obtain ⟨a, vs, rfl, hq, r⟩ := r.tup'; cases e; exact .inl (.inr (.inl ⟨vs, hx.K ▸ hq, em r⟩))
  | fl l =>
    obtain ⟨a, vs, rfl, hq, r⟩ := asL_ok S r (show asL h (.fl l) = some l from rfl)
    cases e; exact .inl (.inl ⟨vs, hx.K ▸ hq, em r⟩)
  | fd l =>
    cases e
    cases r with
    | fd hq r => exact .inr ⟨_, _, rfl, hq.1, emk r⟩
  | fo c fs => cases e
  | ref n =>
    cases r with
    | ref hn =>
      simp only [truV] at e
      split at e
      · rename_i l hc
        obtain ⟨vs, h1, h2⟩ := S.ok _ _ _ hc hn
        cases e; exact .inl (.inl ⟨vs, .inl (.inl h1), em h2⟩)
      · rename_i l hc
        obtain ⟨vs, h1, h2⟩ := S.ok _ _ _ hc hn
        cases e; exact .inl (.inr (.inr ⟨vs, h1, emk h2⟩))
      · cases e
theorem pt_of_pe (hx : XOk G X) {x : Expr} {r : Lo → Hv → Res Vl} (hp : PE X x (rdE G r E)) (he : ∀ whole, isTrue x X.env whole = (do let v ← whole; standAt x.pos; holding [v] (truthy v))) :
    PT X x (rdT G (fun s h => tw true (r s h)) E) := by
  refine pt_imp (pt_truth2 hp he) fun σ H Q q => ?_
  obtain ⟨w, h, st, rfl, S, L, p⟩ := q
  refine ⟨w, h, st, rfl, S, L, PostG.bind p fun v h1 w' x e S' r' q => ?_⟩
  split at q
  · rename_i b hb
    obtain ⟨c, e1, q⟩ := q.ok S' (.bl b)
    cases e1
    exact ⟨b, truV_ok hx S' r' hb, q⟩
  · exact q.elim
/-! ### types -/
structure IsC (K : PySem.W.Frag) (C : Addr) : Prop where
  cl : Cls K C
  ha : PySem.W.findIn K (.ref C) "__class__" = some (some (.builtin "object.__class__"))
  hn : PySem.W.specialIn K (.builtin "object.__class__") "__get__" = some (some (.builtin "getset_descriptor.__get__"))
  ht : PySem.W.takesIn K (.builtin "object.__class__") = some true
  hm : PySem.W.mroIn K C (.type "object") = some true
/-- what isinstance must know of the classes -/
structure IsT (G : Gs) (T : Tab) (M : Nm) : Prop where
  own : ∀ c, T.isC c = true → IsC G.K (G.cA c)
  a : ∀ c t n, T.isC c = true → Ty.nameS t = some n → PySem.W.kitOne G.K (.ref (G.cA c)) (.type n) = some false
  b : ∀ d x n, M.clN d = some x → n ∈ ["NoneType", "bool", "int", "str", "tuple", "list", "dict"] → PySem.W.kitOne G.K (.type n) (.ref (G.cA d)) = some false
  c : ∀ c d x, T.isC c = true → M.clN d = some x → PySem.W.kitOne G.K (.ref (G.cA c)) (.ref (G.cA d)) = some (decide (c = d))
/-- the class as a value -/
inductive TyV (G : Gs) (M : Nm) : Ty → V → Value → Prop
  | b {t : Ty} {n : String} (e : t.nameS = some n) : TyV G M t (.ty n) (.type n)
  | c {d : Nat} {x : Str} (e : M.clN d = some x) : TyV G M (.cls d) (.ref (G.cA d)) (.ref (G.cA d))
theorem TyV.clsV {t : Ty} {c : V} {u : Value} (h : TyV G M t c u) : ClsV c u := by
  cases h with
  | b e => exact .ty _
  | c e => exact .own _
theorem tyB_ok (ti : IsT G T M) {n : String} {t : Ty} {c : V} {u : Value} {b : Bool} (k : TyV G M t c u) (hn : n ∈ ["NoneType", "bool", "int", "str", "tuple", "list", "dict"]) (e : tyB n t = some b) : PySem.W.kitOne G.K (.type n) u = some b := by
  cases k with
  | b e1 => unfold tyB at e; rw [e1] at e; exact kit_ty e
  | c e1 => unfold tyB at e; cases e; exact ti.b _ _ _ e1 hn
theorem tyC_ok (ti : IsT G T M) {c : Nat} {t : Ty} {cv : V} {u : Value} {b : Bool} (k : TyV G M t cv u) (e : tyC T c t = some b) : IsC G.K (G.cA c) ∧ PySem.W.kitOne G.K (.ref (G.cA c)) u = some b := by
  unfold tyC at e
  split at e
  · rename_i hc
    refine ⟨ti.own c hc, ?_⟩
    cases k with
    | @b t n e1 =>
      cases t <;> first | (cases e; exact ti.a c _ _ hc e1) | cases e1
    | c e1 => cases e; exact ti.c _ _ _ hc e1
  · cases e
theorem tyF_ok (hx : XOk G X) (ti : IsT G T M) (S : Sim G w h) {v : Vl} {x : V} {t : Ty} {c : V} {u : Value} {b : Bool} (r : RV G w v x) (k : TyV G M t c u) (e : tyF T h v t = some b) : ∃ tx, TyX X.K w.H x tx ∧ PySem.W.kitOne X.K tx u = some b := by
  rw [hx.K]
  have lst : ∀ {a vs}, FzL G.K w a vs → ∀ {b}, tyB "list" t = some b → ∃ tx, TyX G.K w.H (.ref a) tx ∧ PySem.W.kitOne G.K tx u = some b := fun hq b e => by
    have z := tyB_ok ti k (by simp) e
    rcases hq with ⟨h1 | ⟨o, h1⟩, _⟩ | ⟨o, its, n, h1, h2, h3, h4, _⟩
    · exact ⟨_, .base (.lst h1), z⟩
    · exact ⟨_, .base (.frz h1), z⟩
    · exact ⟨_, .kList h1 h2, z⟩
  cases v with
  | non => cases r; exact ⟨_, .base .non, tyB_ok ti k (by simp) e⟩
  | bl y => cases r; exact ⟨_, .base (.bl y), tyB_ok ti k (by simp) e⟩
  | int y => cases r; exact ⟨_, .base (.int y), tyB_ok ti k (by simp) e⟩
  | str y => cases r; exact ⟨_, .base (.str y), tyB_ok ti k (by simp) e⟩
  | tup l =>
    cases r with
    | tup hq r =>
      have z := tyB_ok ti k (by simp) e
      rcases hq with ⟨h1 | ⟨o, h1⟩, _⟩ | ⟨o, its, n, h1, h2, h3, _⟩
      · exact ⟨_, .base (.tup h1), z⟩
      · exact ⟨_, .fTuple h1, z⟩
      · exact ⟨_, .kTuple h1 h2, z⟩
  | fl l => cases r with | fl hq r => exact lst hq e
  | fd l =>
    cases r with
    | fd hq r =>
      rcases hq.1 with h1 | ⟨o, h1⟩
      · exact ⟨_, .base (.dK h1), tyB_ok ti k (by simp) e⟩
      · exact ⟨_, .fDict h1, tyB_ok ti k (by simp) e⟩
  | fo c fs =>
    cases r with
    | fo hq r =>
      obtain ⟨i, z⟩ := tyC_ok ti k e
      exact ⟨_, .base (.ins hq.1 i.cl i.ha i.hn i.ht i.hm), z⟩
  | ref n =>
    cases r with
    | ref hn =>
      simp only [tyF] at e
      split at e
      · rename_i l hc
        obtain ⟨vs, h1, h2⟩ := S.ok _ _ _ hc hn
        exact ⟨_, .base (.lst h1), tyB_ok ti k (by simp) e⟩
      · rename_i l hc
        obtain ⟨vs, h1, h2⟩ := S.ok _ _ _ hc hn
        exact ⟨_, .base (.dK h1), tyB_ok ti k (by simp) e⟩
      · rename_i c l hc
        obtain ⟨dx, vs, h1, h2⟩ := S.ok _ _ _ hc hn
        obtain ⟨i, z⟩ := tyC_ok ti k e
        exact ⟨_, .base (.ins h1 i.cl i.ha i.hn i.ht i.hm), z⟩
      · cases e

/-! ### fields -/
theorem RFs.look {w : Wd} (fnd : G.fN.Nodup) : ∀ {fs : List (Nat × Vl)} {fs' : List (Str × V)} {f : Nat} {x : Str} {v : Vl}, RFs G w fs fs' → G.fN[f]? = some x → fs.lookup f = some v → ∃ y, fs'.lookup x = some y ∧ RV G w v y
  | _, _, _, _, _, .nil, _, e => by cases e
  | _, _, f, x, v, @RFs.cons _ _ k g u y l m eg r t, ex, e => by
    by_cases hk : f = k
    · subst hk
      rw [eg] at ex; cases ex
      simp only [List.lookup_cons, beq_self_eq_true, Option.some.injEq] at e
      subst e
      exact ⟨y, by simp, r⟩
    · have hf : (f == k) = false := by simpa using hk
      simp only [List.lookup_cons, hf] at e
      obtain ⟨z, h1, h2⟩ := RFs.look fnd t ex e
      have hx : (x == g) = false := by
        rw [beq_eq_false_iff_ne]
        intro q; subst q
        exact hk (Sim.write0.nodup_ix' fnd ex eg)
      exact ⟨z, by simp only [List.lookup_cons, hx]; exact h1, h2⟩
theorem RFs.noneOf {w : Wd} {x : Str} (hx : x ∉ G.fN) : ∀ {fs : List (Nat × Vl)} {fs' : List (Str × V)}, RFs G w fs fs' → fs'.lookup x = none
  | _, _, .nil => rfl
  | _, _, @RFs.cons _ _ k g u y l m eg r t => by
    have : (x == g) = false := by
      rw [beq_eq_false_iff_ne]
      intro q; subst q
      exact hx (List.mem_of_getElem? eg)
    simp only [List.lookup_cons, this]
    exact RFs.noneOf hx t
theorem RFs.put {w : Wd} (fnd : G.fN.Nodup) {f : Nat} {x : Str} {v : Vl} {y : V} (ex : G.fN[f]? = some x) (r : RV G w v y) : ∀ {fs : List (Nat × Vl)} {fs' : List (Str × V)}, RFs G w fs fs' → RFs G w (Core.putF f v fs) (L2.putF x y fs')
  | _, _, .nil => .cons ex r .nil
  | _, _, @RFs.cons _ _ k g u z l m eg r' t => by
    unfold Core.putF L2.putF
    by_cases hk : k = f
    · subst hk
      rw [eg] at ex; cases ex
      simp only [if_true]
      exact .cons eg r t
    · have : g ≠ x := fun q => by subst q; exact hk (Sim.write0.nodup_ix' fnd eg ex)
      simp only [if_neg hk, if_neg this]
      exact .cons eg r' (RFs.put fnd ex r t)
theorem RFs.length {w : Wd} : ∀ {fs : List (Nat × Vl)} {fs' : List (Str × V)}, RFs G w fs fs' → fs.length = fs'.length
  | _, _, .nil => rfl
  | _, _, .cons _ _ t => by simp [RFs.length t]
/-! ### methods of built-in types -/
theorem bmL_ok (hx : XOk G X) (S : Sim G w h) {o : Vl} {x : V} (r : RV G w o x) (e : bmK.isLst h o = true) : tyV X.K "list" x w.H := by
  unfold bmK.isLst at e
  split at e
  · rename_i n
    cases r with
    | ref hn =>
      split at e
      · rename_i l hc
        obtain ⟨vs, h1, _⟩ := S.ok _ _ _ hc hn
        exact .inl ⟨rfl, vs, .inl (.inl h1)⟩
      · cases e
  · cases e
def rdM (G : Gs) (m : BM) (fz : Bool) (E : XK) : V → List V → Hp → VK → Prop := fun x xs H Q => ∃ (w : Wd) (h : Hv) (o : Vl) (l : List Vl), w.H = H ∧ Sim G w h ∧ RV G w o x ∧ RVs G w l xs ∧ Post G w (bmF m fz o l h) Q E
theorem wr_lst (S : Sim G w h) {n : Nat} {a : Addr} {l l' : List Vl} {vs' : List V} (ha : w.φ[n]? = some a) (hc : h[n]? = some (.lst l)) (r : RVs G w l' vs') :
    Sim G { w with H := upd w.H a (.lst vs') } (h.set n (.lst l')) ∧ Ext w { w with H := upd w.H a (.lst vs') } :=
  S.write ha hc rfl (fun z => nomatch z) (fun b u hb e => by show upd w.H a _ b = _; rw [upd_ne hb]; exact e) fun x => ⟨vs', upd_same, r.ext x⟩
theorem wr_dct (S : Sim G w h) {n : Nat} {a : Addr} {l l' : List (Key × Vl)} {vs' : List (Key × V)} (ha : w.φ[n]? = some a) (hc : h[n]? = some (.dct l)) (r : RKs G w l' vs') :
    Sim G { w with H := upd w.H a (.dK vs') } (h.set n (.dct l')) ∧ Ext w { w with H := upd w.H a (.dK vs') } :=
  S.write ha hc rfl (fun z => nomatch z) (fun b u hb e => by show upd w.H a _ b = _; rw [upd_ne hb]; exact e) fun x => ⟨vs', upd_same, r.ext x⟩
theorem mt_app (hx : XOk G X) (fz : Bool) : MtR X "list.append" (rdM G .append fz E1) := by
  intro pins s σ H x xs v us Q I rx rs ⟨w, h, o, l, e, S, ro, rl, p⟩
  subst e
  unfold bmF appF at p
  simp only at p
  split at p
  · rename_i n
    cases ro with
    | ref hn =>
      split at p
      · rename_i l0 hc
        split at p
        · obtain ⟨y, rfl, ry⟩ := rl.one
          obtain ⟨c, p⟩ := p.chk
          obtain ⟨vs, h1, h2⟩ := S.ok _ _ _ hc hn
          obtain ⟨S', e'⟩ := wr_lst S hn hc (h2.append (.cons ry .nil))
          exact mt_append pins s σ _ _ _ v us Q I rx rs ⟨_, vs, y, rfl, rfl, h1, by rw [← lim_eq, ← h2.length]; exact c, p.okE e' S' .non⟩
        · exact p.elim
      · exact p.elim
  · exact p.elim
theorem mt_insL (hx : XOk G X) (fz : Bool) : MtR X "list.insert" (rdM G .insert fz E1) := by
  intro pins s σ H x xs v us Q I rx rs ⟨w, h, o, l, e, S, ro, rl, p⟩
  subst e
  unfold bmF insF at p
  simp only at p
  split at p
  · rename_i n
    cases ro with
    | ref hn =>
      split at p
      · rename_i l0 hc
        split at p
        · rename_i i v0
          obtain ⟨y1, y2, rfl, ry1, ry2⟩ := rl.two
          cases ry1.int'
          obtain ⟨c, p⟩ := p.chk
          obtain ⟨vs, h1, h2⟩ := S.ok _ _ _ hc hn
          obtain ⟨S', e'⟩ := wr_lst S hn hc (((h2.take i.toNat).append (.cons ry2 .nil)).append (h2.drop i.toNat))
          exact mt_insert pins s σ _ _ _ v us Q I rx rs ⟨_, vs, i, y2, rfl, rfl, h1, by rw [← lim_eq, ← h2.length]; exact c.1, c.2.1, by have := c.2.2; unfold LIM at this; omega, p.okE e' S' .non⟩
        · exact p.elim
      · exact p.elim
  · exact p.elim
theorem mt_popL (hx : XOk G X) (fz : Bool) : MtR X "list.pop" (rdM G .pop fz E1) := by
  intro pins s σ H x xs v us Q I rx rs ⟨w, h, o, l, e, S, ro, rl, p⟩
  subst e
  unfold bmF popF at p
  simp only at p
  split at p
  · rename_i n
    cases ro with
    | ref hn =>
      split at p
      · rename_i l0 hc
        split at p
        · cases rl
          obtain ⟨vs, h1, h2⟩ := S.ok _ _ _ hc hn
          split at p
          · rename_i v0 hv
            obtain ⟨y, hy, ry⟩ := h2.get hv
            rw [h2.length] at hy
            have hd : RVs G w l0.dropLast vs.dropLast := by
              rw [List.dropLast_eq_take, List.dropLast_eq_take, h2.length]
              exact h2.take _
            obtain ⟨S', e'⟩ := wr_lst S hn hc hd
            exact mt_pop pins s σ _ _ _ v us Q I rx rs ⟨_, vs, y, rfl, rfl, h1, hy, p.okE e' S' (ry.ext e')⟩
          · exact p.elim
        · exact p.elim
      · exact p.elim
  · exact p.elim
theorem mt_joinS (hx : XOk G X) (fz : Bool) : MtR X "str.join" (rdM G .join fz E1) := by
  intro pins s σ H x xs v us Q I rx rs ⟨w, h, o, l, e, S, ro, rl, p⟩
  subst e
  unfold bmF joinF at p
  simp only at p
  split at p
  · rename_i a
    cases ro.str'
    split at p
    · obtain ⟨y, rfl, ry⟩ := rl.one
      split at p
      · rename_i ks e1
        simp only [Option.bind_eq_some_iff] at e1
        obtain ⟨m, e1, e2⟩ := e1
        obtain ⟨q, vs, rfl, hq, r2⟩ := asL_ok S ry e1
        obtain ⟨c, p⟩ := p.chk
        cases strs_ok r2 e2
        exact mt_join pins s σ _ _ _ v us Q I rx rs ⟨a, q, ks, rfl, rfl, .inl (hx.K ▸ hq), c, p.ok S (.str _)⟩
      · exact p.elim
    · exact p.elim
  · exact p.elim
/-! ### stores -/
def rdSet (G : Gs) (T : Tab) (cl : Cl) (E : XK) : TSet := fun o i v H Q => ∃ (w : Wd) (h : Hv) (a b c : Vl), w.H = H ∧ Sim G w h ∧ RV G w a o ∧ RV G w b i ∧ RV G w c v ∧ PostG G (fun _ (_ : Unit) (_ : Unit) => True) w (setD T cl a b c h) (fun _ H => Q H) E
theorem setD_ok (hx : XC G T M F cl k X E) : PSet X (rdSet G T cl E1) := by
  intro pins s σ H o i v ov iv u Q I ro ri rv ⟨w, h, a, b, c, e, S, ra, rb, rc, p⟩
  subst e
  unfold setD at p
  split at p
  · rename_i n
    cases ra with
    | ref hn =>
      split at p
      · rename_i l hc
        obtain ⟨vs, h1, h2⟩ := S.ok _ _ _ hc hn
        split at p
        · rename_i kk
          cases rb.int'
          split at p
          · rename_i j hj
            obtain ⟨S', e'⟩ := wr_lst S hn hc (h2.set j rc)
            exact set_list pins s σ _ _ _ _ ov iv u Q I ro ri rv ⟨_, vs, kk, j, rfl, rfl, h1, by rw [← h2.length]; exact hj, p.okE (x := ()) e' S' trivial⟩
          · exact p.elim
        · exact p.elim
      · rename_i l hc
        obtain ⟨vs, h1, h2⟩ := S.ok _ _ _ hc hn
        split at p
        · rename_i kk hk
          cases key_shape rb hk
          obtain ⟨c, p⟩ := p.chk
          obtain ⟨S', e'⟩ := wr_dct S hn hc (put_ok h2 kk rc)
          exact set_dict (by have := hx.un; omega) pins s σ _ _ _ _ ov iv u Q I ro ri rv ⟨_, _, rfl, .inl ⟨vs, kk, h1, rfl, by rw [← lim_eq, ← h2.length]; exact c, rfl⟩, p.okE (x := ()) e' S' trivial⟩
        · exact p.elim
      · rename_i c0 fs hc
        unfold spC at p
        cases hs : T.sp c0 .setitem with
        | none => rw [hs] at p; exact p.elim
        | some f =>
          rw [hs] at p
          obtain ⟨z1, z2, z3⟩ := (show _ ∧ _ ∧ _ from hx.stc.sp c0 _ f hs)
          obtain ⟨q, ox, od, eo, J⟩ := inst_of (c := c0) (fs := fs) I S (.ref hn) (by simp only [asO, hc])
          cases eo
          cases ro
          obtain ⟨m, hF⟩ := I.fr
          refine PySem.W.ksp_setItem hF I.ok.mod.kin J (hx.K ▸ z2) (hx.K ▸ z3) (hx.K ▸ z1) ?_
          refine thn (run_cl1 hx I S (.cons (.ref hn) (.cons rb (.cons rc .nil))) (.cons rfl (.cons ri (.cons rv .nil))) (post_noX (PostG.bind (R := RV G) (Q' := fun _ H' => Q H') p fun v h1 w' x e S r q => q.ok (x := ()) S trivial))) fun u' s1 h1 => ?_
          obtain ⟨x', H', I', _, q⟩ := h1
          exact ⟨H', I', q⟩
      · exact p.elim
  · exact p.elim
def rdIp (G : Gs) (T : Tab) (cl : Cl) (op : BOp) (E : XK) : TIp := rd2 G (augD T cl op) E
theorem augD_ok (hx : XC G T M F cl k X E) (op : BOp) (ho : op = .add ∨ op = .sub) : PIp X op.op (rdIp G T cl op E1) := by
  intro pins s σ H x y v u Q I rx ry ⟨w, h, a, b, e, S, ra, rb, p⟩
  subst e
  unfold augD at p
  split at p
  · rename_i c fs e1
    split at p
    · unfold spC at p
      cases hs : T.sp c .iadd with
      | none => rw [hs] at p; exact p.elim
      | some f =>
        rw [hs] at p
        obtain ⟨z1, z2, z3⟩ := (show _ ∧ _ ∧ _ from hx.stc.sp c _ f hs)
        obtain ⟨q, ox, od, rfl, J⟩ := inst_of I S ra e1
        cases rx
        obtain ⟨m, hF⟩ := I.fr
        refine PySem.W.ksp_inplace hF I.ok.mod.kin J (hx.K ▸ z2) (hx.K ▸ z3) (hx.K ▸ z1) ?_
        exact wpAny_mono (run_cl1 hx I S (.cons ra (.cons rb .nil)) (.cons rfl (.cons ry .nil)) (post_noX p)) (fun v s' hv => by
          obtain ⟨x', H', I', r', q'⟩ := hv
          exact cmpBack r' ⟨x', H', I', r', q'⟩) fun _ _ e => e
    · exact p.elim
  · unfold augF at p
    split at p
    · cases ra.int'; cases rb.int'
      rcases ho with rfl | rfl
      · exact ip_add pins s σ _ _ _ v u Q I rx ry ⟨_, _, rfl, rfl, p.ok S (.int _)⟩
      · exact ip_sub pins s σ _ _ _ v u Q I rx ry ⟨_, _, rfl, rfl, p.ok S (.int _)⟩
    · exact p.elim
end
end Core
end

section
set_option Elab.async false
set_option linter.all false
set_option maxRecDepth 100000
set_option maxHeartbeats 4000000
set_option autoImplicit false
/-! Core10: targets, walks, loops, comprehensions. -/
namespace Core
open PySem L2 PyProof.Rows

def PostW {α : Type} (G : Gs) (w : Wd) (r : Res α) (P : α → Wd → Hv → Prop) (E : XK) : Prop := match r with
  | .ok v h => ∀ w', Ext w w' → Sim G w' h → P v w' h
  | .ex c fs h => ∀ w' cls od, Ext w w' → Sim G w' h → ExOk G w' c fs cls od → E cls od w'.H
  | .st => False
theorem PostW.ext {α : Type} {G : Gs} {w w1 : Wd} {r : Res α} {P : α → Wd → Hv → Prop} {E : XK} (p : PostW G w r P E) (e : Ext w w1) : PostW G w1 r P E := by
  cases r with
  | ok v h => exact fun w' e' S => p w' (e.trans e') S
  | ex c fs h => exact fun w' cls od e' S r => p w' cls od (e.trans e') S r
  | st => exact p
theorem PostW.mono {α : Type} {G : Gs} {w : Wd} {r : Res α} {P P' : α → Wd → Hv → Prop} {E : XK} (p : PostW G w r P E) (k : ∀ v w' h, Ext w w' → Sim G w' h → P v w' h → P' v w' h) : PostW G w r P' E := by
  cases r with
  | ok v h => exact fun w' e' S => k _ _ _ e' S (p w' e' S)
  | ex c fs h => exact p
  | st => exact p
/-- from a statement about what follows -/
theorem PostW.bind {α β γ : Type} {G : Gs} {R : Wd → α → β → Prop} {w : Wd} {r : Res α} {f : α → Hv → Res γ} {P : γ → Wd → Hv → Prop} {E : XK} {Q' : β → Hp → Prop} (p : PostW G w (r.bind f) P E)
    (k : ∀ v h1 w' x, Ext w w' → Sim G w' h1 → R w' v x → PostW G w' (f v h1) P E → Q' x w'.H) : PostG G R w r Q' E := by
  cases r with
  | ok v h => exact fun w' x e S r => k v h w' x e S r (PostW.ext (show PostW G w (f v h) P E from p) e)
  | ex c fs h => exact p
  | st => exact p
theorem PostW.bindW {α γ : Type} {G : Gs} {w : Wd} {r : Res α} {f : α → Hv → Res γ} {P : γ → Wd → Hv → Prop} {E : XK} {P' : α → Wd → Hv → Prop} (p : PostW G w (r.bind f) P E)
    (k : ∀ v h1 w', Ext w w' → Sim G w' h1 → PostW G w' (f v h1) P E → P' v w' h1) : PostW G w r P' E := by
  cases r with
  | ok v h => exact fun w' e S => k v h w' e S (PostW.ext (show PostW G w (f v h) P E from p) e)
  | ex c fs h => exact p
  | st => exact p
theorem PostW.ofO {α : Type} {G : Gs} {w : Wd} {o : Option α} {h : Hv} {P : α → Wd → Hv → Prop} {E : XK} (p : PostW G w (ofO o h) P E) : ∃ a, o = some a ∧ PostW G w (.ok a h) P E := by
  cases o with
  | none => exact p.elim
  | some a => exact ⟨a, rfl, p⟩
theorem PostW.chk {α : Type} {G : Gs} {w : Wd} {r : Res α} {c : Prop} [Decidable c] {P : α → Wd → Hv → Prop} {E : XK} (p : PostW G w (chk c r) P E) : c ∧ PostW G w r P E := by
  unfold Core.chk at p
  by_cases h : c
  · rw [if_pos h] at p; exact ⟨h, p⟩
  · rw [if_neg h] at p; exact p.elim
theorem PostW.ok {α : Type} {G : Gs} {w : Wd} {v : α} {h : Hv} {P : α → Wd → Hv → Prop} {E : XK} (p : PostW G w (.ok v h) P E) (S : Sim G w h) : P v w h := p w (.refl w) S
/-! ### targets -/
theorem wipe_at (σ : L2.St) (j : Nat) : ∀ vs : List Nat, (wipe σ vs)[j]? = if j ∈ vs then (σ[j]?).map (fun _ => none) else σ[j]?
  | [] => by simp [wipe]
  | v :: vs => by
    unfold wipe
    rw [List.getElem?_set]
    by_cases h : v = j
    · subst h
      simp only [if_true, List.mem_cons, true_or, wipe_length]
      by_cases hl : v < σ.length
      · simp [hl]
      · simp [hl]
    · have h' : ¬ j = v := fun z => h z.symm
      simp only [if_neg h, List.mem_cons, h', false_or]
      exact wipe_at σ j vs
theorem wipe_set {σ : L2.St} {i : Nat} {x : Option V} {vs : List Nat} (hi : i ∈ vs) : wipe (σ.set i x) vs = wipe σ vs := by
  apply List.ext_getElem?
  intro j
  rw [wipe_at, wipe_at]
  by_cases h : i = j
  · subst h
    simp only [hi, if_true, List.getElem?_set]
    by_cases hl : i < σ.length
    · simp [hl]
    · simp [hl]
  · rw [List.getElem?_set_ne h]
def rdG (G : Gs) (t : CT) : TG := fun x σ H Q => ∃ (w : Wd) (h : Hv) (st st1 : Lo) (v : Vl), w.H = H ∧ Sim G w h ∧ Lcl G w st σ ∧ RV G w v x ∧ asgT t v st = some st1 ∧
  ∀ σ', Lcl G w st1 σ' → (∀ vs, ctIn vs t = true → wipe σ' vs = wipe σ vs) → Q σ' H
def rdGs (G : Gs) (t : CTs) : TGs := fun xs σ H Q => ∃ (w : Wd) (h : Hv) (st st1 : Lo) (l : List Vl), w.H = H ∧ Sim G w h ∧ Lcl G w st σ ∧ RVs G w l xs ∧ asgTs t l st = some st1 ∧
  ∀ σ', Lcl G w st1 σ' → (∀ vs, ctsIn vs t = true → wipe σ' vs = wipe σ vs) → Q σ' H
section
variable {G : Gs} {X : Cx}
theorem pg_imp {x : Expr} {t t' : TG} (h : PG X x t) (k : ∀ v σ H Q, t' v σ H Q → t v σ H Q) : PG X x t' := ⟨fun pins s σ H v u Q I r q => h.run pins s σ H v u Q I r (k v σ H Q q)⟩
theorem pgs_imp {x : List Expr} {t t' : TGs} (h : PGs X x t) (k : ∀ v σ H Q, t' v σ H Q → t v σ H Q) : PGs X x t' := ⟨fun pins s σ H v u Q I r q => h.run pins s σ H v u Q I r (k v σ H Q q)⟩
theorem isLoc_loc {sc : Scope} {x : Str} (h : isLoc sc x = true) : L2.Loc sc x := by
  unfold isLoc at h
  split at h
  · rename_i e; exact .inl e
  · rename_i e; exact .inr e
  · cases h
theorem starless {e : Expr} {es : List Expr} {env : Env} (h : noStar e = true) : assignEach (e :: es) env = (false, assign e env) :: assignEach es env := by
  cases e <;> first | rfl | cases h
theorem asgTs_len {N : List Str} {sc rs : Scope} : ∀ (ts : CTs) (es : List Expr) {l : List Vl} {st st1 : Lo}, mtTs N sc rs ts es = true → asgTs ts l st = some st1 → l.length = es.length
  | .nil, es, l, st, st1, h, e => by
    cases es with
    | nil => cases l with
      | nil => rfl
      | cons _ _ => cases e
    | cons _ _ => simp [mtTs] at h
  | .cons t ts, es, l, st, st1, h, e => by
    cases es with
    | nil => simp [mtTs] at h
    | cons x es =>
      cases l with
      | nil => cases e
      | cons v l =>
        simp only [mtTs, Bool.and_eq_true] at h
        simp only [asgTs, Option.bind_eq_some_iff] at e
        obtain ⟨st2, _, e2⟩ := e
        simp [asgTs_len ts es h.2 e2]
mutual
theorem mtT_ok (hx : XOk G X) (nd : X.N.Nodup) {rs : Scope} (hf : ∀ x, isLoc rs x = true → X.fn x = true ∨ X.env.scope.names.lookup x = some .local) : ∀ (t : CT) (x : Expr), mtT X.N X.env.scope rs t x = true → PG X x (rdG G t)
  | .var i, x, h => by
    cases x with
    | Name y p =>
      simp only [mtT, Bool.and_eq_true, decide_eq_true_eq] at h
      obtain ⟨⟨h1, h2⟩, h3⟩ := h
      refine pg_imp (pg_name nd h1 (isLoc_loc h2) (hf y h3)) fun v σ H Q q => ?_
      obtain ⟨w, h, st, st1, u, rfl, S, L, r, e, q⟩ := q
      cases e
      exact q _ (L.set i r) fun vs hv => wipe_set (by simpa [ctIn] using hv)
    | _ => simp [mtT] at h
  | .tup ts, x, h => by
    cases x with
    | Tuple es k p =>
      simp only [mtT] at h
      have hm := h
      obtain ⟨h1, h2, h3⟩ := mtTs_ok hx nd hf ts es h
      refine pg_imp (pg_tup hx.calm h1 h2 h3) fun v σ H Q q => ?_
      obtain ⟨w, h, st, st1, u, rfl, S, L, r, e, q⟩ := q
      cases u with
      | tup l =>
        obtain ⟨a, vs, rfl, hq, rl⟩ := r.tup'
        refine ⟨a, vs, rfl, hx.K ▸ hq, ?_, w, h, st, st1, l, rfl, S, L, rl, e, fun σ' L' hw => q σ' L' hw⟩
        rw [← rl.length]
        exact asgTs_len ts es hm e
      | _ => cases e
    | _ => simp [mtT] at h
theorem mtTs_ok (hx : XOk G X) (nd : X.N.Nodup) {rs : Scope} (hf : ∀ x, isLoc rs x = true → X.fn x = true ∨ X.env.scope.names.lookup x = some .local) : ∀ (t : CTs) (xs : List Expr), mtTs X.N X.env.scope rs t xs = true →
    PGs X xs (rdGs G t) ∧ (assignEach xs X.env).length = xs.length ∧ (assignEach xs X.env).findIdx? (·.1) = none
  | .nil, xs, h => by
    cases xs with
    | nil =>
      refine ⟨pgs_imp pgs_nil fun v σ H Q q => ?_, rfl, rfl⟩
      obtain ⟨w, h, st, st1, u, rfl, S, L, r, e, q⟩ := q
      cases u with
      | nil => cases r; cases e; exact ⟨rfl, q _ L fun _ _ => rfl⟩
      | cons _ _ => cases e
    | cons _ _ => simp [mtTs] at h
  | .cons t ts, xs, h => by
    cases xs with
    | nil => simp [mtTs] at h
    | cons x xs =>
      simp only [mtTs, Bool.and_eq_true] at h
      obtain ⟨⟨h1, h2⟩, h3⟩ := h
      have a := mtT_ok hx nd hf t x h2
      obtain ⟨b1, b2, b3⟩ := mtTs_ok hx nd hf ts xs h3
      have es := starless (es := xs) (env := X.env) h1
      refine ⟨pgs_imp (pgs_cons a b1 (by rw [es]; rfl)) fun v σ H Q q => ?_, by rw [es]; simp [b2], by rw [es, List.findIdx?_cons]; simp [b3]⟩
      obtain ⟨w, h, st, st1, u, rfl, S, L, r, e, q⟩ := q
      cases r with
      | nil => cases e
      | @cons v0 x0 l m r0 rr =>
        simp only [asgTs, Option.bind_eq_some_iff] at e
        obtain ⟨st2, e1, e2⟩ := e
        exact ⟨x0, m, rfl, w, h, st, st2, v0, rfl, S, L, r0, e1, fun σ' L' hw => ⟨w, h, st2, st1, l, rfl, S, L', rr, e2, fun σ2 L2 hw2 => q σ2 L2 fun vs hv => by
          simp only [ctsIn, Bool.and_eq_true] at hv
          rw [hw2 vs hv.2, hw vs hv.1]⟩⟩
end
end

/-! ### walks -/
theorem RKs.keys {G : Gs} {w : Wd} : ∀ {l : List (Key × Vl)} {m : List (Key × V)}, RKs G w l m → ∀ i : Nat, (l[i]?).map Prod.fst = (m[i]?).map Prod.fst
  | _, _, .nil, i => by simp
  | _, _, .cons h r, 0 => by simp
  | _, _, .cons h r, i + 1 => by simpa using RKs.keys r i
theorem RKs.at {G : Gs} {w : Wd} : ∀ {l : List (Key × Vl)} {m : List (Key × V)}, RKs G w l m → ∀ (i : Nat) {k : Key} {x : V}, m[i]? = some (k, x) → ∃ v, l[i]? = some (k, v) ∧ RV G w v x
  | _, _, .nil, i, k, x, e => by simp at e
  | _, _, .cons h r, 0, k, x, e => by
    simp at e
    obtain ⟨rfl, rfl⟩ := e
    exact ⟨_, rfl, h⟩
  | _, _, .cons h r, i + 1, k, x, e => by
    obtain ⟨v, h1, h2⟩ := RKs.at r i (by simpa using e)
    exact ⟨v, by simpa using h1, h2⟩
/-- a dict is locked behind its evaluation -/
def tLk (X : Cx) (t : TE) : TE := fun σ H Q => t σ H fun x H1 => ∃ d kvs, x = .ref d ∧ H1 d = some (.dK kvs) ∧ ∀ o, (∀ o' u', X.H_0 d ≠ some (.frz o' u')) → Q x (upd H1 d (.frz o (.dK kvs)))
theorem pe_lk {X : Cx} {x : Expr} {t : TE} (h : PE X x t) : PE X x (tLk X t) := by
  refine ⟨fun pins s σ H Q I q => thn (h.run pins s σ H _ I q) fun v s1 ⟨x, H1, I1, r1, d, kvs, ex, ed, q⟩ => ?_⟩
  obtain ⟨od, I2⟩ := I1.lock ed trivial
  exact ⟨x, _, I2, r1, q od (I1.nofrz ed trivial)⟩
/-- .. or it is locked already -/
def tLk2 (X : Cx) (t : TE) : TE := fun σ H Q => t σ H fun x H1 => (∃ d kvs, x = .ref d ∧ H1 d = some (.dK kvs) ∧ ∀ o, (∀ o' u', X.H_0 d ≠ some (.frz o' u')) → Q x (upd H1 d (.frz o (.dK kvs)))) ∨ Q x H1
theorem pe_lk2 {X : Cx} {x : Expr} {t : TE} (h : PE X x t) : PE X x (tLk2 X t) := by
  refine ⟨fun pins s σ H Q I q => thn (h.run pins s σ H _ I q) fun v s1 ⟨x, H1, I1, r1, q⟩ => ?_⟩
  rcases q with ⟨d, kvs, ex, ed, q⟩ | q
  · obtain ⟨od, I2⟩ := I1.lock ed trivial
    exact ⟨x, _, I2, r1, q od (I1.nofrz ed trivial)⟩
  · exact ⟨x, H1, I1, r1, q⟩
structure IterOk (G : Gs) (X : Cx) (w : Wd) (h : Hv) (k : Core.Walk) (J : It) (w2 : Wd) : Prop where
  sim : Sim G w2 (k.lock h)
  ext : Ext w w2
  lk : ∀ n l, k.lck = some (n, l) → h[n]? = some (.dct l) ∧ ∃ d, w2.φ[n]? = some d ∧ (∀ o' u', X.H_0 d ≠ some (.frz o' u'))
  wk : ∃ Gd Y, L2.Walk J k.items.length Gd Y ∧ (∀ w3 h3, Ext w2 w3 → Sim G w3 h3 → k.src.Ok h3 → Gd w3.H) ∧
    ∀ i w3 h3 x H', i < k.items.length → Ext w2 w3 → Sim G w3 h3 → k.src.Ok h3 → Y i w3.H x H' → ∃ w4 v, w4.H = H' ∧ Sim G w4 h3 ∧ Ext w3 w4 ∧ k.items[i]? = some v ∧ RV G w4 v x
def rdI (G : Gs) (X : Cx) (r : Lo → Hv → Res Core.Walk) (E : L2.St → XK) : TI := fun σ H R => ∃ (w : Wd) (h : Hv) (st : Lo), w.H = H ∧ Sim G w h ∧ Lcl G w st σ ∧
  PostW G w (r st h) (fun k w' h' => ∀ J w2, IterOk G X w' h' k J w2 → R J w2.H) (E σ)
theorem pi_imp {X : Cx} {tg x : Expr} {t t' : TI} (h : PI X tg x t) (k : ∀ σ H R, t' σ H R → t σ H R) : PI X tg x t' := ⟨fun pins s σ H R I q => h.run pins s σ H R I (k σ H R q)⟩
/-- one of several rules, by the reading -/
theorem pi_or {X : Cx} {tg x : Expr} {t t1 t2 : TI} (h1 : PI X tg x t1) (h2 : PI X tg x t2) (k : ∀ σ H R, t σ H R → t1 σ H R ∨ t2 σ H R) : PI X tg x t :=
  ⟨fun pins s σ H R I q => (k σ H R q).elim (h1.run pins s σ H R I) (h2.run pins s σ H R I)⟩
section
variable {G : Gs} {X : Cx} {E : L2.St → XK} {w : Wd} {h : Hv}
theorem iter_free {k : Core.Walk} {J : It} {n : Nat} {Gd : Hp → Prop} {Y : Nat → Hp → V → Hp → Prop} (S : Sim G w h) (hk : k.lck = none) (hw : L2.Walk J n Gd Y) (hn : k.items.length = n)
    (hg : ∀ w3 h3, Ext w w3 → Sim G w3 h3 → k.src.Ok h3 → Gd w3.H)
    (hy : ∀ i w3 h3 x H', i < k.items.length → Ext w w3 → Sim G w3 h3 → k.src.Ok h3 → Y i w3.H x H' → ∃ w4 v, w4.H = H' ∧ Sim G w4 h3 ∧ Ext w3 w4 ∧ k.items[i]? = some v ∧ RV G w4 v x) : IterOk G X w h k J w :=
  ⟨by unfold Walk.lock; rw [hk]; exact S, .refl w, fun n l e => (by rw [hk] at e; cases e), _, _, hn ▸ hw, hg, hy⟩
/-- items that stand at places of a list -/
theorem get_at {w3 : Wd} {h3 : Hv} {l : List Vl} {vs : List V} (r : RVs G w3 l vs) (S : Sim G w3 h3) {i : Nat} {x : V} {H' : Hp} (y : H' = w3.H ∧ vs[i]? = some x) : ∃ w4 v, w4.H = H' ∧ Sim G w4 h3 ∧ Ext w3 w4 ∧ l[i]? = some v ∧ RV G w4 v x := by
  obtain ⟨rfl, e⟩ := y
  have hi : i < l.length := by rw [r.length]; exact (List.getElem?_eq_some_iff.mp e).1
  obtain ⟨x', e', rv⟩ := r.get (i := i) (v := l[i]) (by simp [hi])
  rw [e] at e'; cases e'
  exact ⟨w3, l[i], rfl, S, .refl _, by simp [hi], rv⟩
theorem pi_val (hx : XOk G X) {a tg : Expr} {r : Lo → Hv → Res Vl} (he : PE X a (rdE G r E)) : PI X tg a (rdI G X (fun s h => (r s h).bind fun v h => ofO (itD h v) h) E) := by
  refine ⟨fun pins s σ H R I q => ?_⟩
  obtain ⟨w, h, st, rfl, S, L, p⟩ := q
  replace p : PostW G w ((r st h).bind fun v h => ofO (itD h v) h) _ (E σ) := p
  have bx : ∀ {c fs h1} {Q : VK}, r st h = .ex c fs h1 → Post G w (r st h) Q (E σ) := fun e => by rw [e] at p ⊢; exact p
  cases hr : r st h with
  | st => rw [hr] at p; exact p.elim
  | ex c fs h1 => exact (pi_str he).run pins s σ w.H R I ⟨w, h, st, rfl, S, L, bx hr⟩
  | ok v h1 =>
    rw [hr] at p
    have p : PostW G w (ofO (itD h1 v) h1) _ (E σ) := p
    obtain ⟨kk, e, p⟩ := p.ofO
    have fin : ∀ {Q : VK}, (∀ w' x, Ext w w' → Sim G w' h1 → RV G w' v x → Q x w'.H) → Post G w (r st h) Q (E σ) := fun k => by rw [hr]; exact k
    have go : ∀ {w' : Wd}, Ext w w' → Sim G w' h1 → ∀ J w2, IterOk G X w' h1 kk J w2 → R J w2.H := fun e S => p _ e S
    cases v with
    | tup l =>
      cases e
      refine (pi_tup he).run pins s σ w.H R I ⟨w, h, st, rfl, S, L, fin fun w' x e' S' r' => ?_⟩
      cases r' with
      | @tup _ a1 vs hq rl =>
        refine ⟨_, rfl, ⟨_, hx.K ▸ hq.sq⟩, go e' S' _ _ (iter_free S' rfl (walk_tup (K := X.K) (a := a1) (xs := vs)) rl.length (fun w3 h3 e3 S3 _ => hx.K ▸ (hq.ext0 e3.toExt0).sq) fun i w3 h3 x H' hi e3 S3 _ y => get_at (rl.ext e3) S3 y)⟩
    | fl l =>
      cases e
      refine (pi_list he).run pins s σ w.H R I ⟨w, h, st, rfl, S, L, fin fun w' x e' S' r' => ?_⟩
      cases r' with
      | @fl _ a1 vs hq rl =>
        refine ⟨_, rfl, ⟨_, hx.K ▸ hq.sq⟩, go e' S' _ _ (iter_free S' rfl (walk_list (K := X.K) (a := a1) (xs := vs)) rl.length (fun w3 h3 e3 S3 _ => hx.K ▸ (hq.ext0 e3.toExt0).sq) fun i w3 h3 x H' hi e3 S3 _ y => get_at (rl.ext e3) S3 y)⟩
    | str z =>
      cases e
      refine (pi_str he).run pins s σ w.H R I ⟨w, h, st, rfl, S, L, fin fun w' x e' S' r' => ?_⟩
      refine ⟨z, r'.str', go e' S' _ _ (iter_free S' rfl walk_str (by simp [Walk.free]) (fun w3 h3 e3 S3 _ => trivial) fun i w3 h3 x H' hi e3 S3 _ y => ?_)⟩
      obtain ⟨rfl, c, hc, rfl⟩ := y
      exact ⟨w3, .str ⟨#[c]⟩, rfl, S3, .refl _, by simp [Walk.free, List.getElem?_map, hc], .str _⟩
    | ref n =>
      simp only [itD] at e
      split at e
      · rename_i l hc
        cases e
        refine (pi_list he).run pins s σ w.H R I ⟨w, h, st, rfl, S, L, fin fun w' x e' S' r' => ?_⟩
        cases r' with
        | @ref _ a1 hn =>
          obtain ⟨vs, h2, rl⟩ := S'.ok _ _ _ hc hn
          have at3 : ∀ {w3 : Wd} {h3 : Hv}, Ext w' w3 → Sim G w3 h3 → h3[n]? = some (.lst l) → ∃ vs', w3.H a1 = some (.lst vs') ∧ RVs G w3 l vs' := fun e3 S3 h3 => S3.ok _ _ _ h3 (prefix_get e3.pre hn)
          refine ⟨a1, rfl, ⟨vs, .inl (.inl h2)⟩, go e' S' _ _ (iter_free (n := l.length) (Gd := fun H => ∃ xs, SqL X.K H a1 xs ∧ xs.length = l.length) (Y := fun i H x H' => H' = H ∧ ∀ xs, SqL X.K H a1 xs → xs[i]? = some x) S' rfl ⟨fun i H hi ⟨xs, q1, q2⟩ => ?_, fun H ⟨xs, q1, q2⟩ => ⟨xs, q1, by omega⟩, fun i H x H' hi q y => y⟩ rfl (fun w3 h3 e3 S3 so => ?_) fun i w3 h3 x H' hi e3 S3 so y => ?_)⟩
          · exact ⟨xs, xs[i]'(by omega), q1, by simp [show i < xs.length by omega]⟩
          · obtain ⟨vs', z1, z2⟩ := at3 e3 S3 so
            exact ⟨vs', .inl (.inl z1), z2.length.symm⟩
          · obtain ⟨vs', z1, z2⟩ := at3 e3 S3 so
            exact get_at z2 S3 ⟨y.1, y.2 vs' (.inl (.inl z1))⟩
      · rename_i l hc
        cases e
        refine (pi_keys (pe_lk he)).run pins s σ w.H R I ⟨w, h, st, rfl, S, L, fin fun w' x e' S' r' => ?_⟩
        cases r' with
        | @ref _ a1 hn =>
          obtain ⟨kvs, h2, rk⟩ := S'.ok _ _ _ hc hn
          refine ⟨a1, kvs, rfl, h2, fun o nf => ⟨a1, o, rfl, .inl ⟨kvs, upd_same, ?_⟩⟩⟩
          obtain ⟨S2, e2⟩ := S'.lock (o := o) hn hc rk
          refine go e' S' _ { w' with H := upd w'.H a1 (.frz o (.dK kvs)) } ⟨S2, e2, fun n' l' q => by cases q; exact ⟨hc, a1, hn, nf⟩, _, _, (show kvs.length = (l.map fun kv : Key × Vl => kVl kv.1).length by simp [rk.length]) ▸ walk_keys (d := a1) (o := o) (kvs := kvs), fun w3 h3 e3 S3 _ => e3.fz _ _ _ upd_same, fun i w3 h3 x H' hi e3 S3 _ y => ?_⟩
          obtain ⟨rfl, kk, v, e5, rfl⟩ := y
          refine ⟨w3, kVl kk, rfl, S3, .refl _, ?_, kVl_ok _⟩
          have := (rk.keys i)
          rw [e5] at this
          simp only [List.getElem?_map]
          cases hl : l[i]? with
          | none => rw [hl] at this; cases this
          | some kv => rw [hl] at this; simp at this; simp [this]
      · cases e
    | non => cases e
    | bl _ => cases e
    | int _ => cases e
    | fd l =>
      cases e
      refine (pi_keys (pe_lk2 he)).run pins s σ w.H R I ⟨w, h, st, rfl, S, L, fin fun w' x e' S' r' => ?_⟩
      cases r' with
      | @fd _ a1 kvs hd rk =>
        have fin2 : ∀ (w2 : Wd) (o : Obj), Ext w' w2 → Sim G w2 h1 → w2.H a1 = some (.frz o (.dK kvs)) → RKs G w2 l kvs → IterOk G X w' h1 (.free (l.map fun kv => kVl kv.1)) (Itk a1 o kvs) w2 := fun w2 o e2 S2 z rk2 => by
          refine ⟨S2, e2, fun n' l' q => (by cases q), _, _, (show kvs.length = (l.map fun kv : Key × Vl => kVl kv.1).length by simp [rk.length]) ▸ walk_keys (d := a1) (o := o) (kvs := kvs), fun w3 h3 e3 S3 _ => e3.fz _ _ _ z, fun i w3 h3 x H' hi e3 S3 _ y => ?_⟩
          obtain ⟨rfl, kk, v, e5, rfl⟩ := y
          refine ⟨w3, kVl kk, rfl, S3, .refl _, ?_, kVl_ok _⟩
          have := (rk.keys i)
          rw [e5] at this
          simp only [Walk.free, List.getElem?_map]
          cases hl : l[i]? with
          | none => rw [hl] at this; cases this
          | some kv => rw [hl] at this; simp at this; simp [this]
        rcases hd.1 with hk | ⟨o, hk⟩
        · refine .inl ⟨a1, kvs, rfl, hk, fun o nf => ⟨a1, o, rfl, .inl ⟨kvs, upd_same, ?_⟩⟩⟩
          obtain ⟨S2, e2⟩ := S'.lockF (o := o) hk hd.2
          exact go e' S' _ _ (fin2 _ o e2 S2 upd_same (rk.ext e2))
        · refine .inr ⟨a1, o, rfl, .inl ⟨kvs, hk, ?_⟩⟩
          exact go e' S' _ _ (fin2 _ o (.refl _) S' hk rk)
    | fo _ _ => cases e
theorem pi_rev (hx : XOk G X) {a tg : Expr} {p pos : Pos} {r : Lo → Hv → Res Vl} (hg : Gl X "reversed") (hm : X.mg "reversed" = none) (he : PE X a (rdE G r E)) (ns : noStar a = true) :
    PI X tg (.Call (.Name "reversed" p) [a] [] pos) (rdI G X (fun s h => (r s h).bind fun v h => ofO (revD v) h) E) := by
  have st1 : starEach [a] X.env = (false, eval a X.env) :: starEach [] X.env := by cases a <;> first | rfl | cases ns
  refine pi_imp (RT.pi_revA hg hm he st1) fun σ H R q => ?_
  obtain ⟨w, h, st, rfl, S, L, p⟩ := q
  refine ⟨w, h, st, rfl, S, L, PostW.bind p fun v h1 w' x e' S' r' q => ?_⟩
  obtain ⟨kk, e, q⟩ := q.ofO
  cases v with
  | fl l =>
    cases e
    cases r' with
    | @fl _ a1 vs hq rl =>
      refine ⟨a1, vs, rfl, .inl ⟨hx.K ▸ hq.sq, q _ (.refl _) S' _ _ (iter_free S' rfl (walk_rev (K := X.K) (a := a1) (xs := vs)) (by simp [Walk.free, rl.length]) (fun w3 h3 e3 S3 _ => hx.K ▸ (hq.ext0 e3.toExt0).sq) fun i w3 h3 x H' hi e3 S3 _ y => ?_)⟩⟩
      have hi' : i < vs.length := by rw [← rl.length]; simpa [Walk.free] using hi
      exact get_at (rl.ext e3).reverse S3 ⟨y.1, by rw [List.getElem?_reverse hi']; exact y.2⟩
  | _ => cases e
theorem rng_it {w' : Wd} {h1 : Hv} (S : Sim G w' h1) (lo : Int) (n : Nat) : IterOk G X w' h1 (.free (rngL lo n)) (Itr lo n) w' := by
  refine iter_free S rfl walk_range (by simp [Walk.free, rngL]) (fun w3 h3 e3 S3 _ => trivial) fun i w3 h3 x H' hi e3 S3 _ y => ?_
  obtain ⟨rfl, rfl⟩ := y
  have hi : i < n := by simpa [Walk.free, rngL] using hi
  exact ⟨w3, _, rfl, S3, .refl _, by simp [Walk.free, rngL, hi], .int _⟩
theorem pi_rng1 (hx : XOk G X) {a tg : Expr} {p pos : Pos} {r : Lo → Hv → Res Vl} (hg : Gl X "range") (hm : X.mg "range" = none) (he : PE X a (rdE G r E)) (ns : noStar a = true) :
    PI X tg (.Call (.Name "range" p) [a] [] pos) (rdI G X (fun s h => (r s h).bind fun v h => match v with
      | .int n => chk (-1000000000 ≤ n ∧ n ≤ 1000000000) (.ok (.free (rngL 0 n.toNat)) h)
      | _ => .st) E) := by
  have st1 : starEach [a] X.env = [(false, eval a X.env)] := by cases a <;> first | rfl | cases ns
  refine pi_imp (pi_range1 hg hm (pa_cons he pa_nil st1) st1) fun σ H R q => ?_
  obtain ⟨w, h, st, rfl, S, L, p⟩ := q
  refine ⟨w, h, st, rfl, S, L, PostW.bind p fun v h1 w' x e' S' r' q => ?_⟩
  cases v with
  | int n =>
    cases r'.int'
    obtain ⟨c, q⟩ := q.chk
    exact ⟨n, rfl, by omega, by omega, q.ok S' _ _ (rng_it S' 0 n.toNat)⟩
  | _ => exact q.elim
theorem pi_rng2 (hx : XOk G X) {a b tg : Expr} {p pos : Pos} {r r' : Lo → Hv → Res Vl} (hg : Gl X "range") (hm : X.mg "range" = none) (he : PE X a (rdE G r E)) (he' : PE X b (rdE G r' E)) (ns : noStar a = true) (ns' : noStar b = true) :
    PI X tg (.Call (.Name "range" p) [a, b] [] pos) (rdI G X (fun s h => (r s h).bind fun v h => (r' s h).bind fun u h => match v, u with
      | .int m, .int n => chk (-1000000000 ≤ m ∧ m ≤ 1000000000 ∧ -1000000000 ≤ n ∧ n ≤ 1000000000) (.ok (.free (rngL m (n - m).toNat)) h)
      | _, _ => .st) E) := by
  have st1 : starEach [b] X.env = [(false, eval b X.env)] := by cases b <;> first | rfl | cases ns'
  have st2 : starEach [a, b] X.env = (false, eval a X.env) :: starEach [b] X.env := by cases a <;> first | rfl | cases ns
  refine pi_imp (pi_range2 hg hm (pa_cons he (pa_cons he' pa_nil st1) st2) (by rw [st2, st1]) st1) fun σ H R q => ?_
  obtain ⟨w, h, st, rfl, S, L, p⟩ := q
  refine ⟨w, h, st, rfl, S, L, PostW.bind p fun v h1 w' x e' S' r1 q => ?_⟩
  refine ⟨w', h1, st, rfl, S', L.ext e', PostW.bind q fun u h2 w2 y e2 S2 r2 q => ?_⟩
  cases v with
  | int m =>
    cases u with
    | int n =>
      cases r1.int'
      cases r2.int'
      obtain ⟨c, q⟩ := q.chk
      exact ⟨m, n, rfl, by omega, q.ok S2 _ _ (rng_it S2 m (n - m).toNat)⟩
    | _ => exact q.elim
  | _ => cases u <;> exact q.elim
/-- pairs that are made -/
theorem pair_at {w3 : Wd} {h3 : Hv} (S : Sim G w3 h3) {T : Addr} {a b : Vl} {x y : V} (hT : w3.H T = none) (ra : RV G w3 a x) (rb : RV G w3 b y) :
    ∃ w4, w4.H = upd w3.H T (.tup [x, y]) ∧ Sim G w4 h3 ∧ Ext w3 w4 ∧ RV G w4 (.tup [a, b]) (.ref T) := by
  obtain ⟨S', e, nl⟩ := S.newF (o := .tup [x, y]) hT
  exact ⟨_, rfl, S', e, .tup (.inl ⟨.inl upd_same, nl⟩) (.cons (ra.ext e) (.cons (rb.ext e) .nil))⟩
theorem pi_itm (hx : XOk G X) {a : Expr} {elts : List Expr} {kk : Nat} {tpos apos cpos : Pos} {r : Lo → Hv → Res Vl} (he : PE X a (rdE G r E)) (hb : attributeBase a "items" X.env (eval a X.env) = eval a X.env) (hl : (apos.endLine == cpos.line) = true) :
    PI X (.Tuple elts kk tpos) (.Call (.Attribute a "items" apos) [] [] cpos) (rdI G X (fun s h => (r s h).bind fun v h => ofO (itemsD h v) h) E) := by
  refine pi_imp (pi_items (pe_lk2 he) hb hl) fun σ H R q => ?_
  obtain ⟨w, h, st, rfl, S, L, p⟩ := q
  refine ⟨w, h, st, rfl, S, L, PostW.bind p fun v h1 w' x e' S' r' q => ?_⟩
  obtain ⟨kk, e, q⟩ := q.ofO
  have go := q.ok S'
  cases v with
  | ref n =>
    simp only [itemsD] at e
    split at e
    · rename_i l hc
      cases e
      cases r' with
      | @ref _ a1 hn =>
        obtain ⟨kvs, h2, rk⟩ := S'.ok _ _ _ hc hn
        refine .inl ⟨a1, kvs, rfl, h2, fun o nf => ⟨a1, o, kvs, rfl, upd_same, ?_⟩⟩
        obtain ⟨S2, e2⟩ := S'.lock (o := o) hn hc rk
        refine go _ { w' with H := upd w'.H a1 (.frz o (.dK kvs)) } ⟨S2, e2, fun n' l' q => by cases q; exact ⟨hc, a1, hn, nf⟩, _, _, (show kvs.length = (l.map fun kv : Key × Vl => Vl.tup [kVl kv.1, kv.2]).length by simp [rk.length]) ▸ walk_items (d := a1) (o := o) (kvs := kvs), fun w3 h3 e3 S3 _ => e3.fz _ _ _ upd_same, fun i w3 h3 x H' hi e3 S3 _ y => ?_⟩
        obtain ⟨T, x1, y1, rfl, hT, rfl, e5, e6⟩ := y
        obtain ⟨⟨k1, v1⟩, hk, rfl⟩ := Option.map_eq_some_iff.mp e5
        replace e6 : (kvs[i]?).map Prod.snd = some y1 := e6
        rw [hk] at e6
        cases e6
        obtain ⟨u, hu, ru⟩ := RKs.at (rk.ext (e2.trans e3)) i hk
        obtain ⟨w4, z1, z2, z3, z4⟩ := pair_at S3 hT (kVl_ok k1) ru
        exact ⟨w4, _, z1, z2, z3, by simp [hu], z4⟩
    · cases e
  | fd l =>
    cases e
    cases r' with
    | @fd _ a1 kvs hd rk =>
      have fin2 : ∀ (w2 : Wd) (o : Obj), Ext w' w2 → Sim G w2 h1 → w2.H a1 = some (.frz o (.dK kvs)) → RKs G w2 l kvs → IterOk G X w' h1 (.free (l.map fun kv : Key × Vl => Vl.tup [kVl kv.1, kv.2])) (Iti a1 o kvs) w2 := fun w2 o e2 S2 z rk2 => by
        refine ⟨S2, e2, fun n' l' q => (by cases q), _, _, (show kvs.length = (l.map fun kv : Key × Vl => Vl.tup [kVl kv.1, kv.2]).length by simp [rk.length]) ▸ walk_items (d := a1) (o := o) (kvs := kvs), fun w3 h3 e3 S3 _ => e3.fz _ _ _ z, fun i w3 h3 x H' hi e3 S3 _ y => ?_⟩
        obtain ⟨T, x1, y1, rfl, hT, rfl, e5, e6⟩ := y
        obtain ⟨⟨k1, v1⟩, hk, rfl⟩ := Option.map_eq_some_iff.mp e5
        replace e6 : (kvs[i]?).map Prod.snd = some y1 := e6
        rw [hk] at e6
        cases e6
        obtain ⟨u, hu, ru⟩ := RKs.at (rk2.ext e3) i hk
        obtain ⟨w4, z1, z2, z3, z4⟩ := pair_at S3 hT (kVl_ok k1) ru
        exact ⟨w4, _, z1, z2, z3, by simp [Walk.free, hu], z4⟩
      rcases hd.1 with hk | ⟨o, hk⟩
      · refine .inl ⟨a1, kvs, rfl, hk, fun o nf => ⟨a1, o, kvs, rfl, upd_same, ?_⟩⟩
        obtain ⟨S2, e2⟩ := S'.lockF (o := o) hk hd.2
        exact go _ _ (fin2 _ o e2 S2 upd_same (rk.ext e2))
      · exact .inr ⟨a1, o, kvs, rfl, hk, go _ _ (fin2 _ o (.refl _) S' hk rk)⟩
  | _ => cases e
theorem pi_enm (hx : XOk G X) {a : Expr} {elts : List Expr} {kk : Nat} {tpos p pos : Pos} {r : Lo → Hv → Res Vl} (hg : Gl X "enumerate") (hm : X.mg "enumerate" = none) (he : PE X a (rdE G r E)) (ns : noStar a = true) :
    PI X (.Tuple elts kk tpos) (.Call (.Name "enumerate" p) [a] [] pos) (rdI G X (fun s h => (r s h).bind fun v h => ofO (enumD h v) h) E) := by
  have st1 : starEach [a] X.env = [(false, eval a X.env)] := by cases a <;> first | rfl | cases ns
  refine pi_imp (pi_enum hg hm (pa_cons he pa_nil st1) st1) fun σ H R q => ?_
  obtain ⟨w, h, st, rfl, S, L, p⟩ := q
  refine ⟨w, h, st, rfl, S, L, PostW.bind p fun v h1 w' x e' S' r' q => ?_⟩
  obtain ⟨kk, e, q⟩ := q.ofO
  have go := q.ok S'
  have pr : ∀ {w3 : Wd} {h3 : Hv} {l : List Vl} {vs : List V} {i : Nat} {T : Addr} {y1 : V}, Sim G w3 h3 → RVs G w3 l vs → w3.H T = none → vs[i]? = some y1 →
      ∃ w4 v, w4.H = upd w3.H T (.tup [.int (i : Nat), y1]) ∧ Sim G w4 h3 ∧ Ext w3 w4 ∧ (enumL l)[i]? = some v ∧ RV G w4 v (.ref T) := fun {w3 h3 l vs i T y1} S3 rl hT hy => by
    have hi : i < l.length := by rw [rl.length]; exact (List.getElem?_eq_some_iff.mp hy).1
    obtain ⟨x', e', rv⟩ := rl.get (i := i) (v := l[i]) (by simp [hi])
    rw [hy] at e'; cases e'
    obtain ⟨w4, z1, z2, z3, z4⟩ := pair_at S3 hT (.int (i : Nat)) rv
    exact ⟨w4, _, z1, z2, z3, by simp [enumL, hi], z4⟩
  cases v with
  | fl l =>
    cases e
    cases r' with
    | @fl _ a1 vs hq rl =>
      refine ⟨_, _, rfl, hx.K ▸ hq.sq, go _ _ (iter_free S' rfl (walk_enum (K := X.K) (a := a1) (xs := vs)) (by simp [Walk.free, enumL, rl.length]) (fun w3 h3 e3 S3 _ => hx.K ▸ (hq.ext0 e3.toExt0).sq) fun i w3 h3 x H' hi e3 S3 _ y => ?_)⟩
      obtain ⟨T, x1, y1, rfl, hT, rfl, e5, e6⟩ := y
      cases e5
      exact pr S3 (rl.ext e3) hT e6
  | ref n =>
    simp only [enumD] at e
    split at e
    · rename_i l hc
      cases e
      cases r' with
      | @ref _ a1 hn =>
        obtain ⟨vs, h2, rl⟩ := S'.ok _ _ _ hc hn
        have at3 : ∀ {w3 : Wd} {h3 : Hv}, Ext w' w3 → Sim G w3 h3 → h3[n]? = some (.lst l) → ∃ vs', w3.H a1 = some (.lst vs') ∧ RVs G w3 l vs' := fun e3 S3 h3 => S3.ok _ _ _ h3 (prefix_get e3.pre hn)
        refine ⟨a1, vs, rfl, .inl (.inl h2), go _ _ (iter_free (n := l.length) (Gd := fun H => ∃ xs, SqL X.K H a1 xs ∧ xs.length = l.length) (Y := fun i H v H' => ∃ T x, v = .ref T ∧ H T = none ∧ H' = upd H T (.tup [.int (i : Nat), x]) ∧ ∀ xs, SqL X.K H a1 xs → xs[i]? = some x) S' rfl ⟨fun i H hi ⟨xs, q1, q2⟩ => ?_, fun H ⟨xs, q1, q2⟩ => ⟨xs, q1, by omega⟩, fun i H x H' hi q y => y⟩ (by simp [enumL]) (fun w3 h3 e3 S3 so => ?_) fun i w3 h3 x H' hi e3 S3 so y => ?_)⟩
        · exact ⟨xs, xs[i]'(by omega), q1, by simp [show i < xs.length by omega]⟩
        · obtain ⟨vs', z1, z2⟩ := at3 e3 S3 so
          exact ⟨vs', .inl (.inl z1), z2.length.symm⟩
        · obtain ⟨vs', z1, z2⟩ := at3 e3 S3 so
          obtain ⟨T, y1, rfl, hT, rfl, e6⟩ := y
          exact pr S3 z2 hT (e6 vs' (.inl (.inl z1)))
    · cases e
  | _ => cases e
end
end Core
end

section
set_option Elab.async false
set_option linter.all false
set_option maxRecDepth 100000
set_option maxHeartbeats 4000000
set_option autoImplicit false
/-! Core11: for, comprehensions. -/
namespace Core
open PySem L2 PyProof.Rows

/-! ### unlocking -/
def UnP (X : Cx) (P : Hp → Prop) (H : Hp) : Prop := P H ∨ ∃ d o u, H d = some (.frz o u) ∧ (∀ o' u', X.H_0 d ≠ some (.frz o' u')) ∧ P (upd H d u)
def UnD (X : Cx) (D : Ends) : Ends where
  nx := fun σ H => UnP X (D.nx σ) H
  rt := fun v H => UnP X (D.rt v) H
  bk := fun σ H => UnP X (D.bk σ) H
  ct := fun σ H => UnP X (D.ct σ) H
section
variable {X : Cx} {pins : List (Addr × Obj)} {σ : L2.St} {H : Hp} {s : Shared}
theorem unP (I : Inv X pins σ H s) {P : Hp → Prop} (h : UnP X P H) : ∃ H', Inv X pins σ H' s ∧ P H' := by
  rcases h with h | ⟨d, o, u, e, nf, h⟩
  · exact ⟨H, I, h⟩
  · exact ⟨_, I.unlock e nf, h⟩
theorem ps_unl {x : Stmt} {t : TS} (h : PS X x t) : PS X x (fun D σ H => t (UnD X D) σ H) := by
  refine ⟨fun pins s σ H D I hw => thn (h.run pins s σ H (UnD X D) I hw) fun f s1 q => ?_⟩
  cases f with
  | next => obtain ⟨σ', H', I', q⟩ := q; obtain ⟨H2, I2, q⟩ := unP I' q; exact ⟨σ', H2, I2, q⟩
  | brk => obtain ⟨σ', H', I', q⟩ := q; obtain ⟨H2, I2, q⟩ := unP I' q; exact ⟨σ', H2, I2, q⟩
  | cont => obtain ⟨σ', H', I', q⟩ := q; obtain ⟨H2, I2, q⟩ := unP I' q; exact ⟨σ', H2, I2, q⟩
  | ret v => obtain ⟨x, σ', H', I', r, q⟩ := q; obtain ⟨H2, I2, q⟩ := unP I' q; exact ⟨x, σ', H2, I2, r, q⟩
theorem pe_unl {x : Expr} {t : TE} (h : PE X x t) : PE X x (fun σ H Q => t σ H fun v H' => UnP X (Q v) H') := by
  refine ⟨fun pins s σ H Q I hw => thn (h.run pins s σ H _ I hw) fun f s1 q => ?_⟩
  obtain ⟨x, H', I', r, q⟩ := q
  obtain ⟨H2, I2, q⟩ := unP I' q
  exact ⟨x, H2, I2, r, q⟩
end
section
variable {G : Gs} {w w2 w' : Wd} {h h2 h' : Hv}
theorem Ext.unlk (a : Ext w w2) (b : Ext w2 w') {w3 : Wd} (c : Ext0 w' w3) {d : Addr} {u : HO} (hH : w3.H = upd w'.H d u) (hZ : w3.Z = w'.Z) (nf : ∀ o u, w.H d ≠ some (.frz o u)) (nz : d ∉ w.Z) : Ext w w3 := by
  have x := a.trans b
  refine ⟨x.toExt0.trans c, fun b o u e => ?_, fun b hb => ?_⟩
  · rw [hH, upd_ne (show b ≠ d from fun z => nf o u (by rw [← z]; exact e))]
    exact x.fz b o u e
  · obtain ⟨z1, z2⟩ := x.hid b hb
    refine ⟨hZ ▸ z1, ?_⟩
    rw [hH, upd_ne (show b ≠ d from fun z => nz (by rw [← z]; exact hb))]
    exact z2
/-- what follows the unlocking, at the lock -/
theorem unlock_post {X : Cx} {α : Type} {k : Core.Walk} {J : It} {E : XK} {P : α → Wd → Hv → Prop} {P' : α → Wd → Hv → Prop} {r : Res α} (S : Sim G w h) (it : IterOk G X w h k J w2) (p : PostW G w (unlockF k r) P E)
    (k1 : ∀ v w' h', Ext w w' → Sim G w' h' → P v w' h' → P' v w' h')
    (k2 : ∀ v w' w3 h' h3 d o kvs, Sim G w' h' → Sim G w3 h3 → Ext0 w' w3 → w'.H d = some (.frz o (.dK kvs)) → (∀ o' u', X.H_0 d ≠ some (.frz o' u')) → w3.H = upd w'.H d (.dK kvs) → w3.Z = w'.Z → w3.φ = w'.φ → Ext w w3 → P v w3 h3 → P' v w' h') : PostW G w2 r P' E := by
  unfold unlockF at p
  cases hk : k.lck with
  | none =>
    rw [hk] at p
    have p : PostW G w r P E := p
    cases r with
    | ok v h3 => exact fun w' e S3 => k1 v w' h3 (it.ext.trans e) S3 (p w' (it.ext.trans e) S3)
    | ex c fs h3 => exact fun w' cls od e' S r => p w' cls od (it.ext.trans e') S r
    | st => exact p
  | some nl =>
    obtain ⟨n, l⟩ := nl
    rw [hk] at p
    obtain ⟨hc, d, hd, nf⟩ := it.lk n l hk
    cases r with
    | ok v h3 =>
      intro w' e S3
      simp only at p
      split at p
      · rename_i m hm
        have hd' := prefix_get e.pre hd
        obtain ⟨o, kvs, e1, S4, x4⟩ := S3.unlock hd' hm
        obtain ⟨a, ha, ca⟩ := S.adr hc
        have ha2 := prefix_get it.ext.pre ha
        rw [hd] at ha2; cases ha2
        have x := Ext.unlk it.ext e x4 rfl rfl (fun o u => ca.nofrz rfl o u) (fun hz => S.zne ha hz rfl)
        exact k2 v w' _ h3 _ d o kvs S3 S4 x4 e1 nf rfl rfl rfl x (p _ x S4)
      · exact p.elim
    | ex c fs h3 => exact p.elim
    | st => exact p.elim
end
/-! ### statements -/
def PS' (G : Gs) (D : Ends) : Fl → Wd → Hv → Prop := fun f w' _ => match f with
  | .nx s => ∀ σ, Lcl G w' s σ → D.nx σ w'.H
  | .rt v => ∀ x, RV G w' v x → D.rt x w'.H
  | .bk s => ∀ σ, Lcl G w' s σ → D.bk σ w'.H
  | .ct s => ∀ σ, Lcl G w' s σ → D.ct σ w'.H
def rdS (G : Gs) (r : Lo → Hv → Res Fl) (E : XK) : TS := fun D σ H => ∃ (w : Wd) (h : Hv) (st : Lo), w.H = H ∧ Sim G w h ∧ Lcl G w st σ ∧ PostW G w (r st h) (PS' G D) E
section
variable {G : Gs} {X : Cx} {E : XK}
theorem UnD.of {D : Ends} {f : Fl} {w : Wd} {h : Hv} (p : PS' G D f w h) : PS' G (UnD X D) f w h := by
  cases f with
  | nx s => exact fun σ L => .inl (p σ L)
  | rt v => exact fun x r => .inl (p x r)
  | bk s => exact fun σ L => .inl (p σ L)
  | ct s => exact fun σ L => .inl (p σ L)
theorem for_ok {t : CT} {body : Lo → Hv → Res Fl} {k : Core.Walk} {J : It} {w w2 : Wd} {h : Hv} {st : Lo} {σ : L2.St} {D : Ends} (S : Sim G w h) (it : IterOk G X w h k J w2) (L : Lcl G w st σ)
    (p : PostW G w (unlockF k (forR k.src t body k.items st (k.lock h))) (PS' G D) E) :
    ∃ W : Nat → Nat → L2.St → Hp → Prop, (∃ m, W 0 m σ w2.H) ∧ ∀ i m σ H, W i m σ H →
      (J.stop i H ∧ (UnD X D).nx σ H) ∨ (J.go i H ∧ ∃ N : L2.St → Hp → Prop, (∀ σ' H', N σ' H' → ∃ m', m' < m ∧ W (i + 1) m' σ' H') ∧ ∀ x H', J.yld i H x H' → rdG G t x σ H' fun σ2 H2 => rdS G body E { (UnD X D) with nx := N, ct := N, bk := (UnD X D).nx } σ2 H2) := by
  obtain ⟨Gd, Y, wk, hg, hy⟩ := it.wk
  have p2 : PostW G w2 (forR k.src t body k.items st (k.lock h)) (PS' G (UnD X D)) E := by
    refine unlock_post S it p (fun v w' h' _ _ q => UnD.of q) fun v w' w3 h' h3 d o kvs S' S3 x3 e1 nf hH hZ hφ ex q => ?_
    cases v with
    | nx s => exact fun σ L => .inr ⟨d, o, _, e1, nf, hH ▸ q σ (L.ext0 x3)⟩
    | rt v => exact fun x r => .inr ⟨d, o, _, e1, nf, hH ▸ q x (r.ext0 x3)⟩
    | bk s => exact fun σ L => .inr ⟨d, o, _, e1, nf, hH ▸ q σ (L.ext0 x3)⟩
    | ct s => exact fun σ L => .inr ⟨d, o, _, e1, nf, hH ▸ q σ (L.ext0 x3)⟩
  refine for_it (n := k.items.length) wk (fun i σ H => ∃ (w4 : Wd) (h4 : Hv) (st4 : Lo), w4.H = H ∧ Ext w2 w4 ∧ Sim G w4 h4 ∧ Lcl G w4 st4 σ ∧ PostW G w4 (forR k.src t body (k.items.drop i) st4 h4) (PS' G (UnD X D)) E) ?_ ?_ ?_ ?_
  · exact ⟨w2, k.lock h, st, rfl, .refl _, it.sim, L.ext it.ext, by simpa using p2⟩
  · rintro i σ H hi ⟨w4, h4, st4, rfl, e4, S4, L4, p4⟩
    refine hg w4 h4 e4 S4 ?_
    cases hd : k.items.drop i with
    | nil =>
      rw [hd] at p4
      unfold forR at p4
      exact Classical.byContradiction fun hn => by rw [if_neg hn] at p4; exact p4
    | cons v r =>
      rw [hd] at p4
      unfold forR at p4
      exact Classical.byContradiction fun hn => by rw [if_neg hn] at p4; exact p4
  · rintro i x σ H H' hi ⟨w4, h4, st4, rfl, e4, S4, L4, p4⟩ y
    have hd : k.items.drop i = k.items[i] :: k.items.drop (i + 1) := List.drop_eq_getElem_cons hi
    rw [hd] at p4
    unfold forR at p4
    split at p4
    · rename_i so
      obtain ⟨w5, v, rfl, S5, e5, hv, r5⟩ := hy i w4 h4 x H' hi e4 S4 so y
      have : k.items[i] = v := by
        rw [List.getElem?_eq_getElem hi] at hv; exact Option.some.inj hv
      rw [this] at p4
      split at p4
      · exact p4.elim
      · rename_i st5 ha
        have p5 := p4.ext e5
        refine ⟨w5, h4, st4, st5, v, rfl, S5, L4.ext e5, r5, ha, fun σ' L' _ => ⟨w5, h4, st5, rfl, S5, L', ?_⟩⟩
        cases hb : body st5 h4 with
        | st => rw [hb] at p5; exact p5
        | ex c fs h6 => rw [hb] at p5; exact p5
        | ok f h6 =>
          rw [hb] at p5
          intro w6 e6 S6
          cases f with
          | nx s =>
            have p6 : PostW G w5 (forR k.src t body (k.items.drop (i + 1)) s h6) _ E := p5
            exact fun σ6 L6 => ⟨w6, h6, s, rfl, (e4.trans e5).trans e6, S6, L6, p6.ext e6⟩
          | ct s =>
            have p6 : PostW G w5 (forR k.src t body (k.items.drop (i + 1)) s h6) _ E := p5
            exact fun σ6 L6 => ⟨w6, h6, s, rfl, (e4.trans e5).trans e6, S6, L6, p6.ext e6⟩
          | bk s => exact p5 w6 e6 S6
          | rt v => exact p5 w6 e6 S6
    · exact p4.elim
  · rintro σ H ⟨w4, h4, st4, rfl, e4, S4, L4, p4⟩
    rw [List.drop_length] at p4
    unfold forR at p4
    split at p4
    · exact p4.ok S4 σ L4
    · exact p4.elim
/-! ### comprehensions -/
def E0 : L2.St → XK := fun _ _ _ _ => False
structure ExtX (D : Addr) (w w' : Wd) : Prop where
  x : Ext0 w w'
  fz : ∀ a o u, w.H a = some (.frz o u) → w'.H a = some (.frz o u)
  hid : ∀ a ∈ w.Z, a ≠ D → a ∈ w'.Z ∧ w'.H a = w.H a
theorem ExtX.of {D : Addr} {w w' : Wd} (e : Ext w w') : ExtX D w w' := ⟨e.toExt0, e.fz, fun a h _ => e.hid a h⟩
theorem ExtX.trans {D : Addr} {a b c : Wd} (h : ExtX D a b) (k : ExtX D b c) : ExtX D a c := ⟨h.x.trans k.x, fun x o u e => k.fz x o u (h.fz x o u e), fun x hx n => let ⟨e1, e2⟩ := h.hid x hx n; let ⟨e3, e4⟩ := k.hid x e1 n; ⟨e3, e4.trans e2⟩⟩
/-- from before the hiding -/
theorem ExtX.ext {D : Addr} {w w1 w' : Wd} (a : Ext w w1) (hD : D ∉ w.Z) (h : ExtX D w1 w') : Ext w w' :=
  ⟨a.toExt0.trans h.x, fun x o u e => h.fz x o u (a.fz x o u e), fun x hx => let ⟨e1, e2⟩ := a.hid x hx; let ⟨e3, e4⟩ := h.hid x e1 (fun z => hD (z ▸ hx)); ⟨e3, e4.trans e2⟩⟩
theorem ExtX.hset {D : Addr} {w : Wd} {o u : HO} (x : Ext0 w { w with H := upd w.H D o }) (e : w.H D = some u) (nf : ∀ a b, u ≠ .frz a b) : ExtX D w { w with H := upd w.H D o } :=
  ⟨x, fun a o' u' h => by
    show upd w.H D o a = _
    rw [upd_ne (show a ≠ D from fun z => nf o' u' (by rw [z, e] at h; exact Option.some.inj h))]; exact h, fun a ha n => ⟨ha, upd_ne n⟩⟩
theorem wipe_twice (σ : L2.St) (vs : List Nat) : wipe (wipe σ vs) vs = wipe σ vs := by
  apply List.ext_getElem?
  intro j
  rw [wipe_at, wipe_at]
  by_cases h : j ∈ vs
  · simp only [h, if_true, Option.map_map]; rfl
  · simp only [h, if_false]
def PL {α : Type} (Goal : α → Hv → Prop) (r : Res α) : Prop := match r with
  | .ok l h => Goal l h
  | .ex _ _ _ => True
  | .st => False
/-- what is wanted of the whole list, made at D -/
def GoalL (G : Gs) (D : Addr) (w0 : Wd) (Qd : Hp → Prop) (L : List Vl) (h : Hv) : Prop := ∀ w' vL, ExtX D w0 w' → Sim G w' h → D ∈ w'.Z → w'.H D = some (.lst vL) → RVs G w' L vL → Qd w'.H
theorem noX_bind {α β : Type} {r : Res α} {f : α → Hv → Res β} {Goal : β → Hv → Prop} (p : PL Goal ((noX r).bind f)) : ∃ a h, r = .ok a h ∧ PL Goal (f a h) := by
  cases r with
  | ok a h => exact ⟨a, h, rfl, p⟩
  | ex _ _ _ => exact p.elim
  | st => exact p.elim
theorem lc_ok {t : CT} {cond elt : Lo → Hv → Res Vl} {k : Core.Walk} {J : It} {w w2 : Wd} {h : Hv} {s0 : Lo} {σ : L2.St} {vs : List Nat} {D : Addr} {Qd : Hp → Prop} (it : IterOk G X w h k J w2) (hD : w2.H D = none) (L : Lcl G w2 s0 (wipe σ vs))
    (hv : ctIn vs t = true) (hz : k.items.length ≤ LIM)
    (p : PL (GoalL G D { w2 with Z := D :: w2.Z, H := upd w2.H D (.lst []) } Qd) (lcR k.src t (fun s h => noX (cond s h)) (fun s h => noX (elt s h)) s0 k.items (k.lock h))) :
    ∃ W : Nat → Nat → Hp → Prop, (∃ m, W 0 m (upd w2.H D (.lst []))) ∧ ∀ i m H, W i m H →
      (J.stop i H ∧ Qd H) ∨ (J.go i H ∧ ∃ Nx : Hp → Prop, (∀ H', Nx H' → ∃ m', m' < m ∧ W (i + 1) m' H') ∧ ∀ x H', J.yld i H x H' → rdG G t x (wipe σ vs) H' fun σ2 H2 => wipe σ2 vs = wipe σ vs ∧ rdT G cond E0 σ2 H2 fun b H3 =>
        if b = true then rdE G elt E0 σ2 H3 fun y H4 => ∃ acc, H4 D = some (.lst acc) ∧ acc.length < sizeLine ∧ Nx (upd H4 D (.lst (acc ++ [y]))) else Nx H3) := by
  obtain ⟨Gd, Y, wk, hg, hy⟩ := it.wk
  obtain ⟨S1, x1⟩ := it.sim.hide (o := .lst []) hD
  have nD : D ∉ w2.Z := fun z => by obtain ⟨_, o, e⟩ := it.sim.zs D z; rw [hD] at e; cases e
  have of2 : ∀ {w4 : Wd}, ExtX D { w2 with Z := D :: w2.Z, H := upd w2.H D (.lst []) } w4 → Ext w2 w4 := fun e => e.ext x1 nD
  refine lc_it (n := k.items.length) wk (fun i H => ∃ (w4 : Wd) (h4 : Hv) (acc : List Vl) (vacc : List V), w4.H = H ∧ ExtX D { w2 with Z := D :: w2.Z, H := upd w2.H D (.lst []) } w4 ∧ Sim G w4 h4 ∧ D ∈ w4.Z ∧ w4.H D = some (.lst vacc) ∧ RVs G w4 acc vacc ∧ acc.length ≤ i ∧
    PL (fun l h => GoalL G D { w2 with Z := D :: w2.Z, H := upd w2.H D (.lst []) } Qd (acc ++ l) h) (lcR k.src t (fun s h => noX (cond s h)) (fun s h => noX (elt s h)) s0 (k.items.drop i) h4)) ?_ ?_ ?_ ?_
  · exact ⟨_, k.lock h, [], [], rfl, .of (.refl _), S1, List.mem_cons_self, upd_same, .nil, Nat.zero_le _, by simpa using p⟩
  · rintro i H hi ⟨w4, h4, acc, vacc, rfl, e4, S4, hm4, hD4, r4, z4, p4⟩
    refine hg w4 h4 (of2 e4) S4 ?_
    cases hd : k.items.drop i with
    | nil =>
      rw [hd] at p4
      unfold lcR at p4
      exact Classical.byContradiction fun hn => by rw [if_neg hn] at p4; exact p4
    | cons v r =>
      rw [hd] at p4
      unfold lcR at p4
      exact Classical.byContradiction fun hn => by rw [if_neg hn] at p4; exact p4
  · rintro i x H H' hi ⟨w4, h4, acc, vacc, rfl, e4, S4, hm4, hD4, r4, z4, p4⟩ y
    have hd : k.items.drop i = k.items[i] :: k.items.drop (i + 1) := List.drop_eq_getElem_cons hi
    rw [hd] at p4
    unfold lcR at p4
    split at p4
    · rename_i so
      obtain ⟨w5, v, rfl, S5, e5, hv5, r5⟩ := hy i w4 h4 x H' hi (of2 e4) S4 so y
      have : k.items[i] = v := by
        rw [List.getElem?_eq_getElem hi] at hv5; exact Option.some.inj hv5
      rw [this] at p4
      split at p4
      · exact p4.elim
      · rename_i st5 ha
        have x5 := e4.trans (.of e5)
        refine ⟨w5, h4, s0, st5, v, rfl, S5, L.ext (of2 x5), r5, ha, fun σ' L' hw => ⟨(hw vs hv).trans (wipe_twice σ vs), w5, h4, st5, rfl, S5, L', ?_⟩⟩
        obtain ⟨c, h6, hc, p6⟩ := noX_bind p4
        rw [hc]
        intro w6 x6 e6 S6 r6
        have e46 := e5.trans e6
        cases c with
        | bl b =>
          refine ⟨b, r6.bl', ?_⟩
          have hD6 : w6.H D = some (.lst vacc) := (e46.hid D hm4).2.trans hD4
          cases b with
          | false => exact ⟨w6, h6, acc, vacc, rfl, e4.trans (.of e46), S6, (e46.hid D hm4).1, hD6, r4.ext e46, by omega, p6⟩
          | true =>
            simp only [if_true]
            refine ⟨w6, h6, st5, rfl, S6, L'.ext e6, ?_⟩
            obtain ⟨y7, h7, hy7, p7⟩ := noX_bind p6
            rw [hy7]
            intro w7 x7 e7 S7 r7
            have e47 := e46.trans e7
            have hm7 := (e47.hid D hm4).1
            have hD7 : w7.H D = some (.lst vacc) := (e47.hid D hm4).2.trans hD4
            refine ⟨vacc, hD7, by rw [← lim_eq, ← r4.length]; omega, ?_⟩
            obtain ⟨S8, x8⟩ := S7.hset (o := .lst (vacc ++ [x7])) hm7
            refine ⟨_, h7, acc ++ [y7], _, rfl, (e4.trans (.of e47)).trans (.hset x8 hD7 (fun _ _ z => nomatch z)), S8, hm7, upd_same, ((r4.ext e47).append (.cons r7 .nil)).ext0 x8, by simp; omega, ?_⟩
            revert p7
            cases lcR k.src t (fun s h => noX (cond s h)) (fun s h => noX (elt s h)) s0 (k.items.drop (i + 1)) h7 with
            | ok l h8 => intro p7; simpa [PL, Res.bind] using p7
            | ex _ _ _ => intro _; trivial
            | st => intro p7; exact p7
        | _ => exact p6.elim
    · exact p4.elim
  · rintro H ⟨w4, h4, acc, vacc, rfl, e4, S4, hm4, hD4, r4, z4, p4⟩
    rw [List.drop_length] at p4
    unfold lcR at p4
    split at p4
    · have p4 : GoalL G D _ Qd (acc ++ []) h4 := p4
      rw [List.append_nil] at p4
      exact p4 w4 vacc e4 S4 hm4 hD4 r4
    · exact p4.elim
theorem fin_L {fz : Bool} {L : List Vl} {w w3 : Wd} {h3 : Hv} {D : Addr} {vL : List V} {Q : VK} (x : Ext w w3) (nD : D ∉ w.Z) (S : Sim G w3 h3) (hm : D ∈ w3.Z) (e : w3.H D = some (.lst vL)) (r : RVs G w3 L vL) (p : Post G w (mkL fz L h3) Q E) : Q (.ref D) w3.H := by
  have hz : ∀ a ∈ w3.Z.filter (fun a => decide (a ≠ D)), a ∈ w3.Z := fun a ha => (List.mem_filter.mp ha).1
  have hr : ∀ a ∈ w3.Z, a = D ∨ a ∈ w3.Z.filter (fun a => decide (a ≠ D)) := fun a ha => (Classical.em (a = D)).imp id fun n => List.mem_filter.mpr ⟨ha, by simpa using n⟩
  have nr : D ∉ w3.Z.filter (fun a => decide (a ≠ D)) := fun z => by simpa using (List.mem_filter.mp z).2
  have hid : ∀ a ∈ w.Z, a ∈ w3.Z.filter (fun a => decide (a ≠ D)) := fun a ha => List.mem_filter.mpr ⟨(x.hid a ha).1, by simpa using fun z : a = D => nD (z ▸ ha)⟩
  unfold mkL at p
  cases fz with
  | true =>
    obtain ⟨S', x'⟩ := S.unhide hz hr
    refine p { w3 with Z := w3.Z.filter (fun a => decide (a ≠ D)) } (.ref D) ⟨x.toExt0.trans x', x.fz, fun a ha => ⟨hid a ha, (x.hid a ha).2⟩⟩ S' (.fl (.inl ⟨.inl e, fun z => z.elim (fun z => ?_) nr⟩) (r.ext0 x'))
    obtain ⟨n, c, e1, _⟩ := (S.live D).mp z
    exact (S.zs D hm).1 (List.mem_of_getElem? e1)
  | false =>
    obtain ⟨S', x', g⟩ := S.show (c := .lst L) hm nr hz hr (fun z => nomatch z) fun x' => ⟨vL, e, r.ext0 x'⟩
    exact p { φ := w3.φ ++ [D], V := fun a => w3.V a ∨ a = D, Z := w3.Z.filter (fun a => decide (a ≠ D)), H := w3.H } (.ref D) ⟨x.toExt0.trans x', x.fz, fun a ha => ⟨hid a ha, (x.hid a ha).2⟩⟩ S' (.ref g)
theorem lc_rd {fz : Bool} {t : CT} {cond elt : Lo → Hv → Res Vl} {k : Core.Walk} {J : It} {w w2 : Wd} {h : Hv} {st : Lo} {σ : L2.St} {vs : List Nat} {Q : VK} (S : Sim G w h) (it : IterOk G X w h k J w2) (L : Lcl G w st σ) (hv : ctIn vs t = true) (hz : k.items.length ≤ LIM)
    (p : Post G w ((unlockF k (lcR k.src t (fun s h => noX (cond s h)) (fun s h => noX (elt s h)) (wipeL st vs) k.items (k.lock h))).bind fun l h => mkL fz l h) Q E) (D : Addr) (hD : w2.H D = none) :
    ∃ W : Nat → Nat → Hp → Prop, (∃ m, W 0 m (upd w2.H D (.lst []))) ∧ ∀ i m H, W i m H →
      (J.stop i H ∧ UnP X (Q (.ref D)) H) ∨ (J.go i H ∧ ∃ Nx : Hp → Prop, (∀ H', Nx H' → ∃ m', m' < m ∧ W (i + 1) m' H') ∧ ∀ x H', J.yld i H x H' → rdG G t x (wipe σ vs) H' fun σ2 H2 => wipe σ2 vs = wipe σ vs ∧ rdT G cond E0 σ2 H2 fun b H3 =>
        if b = true then rdE G elt E0 σ2 H3 fun y H4 => ∃ acc, H4 D = some (.lst acc) ∧ acc.length < sizeLine ∧ Nx (upd H4 D (.lst (acc ++ [y]))) else Nx H3) := by
  obtain ⟨S1, x1⟩ := it.sim.hide (o := .lst []) hD
  have nD : D ∉ w2.Z := fun z => by obtain ⟨_, o, e⟩ := it.sim.zs D z; rw [hD] at e; cases e
  have nD' : D ∉ w.Z := fun z => nD (it.ext.hid D z).1
  refine lc_ok (Qd := UnP X (Q (.ref D))) it hD ((L.ext it.ext).wipe vs) hv hz ?_
  revert p
  cases lcR k.src t (fun s h => noX (cond s h)) (fun s h => noX (elt s h)) (wipeL st vs) k.items (k.lock h) with
  | ex c fs h3 => intro _; trivial
  | st => intro p; unfold unlockF at p; cases hk : k.lck <;> (rw [hk] at p; exact p.elim)
  | ok l h3 =>
    intro p w' vL ex S' hm e r
    have x2 : Ext w2 w' := ex.ext x1 nD
    unfold unlockF at p
    cases hk : k.lck with
    | none =>
      rw [hk] at p
      exact .inl (fin_L (it.ext.trans x2) nD' S' hm e r p)
    | some nl =>
      obtain ⟨n, l'⟩ := nl
      rw [hk] at p
      obtain ⟨hc, d, hd, nf⟩ := it.lk n l' hk
      simp only at p
      split at p
      · rename_i m hm'
        have hd' := prefix_get x2.pre hd
        obtain ⟨o, kvs, e1, S4, x4⟩ := S'.unlock hd' hm'
        obtain ⟨a, ha, ca⟩ := S.adr hc
        have ha2 := prefix_get it.ext.pre ha
        rw [hd] at ha2; cases ha2
        have x := Ext.unlk it.ext x2 x4 rfl rfl (fun o u => ca.nofrz rfl o u) (fun hz => S.zne ha hz rfl)
        have ne : D ≠ d := S'.zne hd' hm
        exact .inr ⟨d, o, _, e1, nf, fin_L x nD' S4 hm ((upd_ne ne).trans e) (r.ext0 x4) p⟩
      · exact p.elim
/-! ### dicts -/
theorem dc_walk {n : Nat} {J : It} {Gd : Hp → Prop} {Y : Nat → Hp → V → Hp → Prop} (w : L2.Walk J n Gd Y) {g : TG} {tt : TT} {tk tv : TE} {vs : List Nat} {σ : L2.St} {H1 : Hp} {D : Addr} {Qd : Hp → Prop} (Pv : Nat → Hp → Prop) (h0 : Pv 0 (upd H1 D (.dK []))) (hG : ∀ i H, i ≤ n → Pv i H → Gd H)
    (hs : ∀ i x H H', i < n → Pv i H → Y i H x H' → g x (wipe σ vs) H' fun σ2 H2 => wipe σ2 vs = wipe σ vs ∧ tt σ2 H2 fun b H3 =>
      if b = true then tk σ2 H3 fun y H4 => tv σ2 H4 fun z H5 => ∃ kvs k, y = kV k ∧ H5 D = some (.dK kvs) ∧ kvs.length < sizeLine ∧ Pv (i + 1) (upd H5 D (.dK (putK kvs k z))) else Pv (i + 1) H3) (hd : ∀ H, Pv n H → Qd H) :
    ∃ W : Nat → Nat → Hp → Prop, (∃ m, W 0 m (upd H1 D (.dK []))) ∧ ∀ i m H, W i m H →
      (J.stop i H ∧ Qd H) ∨ (J.go i H ∧ ∃ Nx : Hp → Prop, (∀ H', Nx H' → ∃ m', m' < m ∧ W (i + 1) m' H') ∧ ∀ x H', J.yld i H x H' → g x (wipe σ vs) H' fun σ2 H2 => wipe σ2 vs = wipe σ vs ∧ tt σ2 H2 fun b H3 =>
        if b = true then tk σ2 H3 fun y H4 => tv σ2 H4 fun z H5 => ∃ kvs k, y = kV k ∧ H5 D = some (.dK kvs) ∧ kvs.length < sizeLine ∧ Nx (upd H5 D (.dK (putK kvs k z))) else Nx H3) := by
  refine ⟨fun i left H => i + left = n ∧ Pv i H, ⟨n, Nat.zero_add _, h0⟩, fun i left H hW => ?_⟩
  have hG' := hG i H (by omega) hW.2
  cases left with
  | zero =>
    have : i = n := by omega
    subst this
    exact .inl ⟨w.stops H hG', hd H hW.2⟩
  | succ left =>
    exact .inr ⟨w.goes i H (by omega) hG', Pv (i + 1), fun H' p => ⟨left, Nat.lt_succ_self _, by omega, p⟩, fun x H' y => hs i x H H' (by omega) hW.2 (w.yields i H x H' (by omega) hG' y)⟩
def GoalD (G : Gs) (D : Addr) (w0 : Wd) (Qd : Hp → Prop) (L : List (Key × Vl)) (h : Hv) : Prop := ∀ w' vL, ExtX D w0 w' → Sim G w' h → D ∈ w'.Z → w'.H D = some (.dK vL) → RKs G w' L vL → Qd w'.H
theorem put_len (l : List (Key × Vl)) (k : Key) (v : Vl) : (put l k v).length ≤ l.length + 1 := by
  unfold put
  split
  · simp
  · simp
theorem dc_ok {t : CT} {cond ke elt : Lo → Hv → Res Vl} {k : Core.Walk} {J : It} {w w2 : Wd} {h : Hv} {s0 : Lo} {σ : L2.St} {vs : List Nat} {D : Addr} {Qd : Hp → Prop} (it : IterOk G X w h k J w2) (hD : w2.H D = none) (L : Lcl G w2 s0 (wipe σ vs))
    (hv : ctIn vs t = true) (hz : k.items.length ≤ LIM)
    (p : PL (GoalD G D { w2 with Z := D :: w2.Z, H := upd w2.H D (.dK []) } Qd) (dcR k.src t (fun s h => noX (cond s h)) (fun s h => noX (ke s h)) (fun s h => noX (elt s h)) s0 k.items [] (k.lock h))) :
    ∃ W : Nat → Nat → Hp → Prop, (∃ m, W 0 m (upd w2.H D (.dK []))) ∧ ∀ i m H, W i m H →
      (J.stop i H ∧ Qd H) ∨ (J.go i H ∧ ∃ Nx : Hp → Prop, (∀ H', Nx H' → ∃ m', m' < m ∧ W (i + 1) m' H') ∧ ∀ x H', J.yld i H x H' → rdG G t x (wipe σ vs) H' fun σ2 H2 => wipe σ2 vs = wipe σ vs ∧ rdT G cond E0 σ2 H2 fun b H3 =>
        if b = true then rdE G ke E0 σ2 H3 fun y H4 => rdE G elt E0 σ2 H4 fun z H5 => ∃ kvs k, y = kV k ∧ H5 D = some (.dK kvs) ∧ kvs.length < sizeLine ∧ Nx (upd H5 D (.dK (putK kvs k z))) else Nx H3) := by
  obtain ⟨Gd, Y, wk, hg, hy⟩ := it.wk
  obtain ⟨S1, x1⟩ := it.sim.hide (o := .dK []) hD
  have nD : D ∉ w2.Z := fun z => by obtain ⟨_, o, e⟩ := it.sim.zs D z; rw [hD] at e; cases e
  have of2 : ∀ {w4 : Wd}, ExtX D { w2 with Z := D :: w2.Z, H := upd w2.H D (.dK []) } w4 → Ext w2 w4 := fun e => e.ext x1 nD
  refine dc_walk (n := k.items.length) wk (fun i H => ∃ (w4 : Wd) (h4 : Hv) (acc : List (Key × Vl)) (vacc : List (Key × V)), w4.H = H ∧ ExtX D { w2 with Z := D :: w2.Z, H := upd w2.H D (.dK []) } w4 ∧ Sim G w4 h4 ∧ D ∈ w4.Z ∧ w4.H D = some (.dK vacc) ∧ RKs G w4 acc vacc ∧ acc.length ≤ i ∧
    PL (GoalD G D { w2 with Z := D :: w2.Z, H := upd w2.H D (.dK []) } Qd) (dcR k.src t (fun s h => noX (cond s h)) (fun s h => noX (ke s h)) (fun s h => noX (elt s h)) s0 (k.items.drop i) acc h4)) ?_ ?_ ?_ ?_
  · exact ⟨_, k.lock h, [], [], rfl, .of (.refl _), S1, List.mem_cons_self, upd_same, .nil, Nat.zero_le _, by simpa using p⟩
  · rintro i H hi ⟨w4, h4, acc, vacc, rfl, e4, S4, hm4, hD4, r4, z4, p4⟩
    refine hg w4 h4 (of2 e4) S4 ?_
    cases hd : k.items.drop i with
    | nil =>
      rw [hd] at p4
      unfold dcR at p4
      exact Classical.byContradiction fun hn => by rw [if_neg hn] at p4; exact p4
    | cons v r =>
      rw [hd] at p4
      unfold dcR at p4
      exact Classical.byContradiction fun hn => by rw [if_neg hn] at p4; exact p4
  · rintro i x H H' hi ⟨w4, h4, acc, vacc, rfl, e4, S4, hm4, hD4, r4, z4, p4⟩ y
    have hd : k.items.drop i = k.items[i] :: k.items.drop (i + 1) := List.drop_eq_getElem_cons hi
    rw [hd] at p4
    unfold dcR at p4
    split at p4
    · rename_i so
      obtain ⟨w5, v, rfl, S5, e5, hv5, r5⟩ := hy i w4 h4 x H' hi (of2 e4) S4 so y
      have : k.items[i] = v := by
        rw [List.getElem?_eq_getElem hi] at hv5; exact Option.some.inj hv5
      rw [this] at p4
      split at p4
      · exact p4.elim
      · rename_i st5 ha
        have x5 := e4.trans (.of e5)
        refine ⟨w5, h4, s0, st5, v, rfl, S5, L.ext (of2 x5), r5, ha, fun σ' L' hw => ⟨(hw vs hv).trans (wipe_twice σ vs), w5, h4, st5, rfl, S5, L', ?_⟩⟩
        obtain ⟨c, h6, hc, p6⟩ := noX_bind p4
        rw [hc]
        intro w6 x6 e6 S6 r6
        have e46 := e5.trans e6
        cases c with
        | bl b =>
          refine ⟨b, r6.bl', ?_⟩
          have hD6 : w6.H D = some (.dK vacc) := (e46.hid D hm4).2.trans hD4
          cases b with
          | false => exact ⟨w6, h6, acc, vacc, rfl, e4.trans (.of e46), S6, (e46.hid D hm4).1, hD6, r4.ext e46, by omega, p6⟩
          | true =>
            simp only [if_true]
            refine ⟨w6, h6, st5, rfl, S6, L'.ext e6, ?_⟩
            obtain ⟨y7, h7, hy7, p7⟩ := noX_bind p6
            rw [hy7]
            intro w7 x7 e7 S7 r7
            refine ⟨w7, h7, st5, rfl, S7, (L'.ext e6).ext e7, ?_⟩
            obtain ⟨y8, h8, hy8, p8⟩ := noX_bind p7
            rw [hy8]
            intro w8 x8 e8 S8 r8
            have e48 := (e46.trans e7).trans e8
            have hm8 := (e48.hid D hm4).1
            have hD8 : w8.H D = some (.dK vacc) := (e48.hid D hm4).2.trans hD4
            split at p8
            · rename_i kk hk
              refine ⟨vacc, kk, keyOf_ok r7 hk, hD8, by rw [← lim_eq, ← r4.length]; omega, ?_⟩
              obtain ⟨S9, x9⟩ := S8.hset (o := .dK (putK vacc kk x8)) hm8
              exact ⟨_, h8, put acc kk y8, _, rfl, (e4.trans (.of e48)).trans (.hset x9 hD8 (fun _ _ z => nomatch z)), S9, hm8, upd_same, (put_ok (r4.ext e48) kk r8).ext0 x9, by have := put_len acc kk y8; omega, p8⟩
            · exact p8.elim
        | _ => exact p6.elim
    · exact p4.elim
  · rintro H ⟨w4, h4, acc, vacc, rfl, e4, S4, hm4, hD4, r4, z4, p4⟩
    rw [List.drop_length] at p4
    unfold dcR at p4
    split at p4
    · exact p4 w4 vacc e4 S4 hm4 hD4 r4
    · exact p4.elim
theorem fin_D {fz : Bool} {L : List (Key × Vl)} {w w3 : Wd} {h3 : Hv} {D : Addr} {vL : List (Key × V)} {Q : VK} (x : Ext w w3) (nD : D ∉ w.Z) (S : Sim G w3 h3) (hm : D ∈ w3.Z) (e : w3.H D = some (.dK vL)) (r : RKs G w3 L vL) (p : Post G w (mkD fz L h3) Q E) : Q (.ref D) w3.H := by
  have hz : ∀ a ∈ w3.Z.filter (fun a => decide (a ≠ D)), a ∈ w3.Z := fun a ha => (List.mem_filter.mp ha).1
  have hr : ∀ a ∈ w3.Z, a = D ∨ a ∈ w3.Z.filter (fun a => decide (a ≠ D)) := fun a ha => (Classical.em (a = D)).imp id fun n => List.mem_filter.mpr ⟨ha, by simpa using n⟩
  have nr : D ∉ w3.Z.filter (fun a => decide (a ≠ D)) := fun z => by simpa using (List.mem_filter.mp z).2
  have hid : ∀ a ∈ w.Z, a ∈ w3.Z.filter (fun a => decide (a ≠ D)) := fun a ha => List.mem_filter.mpr ⟨(x.hid a ha).1, by simpa using fun z : a = D => nD (z ▸ ha)⟩
  unfold mkD at p
  cases fz with
  | true =>
    obtain ⟨S', x'⟩ := S.unhide hz hr
    refine p { w3 with Z := w3.Z.filter (fun a => decide (a ≠ D)) } (.ref D) ⟨x.toExt0.trans x', x.fz, fun a ha => ⟨hid a ha, (x.hid a ha).2⟩⟩ S' (.fd ⟨.inl e, fun z => z.elim (fun z => ?_) nr⟩ (r.ext0 x'))
    obtain ⟨n, c, e1, _⟩ := (S.live D).mp z
    exact (S.zs D hm).1 (List.mem_of_getElem? e1)
  | false =>
    obtain ⟨S', x', g⟩ := S.show (c := .dct L) hm nr hz hr (fun z => nomatch z) fun x' => ⟨vL, e, r.ext0 x'⟩
    exact p { φ := w3.φ ++ [D], V := fun a => w3.V a ∨ a = D, Z := w3.Z.filter (fun a => decide (a ≠ D)), H := w3.H } (.ref D) ⟨x.toExt0.trans x', x.fz, fun a ha => ⟨hid a ha, (x.hid a ha).2⟩⟩ S' (.ref g)
theorem dc_rd {fz : Bool} {t : CT} {cond ke elt : Lo → Hv → Res Vl} {k : Core.Walk} {J : It} {w w2 : Wd} {h : Hv} {st : Lo} {σ : L2.St} {vs : List Nat} {Q : VK} (S : Sim G w h) (it : IterOk G X w h k J w2) (L : Lcl G w st σ) (hv : ctIn vs t = true) (hz : k.items.length ≤ LIM)
    (p : Post G w ((unlockF k (dcR k.src t (fun s h => noX (cond s h)) (fun s h => noX (ke s h)) (fun s h => noX (elt s h)) (wipeL st vs) k.items [] (k.lock h))).bind fun l h => mkD fz l h) Q E) (D : Addr) (hD : w2.H D = none) :
    ∃ W : Nat → Nat → Hp → Prop, (∃ m, W 0 m (upd w2.H D (.dK []))) ∧ ∀ i m H, W i m H →
      (J.stop i H ∧ UnP X (Q (.ref D)) H) ∨ (J.go i H ∧ ∃ Nx : Hp → Prop, (∀ H', Nx H' → ∃ m', m' < m ∧ W (i + 1) m' H') ∧ ∀ x H', J.yld i H x H' → rdG G t x (wipe σ vs) H' fun σ2 H2 => wipe σ2 vs = wipe σ vs ∧ rdT G cond E0 σ2 H2 fun b H3 =>
        if b = true then rdE G ke E0 σ2 H3 fun y H4 => rdE G elt E0 σ2 H4 fun z H5 => ∃ kvs k, y = kV k ∧ H5 D = some (.dK kvs) ∧ kvs.length < sizeLine ∧ Nx (upd H5 D (.dK (putK kvs k z))) else Nx H3) := by
  obtain ⟨S1, x1⟩ := it.sim.hide (o := .dK []) hD
  have nD : D ∉ w2.Z := fun z => by obtain ⟨_, o, e⟩ := it.sim.zs D z; rw [hD] at e; cases e
  have nD' : D ∉ w.Z := fun z => nD (it.ext.hid D z).1
  refine dc_ok (Qd := UnP X (Q (.ref D))) it hD ((L.ext it.ext).wipe vs) hv hz ?_
  revert p
  cases dcR k.src t (fun s h => noX (cond s h)) (fun s h => noX (ke s h)) (fun s h => noX (elt s h)) (wipeL st vs) k.items [] (k.lock h) with
  | ex c fs h3 => intro _; trivial
  | st => intro p; unfold unlockF at p; cases hk : k.lck <;> (rw [hk] at p; exact p.elim)
  | ok l h3 =>
    intro p w' vL ex S' hm e r
    have x2 : Ext w2 w' := ex.ext x1 nD
    unfold unlockF at p
    cases hk : k.lck with
    | none =>
      rw [hk] at p
      exact .inl (fin_D (it.ext.trans x2) nD' S' hm e r p)
    | some nl =>
      obtain ⟨n, l'⟩ := nl
      rw [hk] at p
      obtain ⟨hc, d, hd, nf⟩ := it.lk n l' hk
      simp only at p
      split at p
      · rename_i m hm'
        have hd' := prefix_get x2.pre hd
        obtain ⟨o, kvs, e1, S4, x4⟩ := S'.unlock hd' hm'
        obtain ⟨a, ha, ca⟩ := S.adr hc
        have ha2 := prefix_get it.ext.pre ha
        rw [hd] at ha2; cases ha2
        have x := Ext.unlk it.ext x2 x4 rfl rfl (fun o u => ca.nofrz rfl o u) (fun hz => S.zne ha hz rfl)
        have ne : D ≠ d := S'.zne hd' hm
        exact .inr ⟨d, o, _, e1, nf, fin_D x nD' S4 hm ((upd_ne ne).trans e) (r.ext0 x4) p⟩
      · exact p.elim
end
end Core
end

section
set_option Elab.async false
set_option linter.all false
set_option maxRecDepth 100000
set_option maxHeartbeats 4000000
set_option autoImplicit false
/-! Core12: expressions keep what their terms say. -/
namespace Core
open PySem L2 PyProof.Rows

theorem starEach_ok {e : Expr} {es : List Expr} {env : Env} (h : noStar e = true) : starEach (e :: es) env = (false, eval e env) :: starEach es env := by
  cases e <;> first | rfl | cases h
theorem attr_base {o : Expr} {f : Str} {env : Env} {w : Sem Value} (h : noCall0 o = true) : attributeBase o f env w = w := by
  cases o with
  | Call g as ks p => cases g <;> cases as <;> cases ks <;> first | rfl | cases h
  | _ => rfl
theorem plainIx {b : Expr} (h : noSlice b = true) : PlainIx b := by
  intro o i
  cases b <;> first | rfl | cases h
theorem ownIx {b : Expr} (h : noSlice b = true) (o : Addr) (i : Value) : subscripted b true (.ref o) i = runValue (.builtin "lifetime.subscript" ⟨[.ref o, i], []⟩) := by
  cases b <;> first | rfl | cases h
theorem behind_ok {op : CmpOp} {b : Expr} (h : noSet b = true) : behindInMarks op b = false := by
  cases b <;> first | rfl | cases h
theorem folded_ok {e : Expr} {env : Env} (h : noSet e = true) (x : Value) : foldedSetIterable e env x = pure x := by
  cases e <;> first | rfl | cases h
theorem isVis_vis {sc : Scope} {x : Str} (h : isVis sc x = true) : Vis sc x := by
  unfold isVis at h
  split at h
  · rename_i e; exact .inl e
  · rename_i e; exact .inr (.inl e)
  · rename_i e; exact .inr (.inr e)
  · cases h
theorem isGl_gl {X : Cx} {x : Str} (h : isGl X.env.scope x = true) : Gl X x := by
  unfold isGl at h
  split at h
  · rename_i e; exact e
  · cases h
theorem okN_ok {x : Str} (h : okN x = true) : (x == ("__debug__" : Str)) = false ∧ (x == ("__classdict__" : Str)) = false ∧ x ≠ "__name__" := by
  simp only [okN, Bool.and_eq_true, Bool.not_eq_true', beq_eq_false_iff_ne] at h
  exact ⟨by simpa using h.1.1, by simpa using h.1.2, h.2⟩
/-- tests of a term are its value's truth -/
def plainC : CE → Bool
  | .not_ _ => false | .and_ _ _ => false | .or_ _ _ => false | .ifx _ _ _ => false | .cmp _ _ _ => false | .chain _ _ _ _ _ => false
  | _ => true
theorem ev_tw {T : Tab} {cl : Cl} {e : CE} (h : plainC e = true) (s : Lo) (hv : Hv) : evE T cl true e s hv = tw true (evE T cl false e s hv) := by
  cases e with
  | bl b => simp [evE, tw, Res.bind, truV]
  | isin a t =>
    simp only [evE, tw, if_true]
    cases evE T cl false a s hv with
    | ok v h1 =>
      simp only [Res.bind]
      cases tyF T h1 v t <;> simp [ofO, Res.bind, truV]
    | ex _ _ _ => rfl
    | st => rfl
  | not_ _ => cases h
  | and_ _ _ => cases h
  | or_ _ _ => cases h
  | ifx _ _ _ => cases h
  | cmp _ _ _ => cases h
  | chain _ _ _ _ _ => cases h
  | _ => simp [evE, tw]
section
variable {G : Gs} {T : Tab} {M : Nm} {F : Fcts} {cl : Cl} {k : Nat} {X : Cx} {E : L2.St → XK} {E1 : XK}
theorem XC.blk (hx : XC G T M F cl k X E) (s : Shared) (H : Hp) (scope : Scope) (C : Addr) (cs : List (Str × Addr)) (fp : List Addr) : XC G T M F cl k (X.blk s H scope (compEnvC scope cs C X.env) fp) E0 where
  K := hx.K
  calm := hx.calm
  un := hx.un
  nd := hx.nd
  stc := hx.stc
  clok := hx.clok
  fnok := hx.fnok
  room := hx.room
  tk := fun u s' ⟨_, _, _, _, _, _, _, _, _, _, _, _, _, _, _, _, hE⟩ => hE.elim
  po := PassesOwn.never
theorem both (hx : XOk G X) {e : CE} {x : Expr} (h : PE X x (rdE G (evE T cl false e) E)) (hp : plainC e = true) (he : ∀ whole, isTrue x X.env whole = (do let v ← whole; standAt x.pos; holding [v] (truthy v))) :
    PE X x (rdE G (evE T cl false e) E) ∧ PT X x (rdT G (evE T cl true e) E) := by
  refine ⟨h, ?_⟩
  have z := pt_of_pe hx h he
  have : (fun s h => tw true (evE T cl false e s h)) = evE T cl true e := by funext s h; exact (ev_tw hp s h).symm
  rw [this] at z
  exact z
/-- a value from a result -/
theorem rd_leaf {x : Expr} {t : TE} {r : Lo → Hv → Res Vl} (h : PE X x t) (k : ∀ σ Q (w : Wd) (h : Hv) (st : Lo), Sim G w h → Lcl G w st σ → Post G w (r st h) Q (E σ) → t σ w.H Q) : PE X x (rdE G r E) :=
  pe_imp h fun σ H Q ⟨w, h, st, e, S, L, p⟩ => e ▸ k σ Q w h st S L p
/-- a call of f, of the class c: what is run with the arguments' values -/
def CallG (G : Gs) (X : Cx) (E : L2.St → XK) (f : Value) (r : List Vl → Hv → Res Vl) : Prop := ∀ (pins : List (Addr × Obj)) (σ : L2.St) (s : Shared) (w : Wd) (h : Hv) (Q : VK) (args : List Vl) (vs : List V) (us : List Value), Inv X pins σ w.H s → Sim G w h → RVs G w args vs → Vals vs us → Post G w (r args h) Q (E σ) →
  wpAny (model X.prog X.w) X.A (call f us) (EP X pins σ Q) X.xe s
theorem callG_fn (hx : XC G T M F cl k X E) (f : Nat) : CallG G X E (.ref (F.fA f)) (cl f) := fun pins σ s w h Q args vs us I S ra r p => run_cl1 hx I S ra r p
theorem callG_mk (hx : XC G T M F cl k X E) (c : Nat) : CallG G X E (.ref (G.cA c)) (mkD' T cl c) := fun pins σ s w h Q args vs us I S ra r p => run_mk hx I S ra r p
theorem pe_callG {f : Value} {g : List Vl → Hv → Res Vl} (hg : CallG G X E f g) {x : Str} {e : Expr} {es : List Expr} {p pos : Pos} {r : Lo → Hv → Res (List Vl)} (gx : Gl X x) (mx : X.mg x = some f) (kx : PySem.W.keepIn X.K f = true) (dx : (x == ("__debug__" : Str)) = false)
    (ha : PA X (e :: es) (rdEs G r E)) (h1 : starEach (e :: es) X.env = (false, eval e X.env) :: starEach es X.env) (h2 : (backTo pos (starEach es X.env)).any (·.1) = false) :
    PE X (.Call (.Name x p) (e :: es) [] pos) (rdE G (fun s h => (r s h).bind fun vs h => g vs h) E) := by
  refine ⟨fun pins s σ H Q I ⟨w, h, st, eH, S, L, q⟩ => ?_⟩
  subst eH
  have rd : rdEs G r E σ w.H fun vs H1 => ∃ (w1 : Wd) (h1 : Hv) (l : List Vl), w1.H = H1 ∧ Sim G w1 h1 ∧ RVs G w1 l vs ∧ Post G w1 (g l h1) Q (E σ) := ⟨w, h, st, rfl, S, L, q.bind fun v h1 w' x e S r q => ⟨w', h1, v, rfl, S, r, q⟩⟩
  refine wpAny_Call_Name_kw (ld_glob I gx mx ?_ dx)
  refine PySem.W.callWith_K (h₀ := X.base) I.ok.mod.kin kx (thn (ha.run pos pins s σ w.H _ I rd) fun us s1 ⟨vs, H1, I1, rv, w1, h1, l, e1, S1, rl, q1⟩ => ⟨I1.kIn, ?_⟩) h1 h2
  subst e1
  exact hg pins σ s1 w1 h1 Q l vs us I1 S1 rl rv q1
theorem pe_callG0 {f : Value} {g : List Vl → Hv → Res Vl} (hg : CallG G X E f g) {x : Str} {p pos : Pos} (gx : Gl X x) (mx : X.mg x = some f) (kx : PySem.W.keepIn X.K f = true) (dx : (x == ("__debug__" : Str)) = false) :
    PE X (.Call (.Name x p) [] [] pos) (rdE G (fun _ h => g [] h) E) := by
  refine ⟨fun pins s σ H Q I ⟨w, h, st, eH, S, L, q⟩ => ?_⟩
  subst eH
  refine wpAny_Call_Name_kw (ld_glob I gx mx (PySem.W.callWith_K0 I.kIn kx ?_) dx)
  exact hg pins σ s w h Q [] [] [] I S .nil .nil q
/-- o.m(..) by the object's class -/
theorem meth_eval {o : Expr} {m : Str} {apos pos : Pos} {xs : List Expr} {env : Env} (h : noCall0 o = true) (hl : (apos.endLine == pos.line) = true) (hf : methodCallForm (xs.length + ([] : List Keyword).length) (backTo pos (starEach xs env)) (backToKw pos (keywordEach [] env)) = true) :
    eval (.Call (.Attribute o m apos) xs [] pos) env = (do
      let ov ← eval o env
      standAt apos.atName
      let (f, first) ← holding [ov] (getMethod ov m (do return (← importBound o env).getD true))
      callWith pos f first (backTo pos (starEach xs env)) (backToKw pos (keywordEach [] env))) := by
  refine mcall_of (attr_base h) fun ov => ?_
  unfold methodCall calleeOf methodCallPos
  rw [hf, hl]
  simp only [if_true, Bool.or_true, pure_bind]
theorem star_any : ∀ {xs : List Expr} {env : Env} {pos : Pos}, (∀ x ∈ xs, noStar x = true) → (backTo pos (starEach xs env)).any (·.1) = false ∧ (backTo pos (starEach xs env)).all (!·.1) = true
  | [], _, _, _ => ⟨rfl, rfl⟩
  | x :: xs, env, pos, h => by
    obtain ⟨a, b⟩ := star_any (xs := xs) (env := env) (pos := pos) fun y hy => h y (List.mem_cons_of_mem _ hy)
    rw [starEach_ok (h x List.mem_cons_self)]
    refine ⟨?_, ?_⟩
    · show (false || (backTo pos (starEach xs env)).any (·.1)) = false
      rw [a]; rfl
    · show (true && (backTo pos (starEach xs env)).all (!·.1)) = true
      rw [b]; rfl
theorem form_ok {xs : List Expr} {env : Env} {pos : Pos} (h : ∀ x ∈ xs, noStar x = true) (hl : xs.length < 30) : methodCallForm (xs.length + ([] : List Keyword).length) (backTo pos (starEach xs env)) (backToKw pos (keywordEach [] env)) = true := by
  unfold methodCallForm
  rw [(star_any h).2]
  simpa [keywordEach, backToKw] using hl
def methD (T : Tab) (cl : Cl) (m : Nat) (o : Vl) (h : Hv) (k : (List Vl → Hv → Res Vl) → Res Vl) : Res Vl := match asO h o with
  | some (c, _) => match T.meth c m with
    | some f => k fun vs h => cl f (o :: vs) h
    | none => .st
  | none => .st
theorem pe_methG (hx : XC G T M F cl k X E) {o : Expr} {m : Nat} {n : Str} {e : Expr} {es : List Expr} {apos pos : Pos} {ro : Lo → Hv → Res Vl} {r : Lo → Hv → Res (List Vl)} (hn : M.mN[m]? = some n) (ho : PE X o (rdE G ro E)) (nc : noCall0 o = true) (hl : (apos.endLine == pos.line) = true) (hz : (e :: es).length < 30) (ns : ∀ x ∈ e :: es, noStar x = true)
    (ha : PA X (e :: es) (rdEs G r E)) :
    PE X (.Call (.Attribute o n apos) (e :: es) [] pos) (rdE G (fun s h => (ro s h).bind fun ov h => methD T cl m ov h fun g => (r s h).bind fun vs h => g vs h) E) := by
  refine ⟨fun pins s σ H Q I ⟨w, h, st, eH, S, L, q⟩ => ?_⟩
  subst eH
  have hev := meth_eval (m := n) (apos := apos) (pos := pos) (xs := e :: es) (env := X.env) nc hl (form_ok ns hz)
  have h1 := starEach_ok (es := es) (env := X.env) (ns e List.mem_cons_self)
  have h2 := (star_any (xs := es) (env := X.env) (pos := pos) fun y hy => ns y (List.mem_cons_of_mem _ hy)).1
  have rd : rdE G ro E σ w.H fun x H1 => ∃ (w1 : Wd) (h1 : Hv) (ov : Vl), w1.H = H1 ∧ Sim G w1 h1 ∧ Lcl G w1 st σ ∧ RV G w1 ov x ∧ Post G w1 (methD T cl m ov h1 fun g => (r st h1).bind fun vs h => g vs h) Q (E σ) := ⟨w, h, st, rfl, S, L, q.bind fun v h1 w' x e S r q => ⟨w', h1, v, rfl, S, L.ext e, r, q⟩⟩
  refine PySem.W.methodCall_KW (thn (ho.run pins s σ w.H _ I rd) fun u s1 ⟨x, H1, I1, rx, w1, h3, ov, e1, S1, L1, ro1, q1⟩ => ?_) hev
  subst e1
  unfold methD at q1
  split at q1
  · rename_i c fs hc
    split at q1
    · rename_i f hf
      obtain ⟨a, dx, fs', rfl, ha1, rf⟩ := asO_ok S1 ro1 hc
      obtain rfl : u = Value.ref a := rx
      obtain ⟨n', hn', hcl, hm⟩ := hx.stc.meth c m f hf
      rw [hn] at hn'; cases hn'
      have hl : fs'.lookup n = none := rf.noneOf (by rw [hx.stc.fN]; exact hx.stc.mdj n (List.mem_of_getElem? hn))
      have hcl' : Cls X.K (G.cA c) := hx.K ▸ hcl
      have hm' : Meth X.K (G.cA c) n (F.fA f) := hx.K ▸ hm
      refine getmeth_ok I1 ha1 hcl' hm' hl ?_
      have rd2 : rdEs G r E σ w1.H fun vs H1 => ∃ (w2 : Wd) (h2 : Hv) (l : List Vl), w2.H = H1 ∧ Sim G w2 h2 ∧ RV G w2 ov (.ref a) ∧ RVs G w2 l vs ∧ Post G w2 (cl f (ov :: l) h2) Q (E σ) :=
        ⟨w1, h3, st, rfl, S1, L1, q1.bind fun v h1 w' x e S r q => ⟨w', h1, v, rfl, S, ro1.ext e, r, q⟩⟩
      refine PySem.W.callWith_K (first := [.ref a]) (h₀ := X.base) I1.ok.mod.kin hm'.kp (thn (ha.run pos pins s1 σ w1.H _ I1 rd2) fun us s2 ⟨vs, H2, I2, rv, w2, h2, l, e2, S2, ro2, rl, q2⟩ => ⟨I2.kIn, ?_⟩) h1 h2
      subst e2
      exact run_cl1 hx I2 S2 (.cons ro2 rl) (.cons rfl rv) q2
    · exact q1.elim
  · exact q1.elim
theorem pe_methG0 (hx : XC G T M F cl k X E) {o : Expr} {m : Nat} {n : Str} {apos pos : Pos} {ro : Lo → Hv → Res Vl} (hn : M.mN[m]? = some n) (ho : PE X o (rdE G ro E)) (nc : noCall0 o = true) (hl : (apos.endLine == pos.line) = true) :
    PE X (.Call (.Attribute o n apos) [] [] pos) (rdE G (fun s h => (ro s h).bind fun ov h => methD T cl m ov h fun g => g [] h) E) := by
  refine ⟨fun pins s σ H Q I ⟨w, h, st, eH, S, L, q⟩ => ?_⟩
  subst eH
  have hev := meth_eval (m := n) (apos := apos) (pos := pos) (xs := []) (env := X.env) nc hl rfl
  have rd : rdE G ro E σ w.H fun x H1 => ∃ (w1 : Wd) (h1 : Hv) (ov : Vl), w1.H = H1 ∧ Sim G w1 h1 ∧ RV G w1 ov x ∧ Post G w1 (methD T cl m ov h1 fun g => g [] h1) Q (E σ) := ⟨w, h, st, rfl, S, L, q.bind fun v h1 w' x e S r q => ⟨w', h1, v, rfl, S, r, q⟩⟩
  refine PySem.W.methodCall_KW (thn (ho.run pins s σ w.H _ I rd) fun u s1 ⟨x, H1, I1, rx, w1, h3, ov, e1, S1, ro1, q1⟩ => ?_) hev
  subst e1
  unfold methD at q1
  split at q1
  · rename_i c fs hc
    split at q1
    · rename_i f hf
      obtain ⟨a, dx, fs', rfl, ha1, rf⟩ := asO_ok S1 ro1 hc
      obtain rfl : u = Value.ref a := rx
      obtain ⟨n', hn', hcl, hm⟩ := hx.stc.meth c m f hf
      rw [hn] at hn'; cases hn'
      have hl : fs'.lookup n = none := rf.noneOf (by rw [hx.stc.fN]; exact hx.stc.mdj n (List.mem_of_getElem? hn))
      have hcl' : Cls X.K (G.cA c) := hx.K ▸ hcl
      have hm' : Meth X.K (G.cA c) n (F.fA f) := hx.K ▸ hm
      refine getmeth_ok I1 ha1 hcl' hm' hl (PySem.W.callWith_K0 (first := [.ref a]) I1.kIn hm'.kp ?_)
      exact run_cl1 hx I1 S1 (.cons ro1 .nil) (.cons rfl .nil) q1
    · exact q1.elim
  · exact q1.elim
/-- an instance is called -/
theorem pe_ocall (hx : XC G T M F cl k X E) {x : Str} {p : Pos} {e : Expr} {es : List Expr} {pos : Pos} {ro : Lo → Hv → Res Vl} {r : Lo → Hv → Res (List Vl)} (ho : PE X (.Name x p) (rdE G ro E)) (ns : ∀ x ∈ e :: es, noStar x = true)
    (ha : PA X (e :: es) (rdEs G r E)) :
    PE X (.Call (.Name x p) (e :: es) [] pos) (rdE G (fun s h => (ro s h).bind fun ov h => match asO h ov with
      | some _ => (r s h).bind fun vs h => match asO h ov with
        | some (c, _) => spC T cl c .call (ov :: vs) h
        | none => .st
      | none => .st) E) := by
  refine ⟨fun pins s σ H Q I ⟨w, h, st, eH, S, L, q⟩ => ?_⟩
  subst eH
  have h1 := starEach_ok (es := es) (env := X.env) (ns e List.mem_cons_self)
  have h2 := (star_any (xs := es) (env := X.env) (pos := pos) fun y hy => ns y (List.mem_cons_of_mem _ hy)).1
  have rd : rdE G ro E σ w.H fun x H1 => ∃ (w1 : Wd) (h1 : Hv) (ov : Vl), w1.H = H1 ∧ Sim G w1 h1 ∧ Lcl G w1 st σ ∧ RV G w1 ov x ∧ Post G w1 (match asO h1 ov with
      | some _ => (r st h1).bind fun vs h => match asO h ov with
        | some (c, _) => spC T cl c .call (ov :: vs) h
        | none => .st
      | none => .st) Q (E σ) := ⟨w, h, st, rfl, S, L, q.bind fun v h1 w' x e S r q => ⟨w', h1, v, rfl, S, L.ext e, r, q⟩⟩
  refine wpAny_Call_Name_kw (thn (ho.run pins s σ w.H _ I rd) fun u s1 ⟨x, H1, I1, rx, w1, h3, ov, e1, S1, L1, ro1, q1⟩ => ?_)
  subst e1
  split at q1
  · rename_i cf hc
    obtain ⟨c0, fs0⟩ := cf
    obtain ⟨a, dx, fs', rfl, ha1, rf⟩ := asO_ok S1 ro1 hc
    obtain rfl : u = Value.ref a := rx
    have rd2 : rdEs G r E σ w1.H fun vs H1 => ∃ (w2 : Wd) (h2 : Hv) (l : List Vl), w2.H = H1 ∧ Sim G w2 h2 ∧ RV G w2 ov (.ref a) ∧ RVs G w2 l vs ∧ Post G w2 (match asO h2 ov with
        | some (c, _) => spC T cl c .call (ov :: l) h2
        | none => .st) Q (E σ) :=
      ⟨w1, h3, st, rfl, S1, L1, q1.bind fun v h1 w' x e S r q => ⟨w', h1, v, rfl, S, ro1.ext e, r, q⟩⟩
    refine StX.callO_with (thn (ha.run pos pins s1 σ w1.H _ I1 rd2) fun us s2 ⟨vs, H2, I2, rv, w2, h2, l, e2, S2, ro2, rl, q2⟩ => ?_) h1 h2
    subst e2
    split at q2
    · rename_i c fs hc2
      obtain ⟨a', dx', fs'', e3, ha2, rf2⟩ := asO_ok S2 ro2 hc2
      cases e3
      obtain ⟨ox, od, J, hd⟩ := StX.insC_at I2 (.inr ⟨dx', fs'', ha2⟩)
      refine ⟨⟨_, ox, od, J, hd⟩, ?_⟩
      unfold spC at q2
      cases hs : T.sp c .call with
      | none => rw [hs] at q2; exact q2.elim
      | some f =>
        rw [hs] at q2
        obtain ⟨z1, z2, z3⟩ := (show _ ∧ _ ∧ _ from hx.stc.sp c _ f hs)
        refine wpAny_call (PySem.W.kco_code I2.kIn J hd (hx.K ▸ z3) (hx.K ▸ z1) (hx.K ▸ z2) (codeAny_mono (run_cl hx (hx.room.mono (by omega)) I2.env0 I2 S2 (.cons ro2 rl) (.cons rfl rv) q2) fun r s' hq => by
          cases r with
          | error e => exact hq
          | ok fl => cases fl <;> exact hq))
    · exact q2.elim
  · exact q1.elim
theorem pt_ifx {c a b : Expr} {tc ta tb : TT} {pos : Pos} (hc : PT X c tc) (ha : PT X a ta) (hb : PT X b tb) : PT X (.IfExp c a b pos) (fun σ H Q => tc σ H fun k H1 => if k = true then ta σ H1 Q else tb σ H1 Q) := by
  refine ⟨fun pins s σ H Q I q => isTrue_IfExp (thn (hc.run pins s σ H _ I q) fun d s1 ⟨H1, I1, q1⟩ => ?_)⟩
  cases d with
  | true => exact ha.run pins s1 σ H1 Q I1 q1
  | false => exact hb.run pins s1 σ H1 Q I1 q1
/-! ### methods of built-in types -/
theorem few_ok {xs : List Expr} {env : Env} {pos : Pos} (h : ∀ x ∈ xs, noStar x = true) (hl : xs.length < 30) : ((backTo pos (starEach xs env)).all (fun x => !x.1) && (backToKw pos (keywordEach [] env)).all (fun x => x.1.isSome)
      && decide (xs.length + ([] : List Keyword).length + (if ([] : List Keyword).isEmpty then 0 else 1) < 30)) = true := by
  rw [(star_any h).2]
  simpa [keywordEach, backToKw] using hl
def CEs.len : CEs → Nat
  | .nil => 0
  | .cons _ r => r.len + 1
def tyOfBm : BM → String
  | .join => "str" | .get => "dict" | _ => "list"
theorem PostG.mono' {α β : Type} {R : Wd → α → β → Prop} {w : Wd} {r : Res α} {Q Q' : β → Hp → Prop} {E : XK} (p : PostG G R w r Q E) (k : ∀ x H, Q x H → Q' x H) : PostG G R w r Q' E := by
  cases r with
  | ok v h => exact fun w' x e S r => k _ _ (p w' x e S r)
  | ex c fs h => exact p
  | st => exact p
theorem post_any {α β : Type} {R : Wd → α → β → Prop} {w : Wd} {r : Res α} {Q : β → Hp → Prop} {E1 E2 : XK} (n : ∀ c fs h, r ≠ .ex c fs h) (p : PostG G R w r Q E1) : PostG G R w r Q E2 := by
  cases r with
  | ok v h => exact p
  | ex c fs h => exact absurd rfl (n c fs h)
  | st => exact p
theorem chk_nx {α : Type} {c : Prop} [Decidable c] {r : Res α} (n : ∀ d fs h, r ≠ .ex d fs h) : ∀ d fs h, chk c r ≠ .ex d fs h := by
  intro d fs h
  unfold chk
  split
  · exact n d fs h
  · intro z; cases z
theorem mkL_nx {fz : Bool} {l : List Vl} {h : Hv} : ∀ c fs h', mkL fz l h ≠ .ex c fs h' := by
  intro c fs h'
  unfold mkL
  split <;> (intro z; cases z)
theorem mkD_nx {fz : Bool} {l : List (Key × Vl)} {h : Hv} : ∀ c fs h', mkD fz l h ≠ .ex c fs h' := by
  intro c fs h'
  unfold mkD
  split <;> (intro z; cases z)
theorem bltF_nx (b : Blt) (fz : Bool) (l : List Vl) (h : Hv) : ∀ c fs h', bltF b fz l h ≠ .ex c fs h' := by
  intro c fs h'
  unfold bltF
  repeat' split
  all_goals first | (apply chk_nx; first | exact mkL_nx | exact mkD_nx | (intros; intro z; cases z)) | exact mkL_nx _ _ _ | exact mkD_nx _ _ _ | (intro z; cases z)
theorem bltD_nx (T : Tab) (cl : Cl) (b : Blt) (fz : Bool) (l : List Vl) (h : Hv) : ∀ c fs h', bltD T cl b fz l h ≠ .ex c fs h' := by
  intro c fs h'
  unfold bltD
  split
  · split
    · cases spC T cl _ .len _ h with
      | ok v h2 =>
        simp only [noX, Res.bind]
        split
        · exact chk_nx (fun _ _ _ z => by cases z) _ _ _
        · intro z; cases z
      | ex _ _ _ => intro z; cases z
      | st => intro z; cases z
    · exact bltF_nx _ _ _ _ _ _ _
  · exact bltF_nx _ _ _ _ _ _ _
theorem slcF_nx (fz : Bool) (a : Vl) (lo hi : Option Int) (h : Hv) : ∀ c fs h', slcF fz a lo hi h ≠ .ex c fs h' := by
  intro c fs h'
  unfold slcF
  repeat' split
  all_goals first | (apply chk_nx; intros; intro z; cases z) | exact mkL_nx _ _ _ | (intro z; cases z)
theorem bmF_nx (m : BM) (fz : Bool) (o : Vl) (l : List Vl) (h : Hv) : ∀ c fs h', bmF m fz o l h ≠ .ex c fs h' := by
  intro c fs h'
  unfold bmF
  cases m with
  | append => simp only [appF]; repeat' split
              all_goals first | (apply chk_nx; intros; intro z; cases z) | (intro z; cases z)
  | insert => simp only [insF]; repeat' split
              all_goals first | (apply chk_nx; intros; intro z; cases z) | (intro z; cases z)
  | pop => simp only [popF]; repeat' split
           all_goals first | (apply chk_nx; intros; intro z; cases z) | (intro z; cases z)
  | join => simp only [joinF]; repeat' split
            all_goals first | (apply chk_nx; intros; intro z; cases z) | (intro z; cases z)
  | get => simp only [getF]; repeat' split
           all_goals (intro z; cases z)
  | extend => intro z; cases z
  | index => intro z; cases z
def bmR (m : BM) (fz : Bool) (ro : Lo → Hv → Res Vl) (r : Lo → Hv → Res (List Vl)) : Lo → Hv → Res Vl := fun s h => (ro s h).bind fun o h => if bmK m h o then (r s h).bind fun vs h => bmF m fz o vs h else .st
theorem bmR_rd {m : BM} {fz : Bool} {ro : Lo → Hv → Res Vl} {r : Lo → Hv → Res (List Vl)} {σ : L2.St} {Q : VK} {w : Wd} {h : Hv} {st : Lo} (S : Sim G w h) (L : Lcl G w st σ) (p : Post G w (bmR m fz ro r st h) Q (E σ)) :
    rdE G ro E σ w.H fun x H1 => ∃ (w1 : Wd) (h1 : Hv) (o : Vl), w1.H = H1 ∧ Sim G w1 h1 ∧ RV G w1 o x ∧ bmK m h1 o = true ∧ rdEs G r E σ H1 fun xs H2 => rdM G m fz E1 x xs H2 Q :=
  ⟨w, h, st, rfl, S, L, p.bind fun v h1 w' x e S' rv q => by
    split at q
    · rename_i hk
      exact ⟨w', h1, v, rfl, S', rv, hk, w', h1, st, rfl, S', L.ext e, q.bind fun vs h2 w2 xs e2 S2 r2 q2 => ⟨w2, h2, v, vs, rfl, S2, rv.ext e2, r2, post_any (bmF_nx _ _ _ _ _) q2⟩⟩
    · exact q.elim⟩
theorem mt_getD (hx : XOk G X) (fz : Bool) : MtR X "dict.get" (rdM G .get fz E1) := by
  intro pins s σ H x xs v us Q I rx rs ⟨w, h, o, l, e, S, ro, rl, p⟩
  subst e
  have hu : X.A.units + 1 < cLine := by have := hx.un; omega
  have key : ∀ {kv d : Vl} {y z : V}, RV G w kv y → RV G w d z → Post G w (getF o kv d h) Q E1 → ∃ a ov, x = .ref a ∧ DGet w.H a y ov ∧ Q (ov.getD z) w.H := fun {kv d y z} ry rz p => by
    unfold getF at p
    split at p
    · rename_i l k e1 e2
      obtain ⟨a, kvs, rfl, hd, rk⟩ := asD_ok S ro e1
      cases key_shape ry e2
      refine ⟨a, valV kvs k, rfl, .inl ⟨kvs, k, hd, rfl, rfl⟩, ?_⟩
      rcases look_ok rk k with ⟨h1, h2⟩ | ⟨v', x', h1, h2, r'⟩
      · rw [h1] at p; rw [h2]; exact p.ok S rz
      · rw [h1] at p; rw [h2]; exact p.ok S r'
    · exact p.elim
  unfold bmF at p
  simp only at p
  split at p
  · obtain ⟨y, rfl, ry⟩ := rl.one
    obtain ⟨a, ov, rfl, g, q⟩ := key ry .non p
    cases rx
    obtain ⟨u, rfl, ru⟩ := vals1 rs
    exact d_get1 hu I g ru fun w' s3 I3 rw' => ⟨_, w.H, I3, rw', q⟩
  · obtain ⟨y, z, rfl, ry, rz⟩ := rl.two
    obtain ⟨a, ov, rfl, g, q⟩ := key ry rz p
    cases rx
    obtain ⟨u1, u2, rfl, r1, r2⟩ := vals2 rs
    exact d_get2 hu I g r1 r2 fun w' s3 I3 rw' => ⟨_, w.H, I3, rw', q⟩
  · exact p.elim
theorem pe_bmG (hx : XOk G X) (m : BM) (fz : Bool) {o : Expr} {xs : List Expr} {es : CEs} {apos pos : Pos} {ro : Lo → Hv → Res Vl} {r : Lo → Hv → Res (List Vl)} (sh : bmShape m es = true) (hl : xs.length = es.len) (ns : ∀ x ∈ xs, noStar x = true) (hr : xs = [] → ∀ s h, r s h = .ok [] h)
    (ho : PE X o (rdE G ro E)) (nc : noCall0 o = true) (hline : (apos.endLine == pos.line) = true) (ha : PA X xs (rdEs G r E)) : PE X (.Call (.Attribute o m.name apos) xs [] pos) (rdE G (bmR m fz ro r) E) := by
  have hbase : attributeBase o m.name X.env (eval o X.env) = eval o X.env := attr_base nc
  have z30 : xs.length < 30 := by
    rw [hl]
    unfold bmShape at sh
    split at sh <;> first | (simp [CEs.len]; done) | cases sh
  have hfew := few_ok (env := X.env) (pos := pos) ns z30
  have ofBm : ∀ {T : String}, tyOfBm m = T → ∀ {w1 : Wd} {h1 : Hv} {ov : Vl} {x : V}, T = "list" ∨ T = "str" → Sim G w1 h1 → RV G w1 ov x → bmK m h1 ov = true → tyV X.K T x w1.H := fun {T} hT {w1 h1 ov x} hc S r e => by
    subst hT
    cases m with
    | append => exact bmL_ok hx S r e
    | pop => exact bmL_ok hx S r e
    | extend => exact bmL_ok hx S r e
    | insert => exact bmL_ok hx S r e
    | index => exact bmL_ok hx S r e
    | get => rcases hc with hc | hc <;> exact absurd hc (by decide)
    | join =>
      simp only [bmK] at e
      split at e
      · cases r.str'; rfl
      · cases e
  have rdB : ∀ {T : String}, tyOfBm m = T → T = "list" ∨ T = "str" → ∀ σ H Q, rdE G (bmR m fz ro r) E σ H Q → tBM X.K T (rdM G m fz (fun _ _ _ => False)) (rdE G ro E) (rdEs G r E) σ H Q := fun {T} hT hc σ H Q ⟨w, h, st, e, S, L, p⟩ => by
    subst e
    obtain ⟨w1, h1, st1, e1, S1, L1, p1⟩ := bmR_rd (E1 := fun _ _ _ => False) S L p
    exact ⟨w1, h1, st1, e1, S1, L1, PostG.mono' p1 fun x H ⟨w2, h2, ov, e2, S2, r2, k2, q2⟩ => ⟨by subst e2; exact ofBm hT hc S2 r2 k2, q2⟩⟩
  cases m with
  | append =>
    cases xs with
    | nil => cases es with | nil => cases sh | cons _ _ => cases hl
    | cons y ys => exact pe_imp (pe_bm PySem.F.plainAttrs_list PySem.F.slot_list_append PySem.F.type_list_append (mt_app (E1 := fun _ _ _ => False) hx fz) ho ha hbase hfew hline (starEach_ok (ns y List.mem_cons_self)) (star_any fun z hz => ns z (List.mem_cons_of_mem _ hz)).1) (rdB rfl (.inl rfl))
  | join =>
    cases xs with
    | nil => cases es with | nil => cases sh | cons _ _ => cases hl
    | cons y ys => exact pe_imp (pe_bm PySem.F.plainAttrs_str PySem.F.slot_str_join PySem.F.type_str_join (mt_joinS (E1 := fun _ _ _ => False) hx fz) ho ha hbase hfew hline (starEach_ok (ns y List.mem_cons_self)) (star_any fun z hz => ns z (List.mem_cons_of_mem _ hz)).1) (rdB rfl (.inr rfl))
  | pop =>
    cases xs with
    | cons y ys => cases es with | nil => cases hl | cons _ _ => cases sh
    | nil =>
      refine pe_imp (pe_bm0 PySem.F.plainAttrs_list PySem.F.slot_list_pop PySem.F.type_list_pop (mt_popL (E1 := fun _ _ _ => False) hx fz) ho hbase hline) fun σ H Q ⟨w, h, st, e, S, L, p⟩ => ?_
      subst e
      obtain ⟨w1, h1, st1, e1, S1, L1, p1⟩ := bmR_rd (E1 := fun _ _ _ => False) S L p
      refine ⟨w1, h1, st1, e1, S1, L1, PostG.mono' p1 fun x H ⟨w2, h2, ov, e2, S2, r2, k2, w3, h3, st3, e3, S3, L3, q3⟩ => ⟨by subst e2; exact ofBm rfl (.inl rfl) S2 r2 k2, ?_⟩⟩
      rw [hr rfl] at q3
      rw [← e3]
      exact q3.ok S3 .nil
  | get =>
    refine ⟨fun pins s σ H Q I ⟨w, h, st, e, S, L, p⟩ => ?_⟩
    subst e
    refine wpAny_Call_method hbase hfew hline PySem.F.plainAttrs_dict PySem.F.slot_dict_get PySem.F.type_dict_get (thn (ho.run pins s σ w.H _ I (bmR_rd (E1 := fun _ _ _ => False) S L p)) fun u s1 ⟨x, H1, I1, rx, w1, h1, ov, e1, S1, r1, k1, q1⟩ => ?_)
    subst e1
    obtain ⟨l, hd⟩ := Option.isSome_iff_exists.mp (show (asD h1 ov).isSome = true from k1)
    obtain ⟨a, kvs, rfl, hD, rk⟩ := asD_ok S1 r1 hd
    obtain rfl : u = Value.ref a := rx
    obtain ⟨t1, t2, _⟩ := isD_at I1 (.inl ⟨kvs, hD⟩)
    have a1 := ha.run pos pins s1 σ w1.H _ I1 q1
    cases xs with
    | nil => cases es with | nil => cases sh | cons _ _ => cases hl
    | cons y ys =>
      have sy := starEach_ok (es := ys) (env := X.env) (ns y List.mem_cons_self)
      have sz := (star_any (xs := ys) (env := X.env) (pos := pos) fun z hz => ns z (List.mem_cons_of_mem _ hz)).1
      rw [sy] at a1 ⊢
      refine ⟨t1, t2, Calls.callWith_builtin ?_ (Calls.evalArgs_plain (thn a1 fun us s2 ⟨vs, H2, I2, rv, q2⟩ => ?_))⟩
      · show (false || (backTo pos (starEach ys X.env)).any (·.1)) = false
        rw [sz]; rfl
      · exact mt_getD (E1 := fun _ _ _ => False) hx fz pins s2 σ H2 (.ref a) vs (.ref a) us Q I2 rfl rv q2
  | insert =>
    cases xs with
    | nil => cases es with | nil => cases sh | cons _ _ => cases hl
    | cons y ys => exact pe_imp (pe_bm PySem.F.plainAttrs_list PySem.F.slot_list_insert PySem.F.type_list_insert (mt_insL (E1 := fun _ _ _ => False) hx fz) ho ha hbase hfew hline (starEach_ok (ns y List.mem_cons_self)) (star_any fun z hz => ns z (List.mem_cons_of_mem _ hz)).1) (rdB rfl (.inl rfl))
  | extend => cases es <;> cases sh
  | index => cases es <;> cases sh
end
end Core
end

section
set_option Elab.async false
set_option linter.all false
set_option maxRecDepth 100000
set_option maxHeartbeats 4000000
set_option autoImplicit false
/-! Core13: every expression. -/
namespace Core
open PySem L2 PyProof.Rows
section
variable {G : Gs} {T : Tab} {M : Nm} {F : Fcts} {cl : Cl} {k : Nat}
theorem PostG.mono {α β : Type} {R : Wd → α → β → Prop} {w : Wd} {r : Res α} {Q Q' : β → Hp → Prop} {E : XK} (p : PostG G R w r Q E) (k : ∀ x H, Q x H → Q' x H) : PostG G R w r Q' E := by
  cases r with
  | ok v h => exact fun w' x e S r => k _ _ (p w' x e S r)
  | ex c fs h => exact p
  | st => exact p
theorem mtEs_star {N : List Str} {sc : Scope} : ∀ (es : CEs) (xs : List Expr), mtEs M N sc es xs = true → ∀ x ∈ xs, noStar x = true
  | .nil, [], _, x, hx => by cases hx
  | .nil, _ :: _, h, _, _ => by simp [mtEs] at h
  | .cons e r, [], h, _, _ => by simp [mtEs] at h
  | .cons e r, y :: ys, h, x, hx => by
    simp only [mtEs, Bool.and_eq_true] at h
    rcases List.mem_cons.mp hx with rfl | hx
    · exact h.1.1
    · exact mtEs_star r ys h.2 x hx
theorem boot_v (b : Blt) : bootBuiltins b.name = some b.v := by cases b <;> decide +kernel
theorem blt_nm (b : Blt) : b.name ∈ bltNames := by cases b <;> decide
theorem blt_ne (b : Blt) : b.name ≠ "__name__" ∧ (b.name == ("__debug__" : Str)) = false := by cases b <;> decide
theorem rd_ops {X : Cx} {E : L2.St → XK} {ra rb : Lo → Hv → Res Vl} {f : Vl → Vl → Hv → Res Vl} {σ : L2.St} {Q : VK} {w : Wd} {h : Hv} {st : Lo} (S : Sim G w h) (L : Lcl G w st σ) (p : Post G w ((ra st h).bind fun x h => (rb st h).bind fun y h => f x y h) Q (E σ)) :
    tOp (rd2 G f (E σ)) (rdE G ra E) (rdE G rb E) σ w.H Q :=
  ⟨w, h, st, rfl, S, L, p.bind fun v h1 w' x e S' r q => ⟨w', h1, st, rfl, S', L.ext e, q.bind fun v2 h2 w2 y e2 S2 r2 q2 => ⟨w2, h2, v, v2, rfl, S2, r.ext e2, r2, q2⟩⟩⟩
theorem pe_bltG {X : Cx} {E : L2.St → XK} (hx : XC G T M F cl k X E) (b : Blt) (fz : Bool) {e : Expr} {es : List Expr} {p pos : Pos} {r : Lo → Hv → Res (List Vl)} (gx : Gl X b.name) (ha : PA X (e :: es) (rdEs G r E)) (ns : ∀ x ∈ e :: es, noStar x = true) :
    PE X (.Call (.Name b.name p) (e :: es) [] pos) (rdE G (fun s h => (r s h).bind fun vs h => bltD T cl b fz vs h) E) := by
  have h1 := starEach_ok (es := es) (env := X.env) (ns e List.mem_cons_self)
  have h2 := (star_any (xs := es) (env := X.env) (pos := pos) fun y hy => ns y (List.mem_cons_of_mem _ hy)).1
  have hb := bltD_ok hx (E1 := fun _ _ _ => False) b fz
  have hv := boot_v b
  have hn := blt_ne b
  have hm := hx.stc.blt _ (blt_nm b)
  have rd : ∀ σ H Q, rdE G (fun s h => (r s h).bind fun vs h => bltD T cl b fz vs h) E σ H Q → tCB (rdA G (bltD T cl b fz) (fun _ _ _ => False)) (rdEs G r E) σ H Q := fun σ H Q ⟨w, h, st, e, S, L, p⟩ => e ▸ ⟨w, h, st, rfl, S, L, p.bind fun v h1 w' x e S' r q => ⟨w', h1, v, rfl, S', r, post_any (bltD_nx _ _ _ _ _ _) q⟩⟩
  refine pe_imp ?_ rd
  cases b <;> first
    | exact pe_callB hb gx hm hv ha hn.1 hn.2 h1 h2
    | exact pe_callTy hb gx hm hv ha hn.1 hn.2 h1 h2
theorem pe_bltG0 {X : Cx} {E : L2.St → XK} (hx : XC G T M F cl k X E) (fz : Bool) {p pos : Pos} (gx : Gl X "dict") :
    PE X (.Call (.Name "dict" p) [] [] pos) (rdE G (fun _ h => bltD T cl .dict fz [] h) E) := by
  have hb := bltD_ok hx (E1 := fun _ _ _ => False) .dict fz
  have hv := boot_v .dict
  have hn := blt_ne .dict
  have hm := hx.stc.blt _ (blt_nm .dict)
  exact rd_leaf (pe_callTy0 hb gx hm hv hn.1 hn.2) fun σ Q w h st S L p => ⟨w, h, [], rfl, S, .nil, post_any (bltD_nx _ _ _ _ _ _) p⟩
theorem pe_tyv {X : Cx} {E : L2.St → XK} (hx : XC G T M F cl k X E) {t : Ty} {z : Str} {p : Pos} (gz : Gl X z) (oz : okN z = true) (h : (match t with
      | .cls c => decide (M.clN c = some z)
      | t => decide (t.name = some z)) = true) : ∃ v u, TyV G M t v u ∧ PE X (.Name z p) (tC v) := by
  have hd := okN_ok oz
  cases t with
  | cls c =>
    simp only [decide_eq_true_eq] at h
    exact ⟨_, _, .c h, pe_glob gz (hx.stc.cls c z h).1 rfl hd.1⟩
  | int => cases (show some ("int" : Str) = some z from by simpa [Ty.name] using h); exact ⟨_, _, .b rfl, pe_bltn gz (hx.stc.blt _ (by decide)) (boot_v .int) rfl⟩
  | bool => cases (show some ("bool" : Str) = some z from by simpa [Ty.name] using h); exact ⟨_, _, .b rfl, pe_bltn gz (hx.stc.blt _ (by decide)) (by decide +kernel) rfl⟩
  | str => cases (show some ("str" : Str) = some z from by simpa [Ty.name] using h); exact ⟨_, _, .b rfl, pe_bltn gz (hx.stc.blt _ (by decide)) (boot_v .str) rfl⟩
  | list => cases (show some ("list" : Str) = some z from by simpa [Ty.name] using h); exact ⟨_, _, .b rfl, pe_bltn gz (hx.stc.blt _ (by decide)) (boot_v .list) rfl⟩
  | tuple => cases (show some ("tuple" : Str) = some z from by simpa [Ty.name] using h); exact ⟨_, _, .b rfl, pe_bltn gz (hx.stc.blt _ (by decide)) (boot_v .tuple) rfl⟩
  | dict => cases (show some ("dict" : Str) = some z from by simpa [Ty.name] using h); exact ⟨_, _, .b rfl, pe_bltn gz (hx.stc.blt _ (by decide)) (boot_v .dict) rfl⟩
theorem pe_notV {X : Cx} {a : Expr} {ta : TE} {pos : Pos} (ha : PE X a ta) : PE X (.UnaryOp .Not a pos) (fun σ H Q => ta σ H fun x H1 => ∃ c, TruV2 X.K x H1 c ∧ Q (.bl (!c)) H1) :=
  ⟨fun pins s σ H Q I q => UnaryOp_ (thn (ha.run pins s σ H _ I q) fun v s1 ⟨x, H1, I1, r1, q1⟩ => not_of (thn (tru2_ok pins s1 σ H1 x v (fun c H2 => Q (.bl (!c)) H2) I1 r1 q1) fun c s2 ⟨H2, I2, q2⟩ => ⟨.bl (!c), H2, I2, rfl, q2⟩))⟩
theorem pw_ofB {X : Cx} {op : BoolOp} {es : List Expr} {p : Pos} {t : TT} (h : PT X (.BoolOp op es p) t) : PW X (.BoolOp op es p) t := ⟨fun _ pins s σ H Q I q => h.run pins s σ H Q I q⟩
theorem rd_andT {X : Cx} {E : L2.St → XK} {ra rb : Lo → Hv → Res Vl} {σ : L2.St} {Q : VK} {w : Wd} {h : Hv} {st : Lo} (S : Sim G w h) (L : Lcl G w st σ) (p : Post G w ((ra st h).bind fun v h => match v with
      | .bl true => rb st h
      | .bl false => .ok (.bl false) h
      | v => selR true ((truV h v).map (!·)) v h (rb st h)) Q (E σ)) : rdE G ra E σ w.H fun x H1 => ∃ c, x = .bl c ∧ if c = true then rdE G rb E σ H1 Q else Q (.bl false) H1 :=
  ⟨w, h, st, rfl, S, L, p.bind fun v h1 w' x e S' r q => by
    cases v with
    | bl b => cases b with
      | true => exact ⟨true, r.bl', w', h1, st, rfl, S', L.ext e, q⟩
      | false => exact ⟨false, r.bl', q.ok S' (.bl false)⟩
    | _ => exact q.elim⟩
theorem rd_orT {X : Cx} {E : L2.St → XK} {ra rb : Lo → Hv → Res Vl} {σ : L2.St} {Q : VK} {w : Wd} {h : Hv} {st : Lo} (S : Sim G w h) (L : Lcl G w st σ) (p : Post G w ((ra st h).bind fun v h => match v with
      | .bl false => rb st h
      | .bl true => .ok (.bl true) h
      | v => selR true (truV h v) v h (rb st h)) Q (E σ)) : rdE G ra E σ w.H fun x H1 => ∃ c, x = .bl c ∧ if c = true then Q (.bl true) H1 else rdE G rb E σ H1 Q :=
  ⟨w, h, st, rfl, S, L, p.bind fun v h1 w' x e S' r q => by
    cases v with
    | bl b => cases b with
      | false => exact ⟨false, r.bl', w', h1, st, rfl, S', L.ext e, q⟩
      | true => exact ⟨true, r.bl', q.ok S' (.bl true)⟩
    | _ => exact q.elim⟩
theorem rd_and {X : Cx} (hx : XOk G X) {E : L2.St → XK} {ra rb : Lo → Hv → Res Vl} {σ : L2.St} {Q : VK} {w : Wd} {h : Hv} {st : Lo} (S : Sim G w h) (L : Lcl G w st σ) (p : Post G w ((ra st h).bind fun v h => match v with
      | .bl true => rb st h
      | .bl false => .ok (.bl false) h
      | v => selR false ((truV h v).map (!·)) v h (rb st h)) Q (E σ)) : rdE G ra E σ w.H fun x H1 => ∃ k, TruV2 X.K x H1 k ∧ if k = true then rdE G rb E σ H1 Q else Q x H1 :=
  ⟨w, h, st, rfl, S, L, p.bind fun v h1 w' x e S' r q => by
    have gen : Post G w' (selR false ((truV h1 v).map (!·)) v h1 (rb st h1)) Q (E σ) → ∃ k, TruV2 X.K x w'.H k ∧ if k = true then rdE G rb E σ w'.H Q else Q x w'.H := fun q => by
      cases ht : truV h1 v with
      | none => rw [ht] at q; exact q.elim
      | some k =>
        rw [ht] at q
        refine ⟨k, truV_ok hx S' r ht, ?_⟩
        cases k with
        | true => exact ⟨w', h1, st, rfl, S', L.ext e, q⟩
        | false => exact q.ok S' r
    cases v with
    | bl b => cases b with
      | true => exact ⟨true, truV_ok hx S' r rfl, w', h1, st, rfl, S', L.ext e, q⟩
      | false => exact ⟨false, truV_ok hx S' r rfl, q.ok S' r⟩
    | _ => exact gen q⟩
theorem rd_or {X : Cx} (hx : XOk G X) {E : L2.St → XK} {ra rb : Lo → Hv → Res Vl} {σ : L2.St} {Q : VK} {w : Wd} {h : Hv} {st : Lo} (S : Sim G w h) (L : Lcl G w st σ) (p : Post G w ((ra st h).bind fun v h => match v with
      | .bl false => rb st h
      | .bl true => .ok (.bl true) h
      | v => selR false (truV h v) v h (rb st h)) Q (E σ)) : rdE G ra E σ w.H fun x H1 => ∃ k, TruV2 X.K x H1 k ∧ if k = true then Q x H1 else rdE G rb E σ H1 Q :=
  ⟨w, h, st, rfl, S, L, p.bind fun v h1 w' x e S' r q => by
    have gen : Post G w' (selR false (truV h1 v) v h1 (rb st h1)) Q (E σ) → ∃ k, TruV2 X.K x w'.H k ∧ if k = true then Q x w'.H else rdE G rb E σ w'.H Q := fun q => by
      cases ht : truV h1 v with
      | none => rw [ht] at q; exact q.elim
      | some k =>
        rw [ht] at q
        refine ⟨k, truV_ok hx S' r ht, ?_⟩
        cases k with
        | true => exact q.ok S' r
        | false => exact ⟨w', h1, st, rfl, S', L.ext e, q⟩
    cases v with
    | bl b => cases b with
      | false => exact ⟨false, truV_ok hx S' r rfl, w', h1, st, rfl, S', L.ext e, q⟩
      | true => exact ⟨true, truV_ok hx S' r rfl, q.ok S' r⟩
    | _ => exact gen q⟩
theorem rd_ifx {X : Cx} {E : L2.St → XK} {rc ra rb : Lo → Hv → Res Vl} {σ : L2.St} {Q : VK} {w : Wd} {h : Hv} {st : Lo} (S : Sim G w h) (L : Lcl G w st σ) (p : Post G w ((rc st h).bind fun v h => match v with
      | .bl true => ra st h
      | .bl false => rb st h
      | _ => .st) Q (E σ)) : rdT G rc E σ w.H fun c H1 => if c = true then rdE G ra E σ H1 Q else rdE G rb E σ H1 Q :=
  ⟨w, h, st, rfl, S, L, p.bind fun v h1 w' x e S' r q => by
    cases v with
    | bl b => cases b with
      | false => exact ⟨false, r.bl', w', h1, st, rfl, S', L.ext e, q⟩
      | true => exact ⟨true, r.bl', w', h1, st, rfl, S', L.ext e, q⟩
    | _ => exact q.elim⟩
theorem mtEs_len {N : List Str} {sc : Scope} : ∀ (es : CEs) (xs : List Expr), mtEs M N sc es xs = true → xs.length = es.len
  | .nil, [], _ => rfl
  | .nil, _ :: _, h => by simp [mtEs] at h
  | .cons e r, [], h => by simp [mtEs] at h
  | .cons e r, y :: ys, h => by
    simp only [mtEs, Bool.and_eq_true] at h
    simp [CEs.len, mtEs_len r ys h.2]
theorem mtT_shape {N : List Str} {sc rs : Scope} {tg : CT} {y : Expr} (h : mtT N sc rs tg y = true) (ts : CTs) (e : tg = .tup ts) : ∃ es kk tp, y = .Tuple es kk tp := by
  subst e
  cases y with
  | Tuple es kk tp => exact ⟨_, _, _, rfl⟩
  | _ => simp [mtT] at h
theorem own_ids (N : List Str) (own : List Nat) : (ownN N own).map (·.2) = own := by
  simp [ownN, Function.comp_def]
theorem blk_fn {X : Cx} {scope : Scope} {x : Str} (s : Shared) (H : Hp) (fp : List Addr) (cs : List (Str × Addr)) (C : Addr) (h : isLoc scope x = true) : (X.blk s H scope (compEnvC scope cs C X.env) fp).fn x = true ∨ (X.blk s H scope (compEnvC scope cs C X.env) fp).env.scope.names.lookup x = some .local := by
  rcases isLoc_loc h with h | h
  · right
    exact lookup_relS_keep (sc := X.env.scope) (by decide) h
  · left
    show (scope.names.lookup x == some .cell) = true
    rw [h]; rfl
theorem PostW.ofG {α : Type} {w : Wd} {r : Res α} {f : α → Hv → Res Vl} {E : XK} {Q : VK} {P' : α → Wd → Hv → Prop} (p : Post G w (tw false (r.bind f)) Q E) (k : ∀ v h1 w', Ext w w' → Sim G w' h1 → Post G w' (f v h1) Q E → P' v w' h1) : PostW G w r P' E := by
  cases r with
  | ok v h => exact fun w' e S => k v h w' e S (PostG.ext (show Post G w (f v h) Q E from p) e)
  | ex c fs h => exact p
  | st => exact p
/-- a comparison's answer is a truth value -/
theorem rd_tru {E : XK} {w : Wd} {r : Res Vl} {f : Bool → Hv → Res Vl} {Q : VK} {Q' : VK} (k : ∀ b h3 w3, Ext w w3 → Sim G w3 h3 → Post G w3 (f b h3) Q E → Q' (.bl b) w3.H)
    (p : Post G w (r.bind fun v h => match v with
      | .bl true => f true h
      | .bl false => f false h
      | _ => .st) Q E) : Post G w (r.bind fun v h => tru1 h v) Q' E := by
  cases r with
  | st => exact p
  | ex c fs h => exact p
  | ok v h =>
    cases v with
    | bl b =>
      intro w' x e S r
      cases r.bl'
      cases b with
      | true => exact k true h w' e S (PostG.ext (show Post G w (f true h) Q E from p) e)
      | false => exact k false h w' e S (PostG.ext (show Post G w (f false h) Q E from p) e)
    | _ => exact p.elim
theorem noXt_nx (r : Res Vl) : ∀ c fs h', ((noX r).bind fun v h => tru1 h v) ≠ .ex c fs h' := by
  intro c fs h'
  cases r with
  | ok v h => cases v <;> (intro z; cases z)
  | ex _ _ _ => intro z; cases z
  | st => intro z; cases z
theorem lcRd {X : Cx} {E : L2.St → XK} {fz : Bool} {own : List Nat} {tg : CT} {it : CI} {c : CO} {e : CE} {σ : L2.St} {H : Hp} {Q : VK} (q3 : ctIn own tg = true) (q : rdE G (evE T cl false (.lc fz own tg it c e)) E σ H Q) :
    tLc (rdI G X (evI T cl it) E) (rdG G tg) (rdT G (evC T cl c) E0) (rdE G (evE T cl false e) E0) own σ H fun v H' => UnP X (Q v) H' := by
  obtain ⟨w, h, st, eH, S, L, p⟩ := q
  rw [evE] at p
  refine ⟨w, h, st, eH, S, L, PostW.ofG p fun kk h1 w' e1 S1 q J w2 itk D hD => ?_⟩
  obtain ⟨cz, q⟩ := q.chk
  exact lc_rd S1 itk (L.ext e1) q3 cz q D hD
mutual
theorem mtE_ok (ti : IsT G T M) : ∀ (e : CE) {X : Cx} {E : L2.St → XK} (hx : XC G T M F cl k X E) (x : Expr), mtE M X.N X.env.scope e x = true → PE X x (rdE G (evE T cl false e) E) ∧ PT X x (rdT G (evE T cl true e) E)
  | .var i, X, E, hx, x, hm => by
    simp only [mtE] at hm
    split at hm
    · rename_i y p
      simp only [Bool.and_eq_true, decide_eq_true_eq] at hm
      have hk := okN_ok hm.2
      refine both hx.toXOk (rd_leaf (pe_var hm.1.1 (isVis_vis hm.1.2) hk.1 hk.2.1) fun σ Q w h st S L p => ?_) rfl (by intro _; rfl)
      simp only [evE, tw, Bool.false_eq_true, if_false] at p
      split at p
      · rename_i v hv
        obtain ⟨x, h1, h2⟩ := L.2 i v hv
        exact ⟨x, h1, p.ok S h2⟩
      · exact p.elim
    · cases hm
  | .non, X, E, hx, x, hm => by
    simp only [mtE] at hm
    split at hm
    · exact both hx.toXOk (rd_leaf pe_non fun σ Q w h st S L p => by simp only [evE, tw, Bool.false_eq_true, if_false] at p; exact p.ok S .non) rfl (by intro _; rfl)
    · cases hm
  | .bl b, X, E, hx, x, hm => by
    simp only [mtE] at hm
    split at hm
    · rename_i c _ _
      cases (show b = c from by simpa using hm)
      exact both hx.toXOk (rd_leaf pe_bl fun σ Q w h st S L p => by simp only [evE] at p; exact p.ok S (.bl _)) rfl (by intro _; rfl)
    · cases hm
  | .int i, X, E, hx, x, hm => by
    simp only [mtE] at hm
    split at hm
    · cases (show i = _ from by simpa using hm)
      exact both hx.toXOk (rd_leaf pe_int fun σ Q w h st S L p => by simp only [evE, tw, Bool.false_eq_true, if_false] at p; exact p.ok S (.int _)) rfl (by intro _; rfl)
    · cases hm
  | .str z, X, E, hx, x, hm => by
    simp only [mtE] at hm
    split at hm
    · cases (show z = _ from by simpa using hm)
      exact both hx.toXOk (rd_leaf pe_str fun σ Q w h st S L p => by simp only [evE, tw, Bool.false_eq_true, if_false] at p; exact p.ok S (.str _)) rfl (by intro _; rfl)
    · cases hm
  | .neg a, X, E, hx, x, hm => by
    simp only [mtE] at hm
    split at hm
    · refine both hx.toXOk (rd_leaf (pe_un un_neg (mtE_ok ti a hx _ hm).1) fun σ Q w h st S L p => ?_) rfl (by intro _; rfl)
      simp only [evE, tw, Bool.false_eq_true, if_false] at p
      refine ⟨w, h, st, rfl, S, L, p.bind fun v h1 w' x e S' r q => ?_⟩
      cases v with
      | int i => exact ⟨i, r.int', q.ok S' (.int _)⟩
      | _ => exact q.elim
    · cases hm
  | .not_ a, X, E, hx, x, hm => by
    simp only [mtE] at hm
    split at hm
    · obtain ⟨h1, h2⟩ := mtE_ok ti a hx _ hm
      refine ⟨pe_imp (pe_notV h1) fun σ H Q ⟨w, h, st, e, S, L, p⟩ => ?_, pt_imp (pt_not h2) fun σ H Q ⟨w, h, st, e, S, L, p⟩ => ?_⟩
      · subst e
        simp only [evE, tw, Bool.not_false, if_true] at p
        refine ⟨w, h, st, rfl, S, L, ?_⟩
        revert p
        cases evE T cl false a st h with
        | st => exact fun p => p
        | ex c fs h2 => exact fun p => p
        | ok v h2 =>
          intro p w' x e S' r
          have p := p.ext e
          simp only [Res.bind] at p
          cases ht : truV h2 v with
          | none => rw [ht] at p; exact p.elim
          | some b =>
            rw [ht] at p
            exact ⟨b, truV_ok hx.toXOk S' r ht, p.ok S' (.bl _)⟩
      · subst e
        simp only [evE, tw, Bool.not_true, Bool.false_eq_true, if_false] at p
        refine ⟨w, h, st, rfl, S, L, p.bind fun v h1 w' x e S' r q => ?_⟩
        cases v with
        | bl b =>
          obtain ⟨c, hc, q⟩ := q.ok S' (.bl _)
          cases hc
          exact ⟨b, r.bl', q⟩
        | _ => exact q.elim
    · cases hm
  | .and_ a b, X, E, hx, x, hm => by
    simp only [mtE] at hm
    split at hm
    · rename_i xa y r p
      simp only [Bool.and_eq_true] at hm
      obtain ⟨a1, a2⟩ := mtE_ok ti a hx _ hm.1
      obtain ⟨b1, b2⟩ := mtE_ok ti b hx _ hm.2
      have b3 : PE X (.BoolOp .And (y :: r) p) (rdE G (evE T cl false b) E) ∧ PW X (.BoolOp .And (y :: r) p) (rdT G (evE T cl true b) E) := by
        cases r with
        | nil => exact ⟨pe_one b1, pw_and1 b2⟩
        | cons z r => exact ⟨b1, pw_ofB b2⟩
      refine ⟨pe_imp (pe_andT2 a1 b3.1) fun σ H Q ⟨w, h, st, e, S, L, p⟩ => ?_, pt_imp (pw_and a2 b3.2).pt fun σ H Q ⟨w, h, st, e, S, L, p⟩ => ?_⟩
      · subst e; rw [evE] at p; exact rd_and hx.toXOk S L p
      · subst e; rw [evE] at p
        obtain ⟨w1, h1, st1, e1, S1, L1, p1⟩ := rd_andT (X := X) S L p
        refine ⟨w1, h1, st1, e1, S1, L1, PostG.mono p1 fun x H1 ⟨c, hc, q⟩ => ⟨c, hc, ?_⟩⟩
        cases c with
        | true => exact q
        | false => obtain ⟨b, hb, q⟩ := q; cases hb; exact q
    · cases hm
  | .or_ a b, X, E, hx, x, hm => by
    simp only [mtE] at hm
    split at hm
    · rename_i xa y r p
      simp only [Bool.and_eq_true] at hm
      obtain ⟨a1, a2⟩ := mtE_ok ti a hx _ hm.1
      obtain ⟨b1, b2⟩ := mtE_ok ti b hx _ hm.2
      have b3 : PE X (.BoolOp .Or (y :: r) p) (rdE G (evE T cl false b) E) ∧ PW X (.BoolOp .Or (y :: r) p) (rdT G (evE T cl true b) E) := by
        cases r with
        | nil => exact ⟨pe_one b1, pw_or1 b2⟩
        | cons z r => exact ⟨b1, pw_ofB b2⟩
      refine ⟨pe_imp (pe_orT2 a1 b3.1) fun σ H Q ⟨w, h, st, e, S, L, p⟩ => ?_, pt_imp (pw_or a2 b3.2).pt fun σ H Q ⟨w, h, st, e, S, L, p⟩ => ?_⟩
      · subst e; rw [evE] at p; exact rd_or hx.toXOk S L p
      · subst e; rw [evE] at p
        obtain ⟨w1, h1, st1, e1, S1, L1, p1⟩ := rd_orT (X := X) S L p
        refine ⟨w1, h1, st1, e1, S1, L1, PostG.mono p1 fun x H1 ⟨c, hc, q⟩ => ⟨c, hc, ?_⟩⟩
        cases c with
        | false => exact q
        | true => obtain ⟨b, hb, q⟩ := q; cases hb; exact q
    · cases hm
  | .ifx c a b, X, E, hx, x, hm => by
    simp only [mtE] at hm
    split at hm
    · simp only [Bool.and_eq_true] at hm
      obtain ⟨c1, c2⟩ := mtE_ok ti c hx _ hm.1.1
      obtain ⟨a1, a2⟩ := mtE_ok ti a hx _ hm.1.2
      obtain ⟨b1, b2⟩ := mtE_ok ti b hx _ hm.2
      refine ⟨pe_imp (pe_ifExp c2 a1 b1) fun σ H Q ⟨w, h, st, e, S, L, p⟩ => ?_, pt_imp (pt_ifx c2 a2 b2) fun σ H Q ⟨w, h, st, e, S, L, p⟩ => ?_⟩
      · subst e; rw [evE] at p; exact rd_ifx (X := X) S L p
      · subst e; rw [evE] at p
        obtain ⟨w1, h1, st1, e1, S1, L1, p1⟩ := rd_ifx (X := X) S L p
        refine ⟨w1, h1, st1, e1, S1, L1, PostG.mono p1 fun x H1 ⟨c, hc, q⟩ => ⟨c, hc, ?_⟩⟩
        cases c <;> exact q
    · cases hm
  | .bin op fz a b, X, E, hx, x, hm => by
    simp only [mtE] at hm
    split at hm
    · rename_i xa o xb pos
      simp only [Bool.and_eq_true] at hm
      cases opB_eq hm.1.1
      refine both hx.toXOk (rd_leaf (pe_opS (binD_ok hx op fz) (mtE_ok ti a hx _ hm.1.2).1 (mtE_ok ti b hx _ hm.2).1) fun σ Q w h st S L p => ?_) rfl (by intro _; rfl)
      simp only [evE, tw, Bool.false_eq_true, if_false] at p
      exact rd_ops (X := X) S L p
    · cases hm
  | .cmp op a b, X, E, hx, x, hm => by
    simp only [mtE] at hm
    split at hm
    · rename_i xa o xb pos
      simp only [Bool.and_eq_true] at hm
      cases copB_eq hm.1.1.1
      have ho := cmpD_ok hx op
      have ha := (mtE_ok ti a hx _ hm.1.2).1
      have hb := (mtE_ok ti b hx _ hm.2).1
      have hs := behind_ok (op := op.op) hm.1.1.2
      refine ⟨pe_imp (pe_cmpS ho ha hb hs) fun σ H Q ⟨w, h, st, e, S, L, p⟩ => ?_, pt_imp (pt_cmpS ho ha hb hs) fun σ H Q ⟨w, h, st, e, S, L, p⟩ => ?_⟩
      · subst e; rw [evE] at p; exact rd_ops (X := X) S L p
      · subst e; rw [evE] at p; exact rd_ops (X := X) S L p
    · cases hm
  | .chain op op' a b c, X, E, hx, x, hm => by
    simp only [mtE] at hm
    split at hm
    · rename_i xa o o' xb xc pos
      simp only [Bool.and_eq_true] at hm
      obtain ⟨⟨⟨⟨⟨⟨q1, q2⟩, q3⟩, q4⟩, q5⟩, q6⟩, q7⟩ := hm
      cases copB_eq q1
      cases copB_eq q2
      have ho := cmpN_ok hx (E1 := fun _ _ _ => False) op
      have ho' := cmpN_ok hx (E1 := fun _ _ _ => False) op'
      have ha := (mtE_ok ti a hx _ q5).1
      have hb := (mtE_ok ti b hx _ q6).1
      have hc := (mtE_ok ti c hx _ q7).1
      have hs : lastMarks [op.op, op'.op] [xb, xc] = false := behind_ok (op := op'.op) q4
      have bk : ∀ {t : Bool} {σ : L2.St} {Q : VK} {w : Wd} {h : Hv} {st : Lo}, Sim G w h → Lcl G w st σ → Post G w (evE T cl t (.chain op op' a b c) st h) Q (E σ) →
          tChain (rd2 G (fun a b h => (noX (cmpD T cl op a b h)).bind fun v h => tru1 h v) (fun _ _ _ => False)) (rd2 G (fun a b h => (noX (cmpD T cl op' a b h)).bind fun v h => tru1 h v) (fun _ _ _ => False)) (rdE G (evE T cl false a) E) (rdE G (evE T cl false b) E) (rdE G (evE T cl false c) E) σ w.H Q := fun {t σ Q w h st} S L p => by
        rw [evE] at p
        refine ⟨w, h, st, rfl, S, L, p.bind fun v h1 w' x e S' r q => ⟨w', h1, st, rfl, S', L.ext e, q.bind fun v2 h2 w2 y e2 S2 r2 q2 => ⟨w2, h2, v, v2, rfl, S2, r.ext e2, r2, ?_⟩⟩⟩
        refine post_any (noXt_nx _) (rd_tru (f := fun bb h => match bb with | true => (evE T cl false c st h).bind fun z h => (noX (cmpD T cl op' v2 z h)).bind fun v h => tru1 h v | false => .ok (.bl false) h) (fun bb h3 w3 e3 S3 q3 => ⟨bb, rfl, ?_⟩) q2)
        cases bb with
        | true => exact ⟨w3, h3, st, rfl, S3, (L.ext e).ext (e2.trans e3), q3.bind fun v4 h4 w4 z e4 S4 r4 q4 => ⟨w4, h4, v2, v4, rfl, S4, r2.ext (e3.trans e4), r4, post_any (noXt_nx _) q4⟩⟩
        | false => exact q3.ok S3 (.bl false)
      exact ⟨pe_imp (pe_chain ho ho' ha hb hc hs) fun σ H Q ⟨w, h, st, e, S, L, p⟩ => e ▸ bk S L p, pt_imp (pt_chain ho ho' ha hb hc hs) fun σ H Q ⟨w, h, st, e, S, L, p⟩ => e ▸ bk S L p⟩
    · cases hm
  | .tup es, X, E, hx, x, hm => by
    simp only [mtE] at hm
    split at hm
    · refine both hx.toXOk (rd_leaf (pe_tup (mtEs_ok ti es hx _ hm)) fun σ Q w h st S L p => ?_) rfl (by intro _; rfl)
      simp only [evE, tw, Bool.false_eq_true, if_false] at p
      refine ⟨w, h, st, rfl, S, L, p.bind fun v h1 w' x e S' r q => ?_⟩
      obtain ⟨c, q⟩ := q.chk
      exact ⟨by rw [← lim_eq, ← r.length]; exact c, fun p hp => mkT_ok q S' r hp⟩
    · cases hm
  | .lst fz es, X, E, hx, x, hm => by
    simp only [mtE] at hm
    split at hm
    · refine both hx.toXOk (rd_leaf (pe_lst (mtEs_ok ti es hx _ hm)) fun σ Q w h st S L p => ?_) rfl (by intro _; rfl)
      simp only [evE, tw, Bool.false_eq_true, if_false] at p
      refine ⟨w, h, st, rfl, S, L, p.bind fun v h1 w' x e S' r q => ?_⟩
      obtain ⟨c, q⟩ := q.chk
      exact ⟨by rw [← lim_eq, ← r.length]; exact c, fun p hp => mkL_ok q S' r hp⟩
    · cases hm
  | .dct fz ps, X, E, hx, x, hm => by
    simp only [mtE] at hm
    split at hm
    · rename_i ks vs pos
      simp only [Bool.and_eq_true, decide_eq_true_eq] at hm
      obtain ⟨k15, hm⟩ := hm
      obtain ⟨trs, t1, t2, t3, t4⟩ := mtPs_ok ti ps hx pos ks vs hm
      cases ks with
      | nil =>
        cases ps with
        | nil =>
          cases vs with
          | nil =>
            refine both hx.toXOk (rd_leaf pe_dnewK fun σ Q w h st S L p => ?_) rfl (by intro _; rfl)
            simp only [evE, evPs, tw, Bool.false_eq_true, if_false, Res.bind] at p
            obtain ⟨c, q⟩ := p.chk
            exact fun p hp => mkD_ok q S .nil hp
          | cons _ _ => simp at t3
        | cons _ _ _ => simp [mtPs] at hm
      | cons k0 kr =>
        refine both hx.toXOk (rd_leaf (pe_disp t1 t2 t3 (fun z => nomatch z) k15) fun σ Q w h st S L p => ?_) rfl (by intro _; rfl)
        intro D hD
        rw [evE] at p
        simp only [tw, Bool.false_eq_true, if_false] at p
        have nD : D ∉ w.Z := fun z => by obtain ⟨_, o, e⟩ := S.zs D z; rw [hD] at e; cases e
        obtain ⟨S1, x1⟩ := S.hide (o := .dK []) hD
        refine t4 σ _ h st _ S1 (L.ext x1) ?_
        cases hr : evPs T cl ps st h with
        | st => rw [hr] at p; exact p.elim
        | ex c fs h2 =>
          rw [hr] at p
          exact fun w' cls od e' S' r' => p w' cls od (x1.trans e') S' r'
        | ok l h' =>
        rw [hr] at p
        intro w' e' S' kvs rk
        obtain ⟨c, q⟩ := (show Post G w (chk (l.length ≤ 15) (mkD fz (mergeD [] l) h')) Q (E σ) from p).chk
        have hm2 := (e'.hid D List.mem_cons_self).1
        have hD2 : w'.H D = some (.dK []) := (e'.hid D List.mem_cons_self).2.trans upd_same
        refine ⟨hD2, kvs, rfl, by rw [← rk.length]; exact c, ?_⟩
        obtain ⟨S9, x9⟩ := S'.hset (o := .dK (mergeK [] kvs)) hm2
        have ex := (ExtX.of e').trans (.hset x9 hD2 (fun _ _ z => nomatch z))
        exact fin_D (ex.ext x1 nD) nD S9 hm2 upd_same ((merge_ok .nil rk).ext0 x9) q
    · cases hm
  | .attr a f, X, E, hx, x, hm => by
    simp only [mtE] at hm
    split at hm
    · rename_i xa n pos
      simp only [Bool.and_eq_true, decide_eq_true_eq] at hm
      refine both hx.toXOk (rd_leaf (pe_fld (mtE_ok ti a hx _ hm.2).1 (attr_base hm.1.2)) fun σ Q w h st S L p => ?_) rfl (by intro _; rfl)
      simp only [evE, tw, Bool.false_eq_true, if_false] at p
      refine ⟨w, h, st, rfl, S, L, p.bind fun v h1 w' x e S' r q => ?_⟩
      split at q
      · rename_i c fs hc
        split at q
        · rename_i hf
          obtain ⟨u, hu, q⟩ := q.ofO
          obtain ⟨p, dx, fs', rfl, hp, rf⟩ := asO_ok S' r hc
          obtain ⟨n', hn', hcl, hna⟩ := hx.stc.fld c f hf
          rw [hm.1.1] at hn'; cases hn'
          obtain ⟨y, hy, ry⟩ := rf.look (by rw [hx.stc.fN]; exact hx.stc.fnd) (by rw [hx.stc.fN]; exact hm.1.1) hu
          exact ⟨p, _, dx, fs', y, rfl, hp, hx.K ▸ hcl, hx.K ▸ hna, hy, q.ok S' ry⟩
        · exact q.elim
      · exact q.elim
    · cases hm
  | .sub a b, X, E, hx, x, hm => by
    simp only [mtE] at hm
    split at hm
    · rename_i xa xb pos
      simp only [Bool.and_eq_true] at hm
      refine both hx.toXOk (rd_leaf (t := fun σ H Q => tOp (rd2 G (subD T cl) (E σ)) (rdE G (evE T cl false a) E) (rdE G (evE T cl false b) E) σ H Q) ⟨fun pins s σ H Q I q => Subscript_ (L2.bin (R := fun x y H2 => rd2 G (subD T cl) (E σ) x y H2 Q) (mtE_ok ti a hx _ hm.1.2).1 (mtE_ok ti b hx _ hm.2).1 I q fun v u s2 x y H2 I2 rx ry ⟨w, h, a, b, e, S, ra, rb, p⟩ => ?_)⟩ fun σ Q w h st S L p => ?_) rfl (by intro _; rfl)
      · subst e
        exact subD_ok hx (fun a i => ownIx hm.1.1 a i) I2 S rx ry ra rb p (plainIx hm.1.1)
      · simp only [evE, tw, Bool.false_eq_true, if_false] at p
        exact rd_ops (X := X) S L p
    · cases hm
  | .slc fz a lo hi, X, E, hx, x, hm => by
    simp only [mtE] at hm
    split at hm
    · simp only [Bool.and_eq_true] at hm
      refine both hx.toXOk (rd_leaf (pe_slice (slc_ok hx.toXOk fz (E := fun _ _ _ => False)) (mtE_ok ti a hx _ hm.1.1).1 (mtO_ok ti lo hx _ hm.1.2) (mtO_ok ti hi hx _ hm.2)) fun σ Q w h st S L p => ?_) rfl (by intro _; rfl)
      simp only [evE, tw, Bool.false_eq_true, if_false] at p
      refine ⟨w, h, st, rfl, S, L, p.bind fun v h1 w' x e S' r q => ⟨w', h1, st, rfl, S', L.ext e, q.bind fun l h2 w2 y e2 S2 r2 q2 => ⟨w2, h2, st, rfl, S2, (L.ext e).ext e2, q2.bind fun u h3 w3 z e3 S3 r3 q3 => ?_⟩⟩⟩
      cases r2; cases r3
      exact ⟨w3, h3, v, rfl, S3, r.ext (e2.trans e3), post_any (slcF_nx _ _ _ _ _) q3⟩
    · cases hm
  | .call f es, X, E, hx, x, hm => by
    simp only [mtE] at hm
    split at hm
    · rename_i y p xs pos
      simp only [Bool.and_eq_true, decide_eq_true_eq] at hm
      obtain ⟨m1, m2⟩ := hx.stc.fn f y hm.1.1.1
      have gy := isGl_gl hm.1.1.2
      have dy := (okN_ok hm.1.2).1
      have ns := mtEs_star es xs hm.2
      have he := mtEs_ok ti es hx xs hm.2
      have kx : PySem.W.keepIn X.K (.ref (F.fA f)) = true := hx.K ▸ m2
      cases xs with
      | nil =>
        cases es with
        | cons _ _ => have := hm.2; simp [mtEs] at this
        | nil =>
          refine both hx.toXOk (pe_imp (pe_callG0 (callG_fn hx f) gy m1 kx dy) fun σ H Q ⟨w, h, st, e, S, L, p⟩ => ⟨w, h, st, e, S, L, ?_⟩) rfl (by intro _; rfl)
          simpa only [evE, evEs, tw, Bool.false_eq_true, if_false, Res.bind] using p
      | cons z zs =>
        refine both hx.toXOk (pe_imp (pe_callG (callG_fn hx f) gy m1 kx dy he (starEach_ok (ns z List.mem_cons_self)) (star_any fun y hy => ns y (List.mem_cons_of_mem _ hy)).1) fun σ H Q ⟨w, h, st, e, S, L, p⟩ => ⟨w, h, st, e, S, L, ?_⟩) rfl (by intro _; rfl)
        simpa only [evE, tw, Bool.false_eq_true, if_false] using p
    · cases hm
  | .mk c es, X, E, hx, x, hm => by
    simp only [mtE] at hm
    split at hm
    · rename_i y p xs pos
      simp only [Bool.and_eq_true, decide_eq_true_eq] at hm
      obtain ⟨m1, m2⟩ := hx.stc.cls c y hm.1.1.1
      have gy := isGl_gl hm.1.1.2
      have dy := (okN_ok hm.1.2).1
      have ns := mtEs_star es xs hm.2
      have he := mtEs_ok ti es hx xs hm.2
      have kx : PySem.W.keepIn X.K (.ref (G.cA c)) = true := hx.K ▸ m2
      cases xs with
      | nil =>
        cases es with
        | cons _ _ => have := hm.2; simp [mtEs] at this
        | nil =>
          refine both hx.toXOk (pe_imp (pe_callG0 (callG_mk hx c) gy m1 kx dy) fun σ H Q ⟨w, h, st, e, S, L, p⟩ => ⟨w, h, st, e, S, L, ?_⟩) rfl (by intro _; rfl)
          simpa only [evE, evEs, tw, Bool.false_eq_true, if_false, Res.bind] using p
      | cons z zs =>
        refine both hx.toXOk (pe_imp (pe_callG (callG_mk hx c) gy m1 kx dy he (starEach_ok (ns z List.mem_cons_self)) (star_any fun y hy => ns y (List.mem_cons_of_mem _ hy)).1) fun σ H Q ⟨w, h, st, e, S, L, p⟩ => ⟨w, h, st, e, S, L, ?_⟩) rfl (by intro _; rfl)
        simpa only [evE, tw, Bool.false_eq_true, if_false] using p
    · cases hm
  | .meth a m es, X, E, hx, x, hm => by
    simp only [mtE] at hm
    split at hm
    · rename_i xa n ap xs pos
      simp only [Bool.and_eq_true, decide_eq_true_eq] at hm
      obtain ⟨⟨⟨⟨⟨q1, q2⟩, q3⟩, q4⟩, q5⟩, q6⟩ := hm
      have ns := mtEs_star es xs q6
      have he := mtEs_ok ti es hx xs q6
      have ho := (mtE_ok ti a hx _ q5).1
      cases xs with
      | nil =>
        cases es with
        | cons _ _ => have := q6; simp [mtEs] at this
        | nil =>
          refine both hx.toXOk (pe_imp (pe_methG0 hx q1 ho q2 q3) fun σ H Q ⟨w, h, st, e, S, L, p⟩ => ⟨w, h, st, e, S, L, ?_⟩) rfl (by intro _; rfl)
          rw [evE] at p
          exact p
      | cons z zs =>
        refine both hx.toXOk (pe_imp (pe_methG hx q1 ho q2 q3 q4 ns he) fun σ H Q ⟨w, h, st, e, S, L, p⟩ => ⟨w, h, st, e, S, L, ?_⟩) rfl (by intro _; rfl)
        rw [evE] at p
        exact p
    · cases hm
  | .ocall a es, X, E, hx, x, hm => by
    simp only [mtE] at hm
    split at hm
    · rename_i y p z zs pos
      simp only [Bool.and_eq_true] at hm
      refine both hx.toXOk (pe_imp (pe_ocall hx (mtE_ok ti a hx _ hm.1).1 (mtEs_star es (z :: zs) hm.2) (mtEs_ok ti es hx (z :: zs) hm.2)) fun σ H Q ⟨w, h, st, e, S, L, p⟩ => ⟨w, h, st, e, S, L, ?_⟩) rfl (by intro _; rfl)
      rw [evE] at p
      simp only [tw, Bool.false_eq_true, if_false] at p
      exact p
    · cases hm
  | .blt b fz es, X, E, hx, x, hm => by
    simp only [mtE] at hm
    split at hm
    · rename_i y p xs pos
      simp only [Bool.and_eq_true, seqS, decide_eq_true_eq] at hm
      obtain ⟨⟨⟨q1, q2⟩, q3⟩, q4⟩ := hm
      subst q1
      have ns := mtEs_star es xs q4
      have he := mtEs_ok ti es hx xs q4
      have gy := isGl_gl q2
      cases xs with
      | nil =>
        cases es with
        | cons _ _ => simp [mtEs] at q4
        | nil =>
          have : b = .dict := by simpa [bltShape] using q3
          subst this
          refine both hx.toXOk (pe_imp (pe_bltG0 hx fz gy) fun σ H Q ⟨w, h, st, e, S, L, p⟩ => ⟨w, h, st, e, S, L, ?_⟩) rfl (by intro _; rfl)
          simpa only [evE, evEs, tw, Bool.false_eq_true, if_false, Res.bind] using p
      | cons z zs =>
        refine both hx.toXOk (pe_imp (pe_bltG hx b fz gy he ns) fun σ H Q ⟨w, h, st, e, S, L, p⟩ => ⟨w, h, st, e, S, L, ?_⟩) rfl (by intro _; rfl)
        simpa only [evE, tw, Bool.false_eq_true, if_false] using p
    · cases hm
  | .bm m fz a es, X, E, hx, x, hm => by
    simp only [mtE] at hm
    split at hm
    · rename_i xa n ap xs pos
      simp only [Bool.and_eq_true, seqS, decide_eq_true_eq] at hm
      obtain ⟨⟨⟨⟨⟨q1, q2⟩, q3⟩, q4⟩, q5⟩, q6⟩ := hm
      subst q1
      have ns := mtEs_star es xs q6
      have he := mtEs_ok ti es hx xs q6
      have ho := (mtE_ok ti a hx _ q5).1
      refine both hx.toXOk (pe_imp (pe_bmG hx.toXOk m fz q2 (mtEs_len es xs q6) ns (fun e s h => ?_) ho q3 q4 he) fun σ H Q ⟨w, h, st, e, S, L, p⟩ => ⟨w, h, st, e, S, L, ?_⟩) rfl (by intro _; rfl)
      · subst e
        cases es with
        | nil => rfl
        | cons _ _ => simp [mtEs] at q6
      · rw [evE] at p
        exact p
    · cases hm
  | .isin a t, X, E, hx, x, hm => by
    simp only [mtE] at hm
    split at hm
    · rename_i y p xa z pz pos
      simp only [Bool.and_eq_true] at hm
      obtain ⟨⟨⟨⟨⟨⟨q1, q2⟩, q3⟩, q4⟩, q5⟩, q6⟩, q7⟩ := hm
      simp only [seqS, decide_eq_true_eq] at q1
      subst q1
      obtain ⟨v, u, tv, hz⟩ := pe_tyv hx (isGl_gl q4) q5 q6
      have s1 := starEach_ok (es := [.Name z pz]) (env := X.env) q3
      refine both hx.toXOk (rd_leaf (pe_callB call_isi (isGl_gl q2) (hx.stc.blt _ (by decide)) (by decide +kernel) (pa_cons (mtE_ok ti a hx _ q7).1 (pa_cons hz pa_nil) s1) (by decide) (by decide) s1 rfl) fun σ Q w h st S L p => ?_) rfl (by intro _; rfl)
      rw [evE] at p
      refine ⟨w, h, st, rfl, S, L, p.bind fun vv h1 w' x e S' r q => ?_⟩
      obtain ⟨b, hb, q⟩ := q.ofO
      obtain ⟨c, hc, rfl⟩ := Option.map_eq_some_iff.mp hb
      obtain ⟨tx, k1, k2⟩ := tyF_ok hx.toXOk ti S' r tv hc
      exact ⟨x, v, tx, u, c, rfl, tv.clsV, k1, k2, q.ok S' (.bl c)⟩
    · cases hm
  | .lc fz own tg it c e, X, E, hx, x, hm => by
    simp only [mtE] at hm
    split at hm
    · rename_i el tx ix fs scope pos
      simp only [Bool.and_eq_true] at hm
      obtain ⟨⟨⟨⟨⟨⟨⟨q1, q2⟩, q3⟩, q4⟩, q5⟩, q6⟩, q7⟩, q8⟩ := hm
      have hi := mtI_ok ti it hx tg tx ix (mtT_shape q4) q6
      refine both hx.toXOk (pe_imp (pe_unl (pe_lc hx.calm hx.nd hi (blkOk_by q1)
        (fun s H C cs fp => mtT_ok (hx.blk s H scope C cs fp).toXOk hx.nd (fun x h => blk_fn (X := X) s H fp cs C h) tg tx q4)
        (fun s H C cs fp => mtC_ok ti c (hx.blk s H scope C cs fp) fs q7)
        (fun s H C cs fp => (mtE_ok ti e (hx.blk s H scope C cs fp) el q8).1) (folded_ok q5))) fun σ H Q q => (own_ids X.N own).symm ▸ lcRd q3 q) rfl (by intro _; rfl)
    · cases hm
  | .dc fz own tg it c ke e, X, E, hx, x, hm => by
    simp only [mtE] at hm
    split at hm
    · rename_i kl el tx ix fs scope pos
      simp only [Bool.and_eq_true] at hm
      obtain ⟨⟨⟨⟨⟨⟨⟨⟨q1, q2⟩, q3⟩, q4⟩, q5⟩, q6⟩, q7⟩, q8⟩, q9⟩ := hm
      have hi := mtI_ok ti it hx tg tx ix (mtT_shape q4) q6
      refine both hx.toXOk (pe_imp (pe_unl (pe_dc hx.calm hx.nd hi (blkOk_by q1)
        (fun s H C cs fp => mtT_ok (hx.blk s H scope C cs fp).toXOk hx.nd (fun x h => blk_fn (X := X) s H fp cs C h) tg tx q4)
        (fun s H C cs fp => mtC_ok ti c (hx.blk s H scope C cs fp) fs q7)
        (fun s H C cs fp => (mtE_ok ti ke (hx.blk s H scope C cs fp) kl q8).1)
        (fun s H C cs fp => (mtE_ok ti e (hx.blk s H scope C cs fp) el q9).1) (folded_ok q5))) fun σ H Q ⟨w, h, st, eH, S, L, p⟩ => ?_) rfl (by intro _; rfl)
      rw [evE] at p
      rw [own_ids]
      refine ⟨w, h, st, eH, S, L, PostW.ofG p fun kk h1 w' e1 S1 q J w2 itk D hD => ?_⟩
      obtain ⟨cz, q⟩ := q.chk
      exact dc_rd S1 itk (L.ext e1) q3 cz q D hD
    · cases hm
  | .frz a, X, E, hx, x, hm => by
    have gen : PE X x (rdE G (evE T cl false a) E) → PE X x (rdE G (evE T cl false (.frz a)) E) := fun q => pe_imp q fun σ H Q ⟨w, h, st, eH, S, L, p⟩ => by
      subst eH
      rw [evE] at p
      refine ⟨w, h, st, rfl, S, L, ?_⟩
      have p : Post G w (match evE T cl false a st h with
        | .ok v h1 => match fzF 60 v h1 with
          | some (v', h2) => cutR h (.ok v' h2)
          | none => .st
        | .ex c fs h1 => .ex c fs h1
        | .st => .st) Q (E σ) := p
      cases hr : evE T cl false a st h with
      | ok v h1 => rw [hr] at p; exact post_frz S p
      | ex c fs h1 => rw [hr] at p; exact p
      | st => rw [hr] at p; exact p
    simp only [mtE] at hm
    split at hm
    · exact both hx.toXOk (gen (mtE_ok ti a hx _ hm).1) rfl (by intro _; rfl)
    · exact both hx.toXOk (gen (mtE_ok ti a hx _ hm).1) rfl (by intro _; rfl)
    · cases hm
theorem mtEs_ok (ti : IsT G T M) : ∀ (es : CEs) {X : Cx} {E : L2.St → XK} (hx : XC G T M F cl k X E) (xs : List Expr), mtEs M X.N X.env.scope es xs = true → PA X xs (rdEs G (evEs T cl es) E)
  | .nil, X, E, hx, xs, hm => by
    cases xs with
    | nil => exact pa_imp pa_nil fun σ H Q ⟨w, h, st, e, S, L, p⟩ => by subst e; rw [evEs] at p; exact p.ok S .nil
    | cons _ _ => simp [mtEs] at hm
  | .cons e r, X, E, hx, xs, hm => by
    cases xs with
    | nil => simp [mtEs] at hm
    | cons y ys =>
      simp only [mtEs, Bool.and_eq_true] at hm
      refine pa_imp (pa_cons (mtE_ok ti e hx _ hm.1.2).1 (mtEs_ok ti r hx _ hm.2) (starEach_ok hm.1.1)) fun σ H Q ⟨w, h, st, eH, S, L, p⟩ => ?_
      subst eH
      rw [evEs] at p
      exact ⟨w, h, st, rfl, S, L, p.bind fun v h1 w' x e S' r q => ⟨w', h1, st, rfl, S', L.ext e, q.bind fun vs h2 w2 xs e2 S2 r2 q2 => q2.ok S2 (.cons (r.ext e2) r2)⟩⟩
theorem mtPs_ok (ti : IsT G T M) : ∀ (ps : CPs) {X : Cx} {E : L2.St → XK} (hx : XC G T M F cl k X E) (pos : Pos) (ks : List (Option Expr)) (vs : List Expr), mtPs M X.N X.env.scope ps ks vs = true →
    ∃ trs, PPs X pos ks vs trs ∧ ks.all (·.isSome) = true ∧ ks.length = vs.length ∧ ∀ (σ : L2.St) (w : Wd) (h : Hv) (st : Lo) (Q : List (V × V) → Hp → Prop), Sim G w h → Lcl G w st σ →
      PostW G w (evPs T cl ps st h) (fun l w' _ => ∀ kvs, RKs G w' l kvs → Q (kvs.map fun kv => (kV kv.1, kv.2)) w'.H) (E σ) → tPairs trs σ w.H Q
  | .nil, X, E, hx, pos, ks, vs, hm => by
    cases ks with
    | cons _ _ => cases vs <;> simp [mtPs] at hm
    | nil =>
      cases vs with
      | cons _ _ => simp [mtPs] at hm
      | nil =>
        refine ⟨[], pps_nil, rfl, rfl, fun σ w h st Q S L p => ?_⟩
        rw [evPs] at p
        exact p w (.refl w) S [] .nil
  | .cons a e r, X, E, hx, pos, ks, vs, hm => by
    cases ks with
    | nil => cases vs <;> simp [mtPs] at hm
    | cons k0 ks =>
      cases k0 with
      | none => cases vs <;> simp [mtPs] at hm
      | some x0 =>
        cases vs with
        | nil => simp [mtPs] at hm
        | cons y0 vs =>
          simp only [mtPs, Bool.and_eq_true] at hm
          obtain ⟨⟨m1, m2⟩, m3⟩ := hm
          obtain ⟨trs, t1, t2, t3, t4⟩ := mtPs_ok ti r hx pos ks vs m3
          refine ⟨(rdE G (evE T cl false a) E, rdE G (evE T cl false e) E) :: trs, pps_cons (mtE_ok ti a hx _ m1).1 (mtE_ok ti e hx _ m2).1 t1, by simpa using t2, by simp [t3], fun σ w h st Q S L p => ?_⟩
          rw [evPs] at p
          refine ⟨w, h, st, rfl, S, L, PostW.bind p fun v h1 w1 x1 e1 S1 r1 q => ?_⟩
          refine ⟨w1, h1, st, rfl, S1, L.ext e1, PostW.bind q fun u h2 w2 x2 e2 S2 r2 q2 => ?_⟩
          split at q2
          · rename_i kk hk
            have hx1 := keyOf_ok (r1.ext e2) hk
            subst hx1
            refine t4 σ w2 h2 st _ S2 ((L.ext e1).ext e2) (PostW.bindW q2 fun l h3 w3 e3 S3 q3 kvs rk => ?_)
            exact q3 w3 (.refl w3) S3 ((kk, x2) :: kvs) (.cons (r2.ext e3) rk)
          · exact q2.elim
theorem mtO_ok (ti : IsT G T M) : ∀ (o : CO) {X : Cx} {E : L2.St → XK} (hx : XC G T M F cl k X E) (x : Option Expr), mtO M X.N X.env.scope o x = true → PO X x (rdO G (evO T cl o) E)
  | .no, X, E, hx, x, hm => by
    cases x with
    | none => exact po_imp po_none fun σ H Q ⟨w, h, st, e, S, L, p⟩ => by subst e; rw [evO] at p; exact p.ok S rfl
    | some _ => simp [mtO] at hm
  | .so e, X, E, hx, x, hm => by
    cases x with
    | none => simp [mtO] at hm
    | some y =>
      simp only [mtO] at hm
      refine po_imp (po_some (mtE_ok ti e hx _ hm).1) fun σ H Q ⟨w, h, st, eH, S, L, p⟩ => ?_
      subst eH
      rw [evO] at p
      refine ⟨w, h, st, rfl, S, L, p.bind fun v h1 w' x e S' r q => ?_⟩
      cases v with
      | int i => exact ⟨i, r.int', q.ok S' rfl⟩
      | _ => exact q.elim
theorem mtC_ok (ti : IsT G T M) : ∀ (o : CO) {X : Cx} {E : L2.St → XK} (hx : XC G T M F cl k X E) (xs : List Expr), mtC M X.N X.env.scope o xs = true → PTs X xs (rdT G (evC T cl o) E)
  | .no, X, E, hx, xs, hm => by
    cases xs with
    | nil =>
      refine ⟨fun pins s σ H Q I ⟨w, h, st, e, S, L, p⟩ => pts_nil.run pins s σ H Q I ?_⟩
      subst e
      rw [evC] at p
      obtain ⟨b, hb, q⟩ := p.ok S (.bl true)
      cases hb
      exact q
    | cons _ _ => simp [mtC] at hm
  | .so e, X, E, hx, xs, hm => by
    simp only [mtC] at hm
    split at hm
    · refine ⟨fun pins s σ H Q I ⟨w, h, st, e, S, L, p⟩ => (pts_one (mtE_ok ti _ hx _ hm).2).run pins s σ H Q I ⟨w, h, st, e, S, L, ?_⟩⟩
      rw [evC] at p
      exact p
    · cases hm
theorem mtI_ok (ti : IsT G T M) : ∀ (i : CI) {X : Cx} {E : L2.St → XK} (hx : XC G T M F cl k X E) (tg : CT) (y x : Expr), (∀ ts, tg = .tup ts → ∃ es kk tp, y = .Tuple es kk tp) → mtI M X.N X.env.scope tg i x = true → PI X y x (rdI G X (evI T cl i) E)
  | .val a, X, E, hx, tg, y, x, ht, hm => by
    simp only [mtI] at hm
    refine pi_imp (pi_val hx.toXOk (mtE_ok ti a hx _ hm).1) fun σ H R ⟨w, h, st, e, S, L, p⟩ => ⟨w, h, st, e, S, L, ?_⟩
    rw [evI] at p
    exact p
  | .rng1 a, X, E, hx, tg, y, x, ht, hm => by
    simp only [mtI] at hm
    split at hm
    · simp only [Bool.and_eq_true, seqS, decide_eq_true_eq] at hm
      obtain ⟨⟨⟨rfl, q2⟩, q3⟩, q4⟩ := hm
      refine pi_imp (pi_rng1 hx.toXOk (isGl_gl q2) (hx.stc.blt _ (by decide)) (mtE_ok ti a hx _ q4).1 q3) fun σ H R ⟨w, h, st, e, S, L, p⟩ => ⟨w, h, st, e, S, L, ?_⟩
      rw [evI] at p
      exact p
    · cases hm
  | .rng2 a b, X, E, hx, tg, y, x, ht, hm => by
    simp only [mtI] at hm
    split at hm
    · simp only [Bool.and_eq_true, seqS, decide_eq_true_eq] at hm
      obtain ⟨⟨⟨⟨⟨rfl, q2⟩, q3⟩, q4⟩, q5⟩, q6⟩ := hm
      refine pi_imp (pi_rng2 hx.toXOk (isGl_gl q2) (hx.stc.blt _ (by decide)) (mtE_ok ti a hx _ q5).1 (mtE_ok ti b hx _ q6).1 q3 q4) fun σ H R ⟨w, h, st, e, S, L, p⟩ => ⟨w, h, st, e, S, L, ?_⟩
      rw [evI] at p
      exact p
    · cases hm
  | .rng3 _ _ _, X, E, hx, tg, y, x, ht, hm => by simp [mtI] at hm
  | .rev a, X, E, hx, tg, y, x, ht, hm => by
    simp only [mtI] at hm
    split at hm
    · simp only [Bool.and_eq_true, seqS, decide_eq_true_eq] at hm
      obtain ⟨⟨⟨rfl, q2⟩, q3⟩, q4⟩ := hm
      refine pi_imp (pi_rev hx.toXOk (isGl_gl q2) (hx.stc.blt _ (by decide)) (mtE_ok ti a hx _ q4).1 q3) fun σ H R ⟨w, h, st, e, S, L, p⟩ => ⟨w, h, st, e, S, L, ?_⟩
      rw [evI] at p
      exact p
    · cases hm
  | .items a, X, E, hx, tg, y, x, ht, hm => by
    simp only [mtI] at hm
    split at hm
    · simp only [Bool.and_eq_true, seqS, decide_eq_true_eq] at hm
      obtain ⟨⟨⟨⟨rfl, q2⟩, q3⟩, q4⟩, q5⟩ := hm
      cases tg with
      | var _ => cases q4
      | tup ts =>
        obtain ⟨es, kk, tp, rfl⟩ := ht ts rfl
        refine pi_imp (pi_itm hx.toXOk (mtE_ok ti a hx _ q5).1 (attr_base q2) q3) fun σ H R ⟨w, h, st, e, S, L, p⟩ => ⟨w, h, st, e, S, L, ?_⟩
        rw [evI] at p
        exact p
    · cases hm
  | .enum a, X, E, hx, tg, y, x, ht, hm => by
    simp only [mtI] at hm
    split at hm
    · simp only [Bool.and_eq_true, seqS, decide_eq_true_eq] at hm
      obtain ⟨⟨⟨⟨rfl, q2⟩, q3⟩, q4⟩, q5⟩ := hm
      cases tg with
      | var _ => cases q4
      | tup ts =>
        obtain ⟨es, kk, tp, rfl⟩ := ht ts rfl
        refine pi_imp (pi_enm hx.toXOk (isGl_gl q2) (hx.stc.blt _ (by decide)) (mtE_ok ti a hx _ q5).1 q3) fun σ H R ⟨w, h, st, e, S, L, p⟩ => ⟨w, h, st, e, S, L, ?_⟩
        rw [evI] at p
        exact p
    · cases hm
end
end
end Core
end

section
set_option Elab.async false
set_option linter.all false
set_option maxRecDepth 100000
set_option maxHeartbeats 4000000
set_option autoImplicit false
/-! Core13x: except suites. -/
namespace Core
open PySem L2 PyProof.Rows
section
variable {G : Gs} {T : Tab} {M : Nm} {F : Fcts}
def Em : XK := fun _ _ _ => False
theorem ExOk.ext {w w' : Wd} (e : Ext w w') {c : Nat} {fs : List (Nat × Vl)} {cls : Value} {d : Option Addr} (h : ExOk G w c fs cls d) : ExOk G w' c fs cls d :=
  ⟨h.1, h.2.imp id fun ⟨dd, fs', e1, e2, e3, e4⟩ => ⟨dd, fs', e1, (keep_plain e.toExt0 e2 e4 fun k z => z.elim (fun z => nomatch z) fun ⟨_, z⟩ => nomatch z).1, e3.ext e, (keep_plain e.toExt0 e2 e4 fun k z => z.elim (fun z => nomatch z) fun ⟨_, z⟩ => nomatch z).2⟩⟩
/-- what a suite's expression is worth: a is held in slot iv -/
def rdX (G : Gs) (r : Lo → Hv → Res Vl) (iv : Option Nat) (a : Addr) (c : Nat) (fs : List (Nat × Vl)) (cls : Value) (d : Option Addr) : TE := fun σ H Q => (∀ i, iv = some i → σ[i]? = some (some (.ref a))) ∧
  ∃ (w : Wd) (h : Hv) (st : Lo), w.H = H ∧ Sim G w h ∧ Lcl G w st σ ∧ ExOk G w c fs cls d ∧ Post G w (r st h) Q Em
def rdXs (G : Gs) (r : Lo → Hv → Res (List Vl)) (iv : Option Nat) (a : Addr) (c : Nat) (fs : List (Nat × Vl)) (cls : Value) (d : Option Addr) : TA := fun σ H Q => (∀ i, iv = some i → σ[i]? = some (some (.ref a))) ∧
  ∃ (w : Wd) (h : Hv) (st : Lo), w.H = H ∧ Sim G w h ∧ Lcl G w st σ ∧ ExOk G w c fs cls d ∧ PostG G (RVs G) w (r st h) Q Em
/-- isinstance of the exception that the suite holds -/
def rIsX (K : PySem.W.Frag) (D a : Addr) (d : Option Addr) : List V → Hp → VK → Prop := fun xs H Q => (d = none ∨ ∃ dd fs', d = some dd ∧ H dd = some (.xd fs')) ∧
  ((∃ (c : V) (cv : Value) (b : Bool), xs = [.ref a, c] ∧ (∀ u, RelV c u → u = cv) ∧ PySem.W.kitOne K (.ref D) cv = some b ∧ Q (.bl b) H) ∨
   ∃ (tp : Addr) (cs : List V) (us : List Value) (b : Bool), xs = [.ref a, .ref tp] ∧ H tp = some (.tup cs) ∧ Paired ClsV cs us ∧ PySem.W.kitAny K (.ref D) us = some b ∧ Q (.bl b) H)
theorem call_isX {X : Cx} {a D : Addr} {oe : Obj} {d : Option Addr} {pn : List (Addr × Obj)} (C : XcK X.K D) (hz : Zc (.ref D) d oe) (hf : ∃ vs, oe.data = .fields vs) : CallR (X.suite a ((a, oe) :: pn)) (.builtin "isinstance") (rIsX X.K D a d) := by
  intro pins s σ H xs us Q I r ⟨hd, h⟩
  obtain ⟨hget, _⟩ := I.pin (a, oe) (List.mem_append.mpr (.inl List.mem_cons_self))
  obtain ⟨vs, hv⟩ := hf
  have J : ∃ od, PySem.W.InstAt s.heap a oe D od := by
    rcases hd with rfl | ⟨dd, fs', rfl, ea⟩
    · exact ⟨none, hget, hz.1, by unfold PySem.W.notCls; rw [hv] <;> rfl, by rw [hz.2]; trivial⟩
    · have hx : ObjOk X.prog X.w H s.heap dd (.xd fs') := I.hok dd _ ea
      obtain ⟨mA, hns, hr⟩ := hx
      obtain ⟨od, ho, hl⟩ := lookIn_ns hns
      exact ⟨some od, hget, hz.1, by unfold PySem.W.notCls; rw [hv] <;> rfl, by rw [hz.2]; exact ho⟩
  obtain ⟨od, J⟩ := J
  have Z := PySem.W.kitx_exc (x := a) (ox := oe) (od := od) C.cl C.ga C.gg C.sb C.ha C.hn C.ht C.hm
  rcases h with ⟨c, cv, b, rfl, hcv, e, q⟩ | ⟨tp, cs, ws, b, rfl, hT, k, e, q⟩
  · obtain ⟨u1, u2, rfl, r1, r2⟩ := vals2 r
    cases r1
    have ec := hcv _ r2
    subst ec
    exact PySem.W.kia_one Z I.kIn J e (fun z => nomatch z) fun tk => ⟨.bl b, H, I.tok tk, rfl, q⟩
  · obtain ⟨u1, u2, rfl, r1, r2⟩ := vals2 r
    cases r1
    cases (show u2 = Value.ref tp from r2)
    obtain ⟨_, its, rv, o, h1, h2, n, h3⟩ := (show ObjOk X.prog X.w H s.heap tp (.tup cs) from I.hok tp _ hT)
    have e3 := ClsV.all k rv
    subst e3
    obtain ⟨oc, odd, dt, sl⟩ := o
    simp only at h2 h3
    subst h2 h3
    exact PySem.W.kia_tup Z I.kIn J h1 e (fun z => nomatch z) fun tk => ⟨.bl b, H, I.tok tk, rfl, q⟩
theorem kitAny_own {K : PySem.W.Frag} {C : Value} {cA : Nat → Addr} {sub : Nat → Bool} : ∀ {ds : List Nat}, (∀ d ∈ ds, PySem.W.kitOne K C (.ref (cA d)) = some (sub d)) → PySem.W.kitAny K C (ds.map fun d => .ref (cA d)) = some (ds.any sub)
  | [], _ => kitAny_nil
  | d :: ds, h => by
    have ih := kitAny_own (ds := ds) fun y hy => h y (List.mem_cons_of_mem _ hy)
    have h1 := h d List.mem_cons_self
    rw [List.map_cons, List.any_cons]
    cases hs : sub d with
    | true => exact kitAny_cons (h1.trans (by rw [hs])) (fun z => by cases z) (fun _ => rfl)
    | false => exact kitAny_cons (h1.trans (by rw [hs])) (fun _ => by simpa using ih) (fun z => by cases z)
structure SuOk (G : Gs) (T : Tab) (M : Nm) (F : Fcts) (X : Cx) (a : Addr) (oe : Obj) (c : Nat) (d : Option Addr) : Prop where
  K : X.K = G.K
  stc : Stc G X.mg T M F
  ic : T.isX c = true
  hz : Zc (.ref (G.cA c)) d oe
  hf : ∃ vs, oe.data = .fields vs
section
variable {X : Cx} {a : Addr} {oe : Obj} {c : Nat} {d : Option Addr} {fs : List (Nat × Vl)} {pn : List (Addr × Obj)} {iv : Option Nat}
theorem held_ok {y : Str} {p : Pos} (h : isHeld X.N X.env.scope iv y = true) : ∃ i, iv = some i ∧ PE (X.suite a ((a, oe) :: pn)) (.Name y p) (tVar i) := by
  unfold isHeld at h
  split at h
  · rename_i i
    simp only [Bool.and_eq_true, decide_eq_true_eq] at h
    have hk := okN_ok h.2
    exact ⟨i, rfl, pe_var (X := X.suite a ((a, oe) :: pn)) h.1.1 (isVis_vis h.1.2) hk.1 hk.2.1⟩
  · cases h
theorem ExOk.dict {w : Wd} {cls : Value} (h : ExOk G w c fs cls d) : d = none ∨ ∃ dd fs', d = some dd ∧ w.H dd = some (.xd fs') :=
  h.2.elim (fun h => .inl h.2) fun ⟨dd, fs', h1, h2, _⟩ => .inr ⟨dd, fs', h1, h2⟩
theorem classes_ok (S : SuOk G T M F X a oe c d) : ∀ (ds : List Nat) (zs : List Expr), mtXc M X.env.scope ds zs = true → ∃ t : TA, PA (X.suite a ((a, oe) :: pn)) zs t ∧ (∀ σ H Q, Q (ds.map fun d => V.ref (G.cA d)) H → t σ H Q) ∧ (∀ z ∈ zs, noStar z = true) ∧ Paired ClsV (ds.map fun d => V.ref (G.cA d)) (ds.map fun d => Value.ref (G.cA d)) ∧ ds.length = zs.length
  | [], [], _ => ⟨_, pa_nil, fun _ _ _ q => q, (fun z hz => by cases hz), .nil, rfl⟩
  | [], _ :: _, h => by simp [mtXc] at h
  | _ :: _, [], h => by simp [mtXc] at h
  | e :: ds, z :: zs, h => by
    unfold mtXc at h
    split at h
    · rename_i e1 e2; cases e1
    · rename_i d0 ds0 x p zs0 h1 h2
      cases h1; cases h2
      simp only [Bool.and_eq_true, decide_eq_true_eq] at h
      obtain ⟨⟨⟨h1, h2⟩, h3⟩, h4⟩ := h
      obtain ⟨t, pa, ht, hn, hp, hl⟩ := classes_ok S ds zs h4
      obtain ⟨g1, _, _⟩ := S.stc.xcl e x h1
      have hd := okN_ok h3
      have pe : PE (X.suite a ((a, oe) :: pn)) (.Name x p) (tC (.ref (G.cA e))) := pe_glob (X := X.suite a ((a, oe) :: pn)) (isGl_gl (X := X) h2) g1 rfl hd.1
      exact ⟨_, pa_cons pe pa (starEach_ok (e := .Name x p) (es := zs) (env := X.env) rfl), fun σ H Q q => ht σ H _ q, (fun y hy => by
        rcases List.mem_cons.mp hy with rfl | hy
        · rfl
        · exact hn y hy), .cons (.own _) hp, by simp [hl]⟩
    · cases h
mutual
theorem mtX_ok (S : SuOk G T M F X a oe c d) : ∀ (e : SX) (x : Expr), mtX M X.N X.env.scope iv e x = true → PE (X.suite a ((a, oe) :: pn)) x (rdX G (seE T c fs e) iv a c fs (.ref (G.cA c)) d)
  | .non, x, hm => by
    simp only [mtX] at hm
    split at hm
    · exact pe_imp pe_non fun σ H Q ⟨hi, w, h, st, e, S, L, eo, p⟩ => by subst e; exact p.ok S .non
    · cases hm
  | .bl b, x, hm => by
    simp only [mtX] at hm
    split at hm
    · rename_i k _ _
      cases (show b = k from by simpa using hm)
      exact pe_imp pe_bl fun σ H Q ⟨hi, w, h, st, e, S, L, eo, p⟩ => by subst e; exact p.ok S (.bl _)
    · cases hm
  | .int i, x, hm => by
    simp only [mtX] at hm
    split at hm
    · cases (show i = _ from by simpa using hm)
      exact pe_imp pe_int fun σ H Q ⟨hi, w, h, st, e, S, L, eo, p⟩ => by subst e; exact p.ok S (.int _)
    · cases hm
  | .str z, x, hm => by
    simp only [mtX] at hm
    split at hm
    · cases (show z = _ from by simpa using hm)
      exact pe_imp pe_str fun σ H Q ⟨hi, w, h, st, e, S, L, eo, p⟩ => by subst e; exact p.ok S (.str _)
    · cases hm
  | .var i, x, hm => by
    simp only [mtX] at hm
    split at hm
    · simp only [Bool.and_eq_true, decide_eq_true_eq] at hm
      have hk := okN_ok hm.2
      refine pe_imp (pe_var (X := X.suite a ((a, oe) :: pn)) hm.1.1 (isVis_vis hm.1.2) hk.1 hk.2.1) fun σ H Q ⟨hi, w, h, st, e, S, L, eo, p⟩ => ?_
      subst e
      simp only [seE] at p
      split at p
      · rename_i v hv
        obtain ⟨x, h1, h2⟩ := L.2 i v hv
        exact ⟨x, h1, p.ok S h2⟩
      · exact p.elim
    · cases hm
  | .isx dd, x, hm => by
    simp only [mtX] at hm
    split at hm
    · rename_i f fp y yp z zp pos
      simp only [Bool.and_eq_true, seqS, decide_eq_true_eq] at hm
      obtain ⟨⟨⟨⟨⟨q1, q2⟩, q3⟩, q4⟩, q5⟩, q6⟩ := hm
      subst q1
      obtain ⟨i, hi, pv⟩ := held_ok (a := a) (oe := oe) (pn := pn) (p := yp) q3
      obtain ⟨g1, _, g3⟩ := S.stc.xcl dd z q4
      have hd := okN_ok q6
      have pz : PE (X.suite a ((a, oe) :: pn)) (.Name z zp) (tC (.ref (G.cA dd))) := pe_glob (X := X.suite a ((a, oe) :: pn)) (isGl_gl (X := X) q5) g1 rfl hd.1
      have s1 := starEach_ok (e := .Name z zp) (es := []) (env := X.env) rfl
      refine pe_imp (pe_callB (call_isX (pn := pn) (by rw [S.K]; exact S.stc.xok c S.ic) S.hz S.hf) (isGl_gl (X := X) q2) (S.stc.blt _ (by decide)) (by decide +kernel) (pa_cons pv (pa_cons pz pa_nil)) (by decide) (by decide) (starEach_ok (e := .Name y yp) (es := [.Name z zp]) (env := X.env) rfl) rfl) fun σ H Q ⟨hh, w, h, st, e, Sm, L, eo, p⟩ => ?_
      subst e
      simp only [seE, g3, if_true] at p
      exact ⟨_, hh i hi, eo.dict, .inl ⟨_, _, _, rfl, fun u hu => hu, by rw [S.K]; exact (S.stc.xsub c dd S.ic g3).2, p.ok Sm (.bl _)⟩⟩
    · cases hm
  | .ist ds, x, hm => by
    simp only [mtX] at hm
    split at hm
    · rename_i f fp y yp cs kk tp pos
      simp only [Bool.and_eq_true, seqS, decide_eq_true_eq] at hm
      obtain ⟨⟨⟨⟨q1, q2⟩, q3⟩, q4⟩, q5⟩ := hm
      subst q1
      obtain ⟨i, hi, pv⟩ := held_ok (a := a) (oe := oe) (pn := pn) (p := yp) q3
      obtain ⟨t, pa, ht, hn, hp, hl⟩ := classes_ok (pn := pn) S ds cs q4
      refine pe_imp (pe_callB (call_isX (pn := pn) (by rw [S.K]; exact S.stc.xok c S.ic) S.hz S.hf) (isGl_gl (X := X) q2) (S.stc.blt _ (by decide)) (by decide +kernel) (pa_cons pv (pa_cons (pe_tup (x1 := kk) pa) pa_nil)) (by decide) (by decide) (starEach_ok (e := .Name y yp) (es := [.Tuple cs kk tp]) (env := X.env) rfl) rfl) fun σ H Q ⟨hh, w, h, st, e, Sm, L, eo, p⟩ => ?_
      subst e
      simp only [seE] at p
      split at p
      · rename_i hall
        rw [List.all_eq_true] at hall
        refine ⟨_, hh i hi, ht _ _ _ ⟨?_, fun tpA hA => ?_⟩⟩
        · have : (ds.map fun d => V.ref (G.cA d)).length = cs.length := by simp [hl]
          rw [this, sizeLine_eq]; omega
        · obtain ⟨S', e', nl⟩ := Sm.newF (o := .tup (ds.map fun d => V.ref (G.cA d))) hA
          have eo' := eo.ext e'
          exact ⟨eo'.dict, .inr ⟨_, _, _, _, rfl, upd_same, hp, by rw [S.K]; exact kitAny_own fun z hz => (S.stc.xsub c z S.ic (hall z hz)).2, p.okE e' S' (.bl _)⟩⟩
      · exact p.elim
    · cases hm
  | .isv, x, hm => by
    simp only [mtX] at hm
    split at hm
    · rename_i f fp y yp z zp pos
      simp only [Bool.and_eq_true, seqS, decide_eq_true_eq] at hm
      obtain ⟨⟨⟨⟨q1, q2⟩, q3⟩, q4⟩, q5⟩ := hm
      subst q1 q4
      obtain ⟨i, hi, pv⟩ := held_ok (a := a) (oe := oe) (pn := pn) (p := yp) q3
      have pz : PE (X.suite a ((a, oe) :: pn)) (.Name "ValueError" zp) (tC (.ty "ValueError")) := pe_bltn (X := X.suite a ((a, oe) :: pn)) (isGl_gl (X := X) q5) S.stc.xve (by decide +kernel) rfl
      refine pe_imp (pe_callB (call_isX (pn := pn) (by rw [S.K]; exact S.stc.xok c S.ic) S.hz S.hf) (isGl_gl (X := X) q2) (S.stc.blt _ (by decide)) (by decide +kernel) (pa_cons pv (pa_cons pz pa_nil)) (by decide) (by decide) (starEach_ok (e := .Name y yp) (es := [.Name "ValueError" zp]) (env := X.env) rfl) rfl) fun σ H Q ⟨hh, w, h, st, e, Sm, L, eo, p⟩ => ?_
      subst e
      simp only [seE] at p
      exact ⟨_, hh i hi, eo.dict, .inl ⟨_, _, _, rfl, fun u hu => ClsV.eq (.ty _) hu, by rw [S.K]; exact (S.stc.xok c S.ic).ve, p.ok Sm (.bl _)⟩⟩
    · cases hm
  | .fld f, x, hm => by
    simp only [mtX] at hm
    split at hm
    · rename_i y yp n pos
      simp only [Bool.and_eq_true, decide_eq_true_eq] at hm
      obtain ⟨i, hi, pv⟩ := held_ok (a := a) (oe := oe) (pn := pn) (p := yp) hm.1
      by_cases hx : T.xf c f = true
      · obtain ⟨n', hn', _, hno⟩ := S.stc.xfl c f hx
        rw [hm.2] at hn'; cases hn'
        have xk := S.stc.xok c S.ic
        refine pe_imp (pe_xf (T := by rw [S.K]; exact ⟨xk.ga, xk.gg, xk.sb, xk.hd⟩) (by rw [S.K]; exact hno) S.hz S.hf pv) fun σ H Q ⟨hh, w, h, st, e, Sm, L, eo, p⟩ => ?_
        subst e
        simp only [seE, hx, if_true] at p
        obtain ⟨v, hv, p⟩ := p.ofO
        rcases eo.2 with ⟨h1, h2⟩ | ⟨dd, fs', h1, h2, h3, h4⟩
        · rw [h1] at hv; cases hv
        · obtain ⟨u, hu, ru⟩ := h3.look (by rw [S.stc.fN]; exact S.stc.fnd) (by rw [S.stc.fN]; exact hm.2) hv
          exact ⟨_, hh i hi, rfl, rfl, dd, fs', u, h1, h2, hu, p.ok Sm ru⟩
      · refine ⟨fun pins s σ H Q I ⟨hh, w, h, st, e, Sm, L, eo, p⟩ => ?_⟩
        simp only [seE, hx] at p
        exact p.elim
    · cases hm
  | .not_ b, x, hm => by
    simp only [mtX] at hm
    split at hm
    · refine pe_imp (pe_not (mtX_ok S b _ hm)) fun σ H Q ⟨hh, w, h, st, e, Sm, L, eo, p⟩ => ?_
      subst e
      simp only [seE] at p
      refine ⟨hh, w, h, st, rfl, Sm, L, eo, p.bind fun v h1 w' x e S' r q => ?_⟩
      cases v with
      | bl b => exact ⟨b, r.bl', q.ok S' (.bl _)⟩
      | _ => exact q.elim
    · cases hm
  | .and_ b b', x, hm => by
    simp only [mtX] at hm
    split at hm
    · rename_i xa y r p
      simp only [Bool.and_eq_true] at hm
      have h1 := mtX_ok S b _ hm.1
      have h2 := mtX_ok S b' _ hm.2
      have h3 : PE (X.suite a ((a, oe) :: pn)) (.BoolOp .And (y :: r) p) (rdX G (seE T c fs b') iv a c fs (.ref (G.cA c)) d) := by
        cases r with
        | nil => exact pe_one h2
        | cons z r => exact h2
      refine pe_imp (pe_and h1 h3) fun σ H Q ⟨hh, w, h, st, e, Sm, L, eo, p⟩ => ?_
      subst e
      simp only [seE] at p
      refine ⟨hh, w, h, st, rfl, Sm, L, eo, p.bind fun v h1 w' x e S' r q => ?_⟩
      cases v with
      | bl k =>
        cases k with
        | true => exact ⟨true, r.bl', hh, w', h1, st, rfl, S', L.ext e, eo.ext e, q⟩
        | false => exact ⟨false, r.bl', q.ok S' (.bl _)⟩
      | _ => exact q.elim
    · cases hm
  | .or_ b b', x, hm => by
    simp only [mtX] at hm
    split at hm
    · rename_i xa y r p
      simp only [Bool.and_eq_true] at hm
      have h1 := mtX_ok S b _ hm.1
      have h2 := mtX_ok S b' _ hm.2
      have h3 : PE (X.suite a ((a, oe) :: pn)) (.BoolOp .Or (y :: r) p) (rdX G (seE T c fs b') iv a c fs (.ref (G.cA c)) d) := by
        cases r with
        | nil => exact pe_one h2
        | cons z r => exact h2
      refine pe_imp (pe_or h1 h3) fun σ H Q ⟨hh, w, h, st, e, Sm, L, eo, p⟩ => ?_
      subst e
      simp only [seE] at p
      refine ⟨hh, w, h, st, rfl, Sm, L, eo, p.bind fun v h1 w' x e S' r q => ?_⟩
      cases v with
      | bl k =>
        cases k with
        | false => exact ⟨false, r.bl', hh, w', h1, st, rfl, S', L.ext e, eo.ext e, q⟩
        | true => exact ⟨true, r.bl', q.ok S' (.bl _)⟩
      | _ => exact q.elim
    · cases hm
  | .eqb ne b b', x, hm => by
    simp only [mtX] at hm
    split at hm
    · rename_i xa o xb pos
      simp only [Bool.and_eq_true] at hm
      obtain ⟨⟨⟨q1, q2⟩, q3⟩, q4⟩ := hm
      cases copB_eq q1
      have h1 := mtX_ok S b _ q3
      have h2 := mtX_ok S b' _ q4
      have fin : ∀ σ H Q, rdX G (seE T c fs (.eqb ne b b')) iv a c fs (.ref (G.cA c)) d σ H Q → rdX G (seE T c fs b) iv a c fs (.ref (G.cA c)) d σ H fun x H1 => rdX G (seE T c fs b') iv a c fs (.ref (G.cA c)) d σ H1 fun y H2 => ∃ p q : Bool, x = .bl p ∧ y = .bl q ∧ Q (.bl (if ne then !(decide (p = q)) else decide (p = q))) H2 := fun σ H Q ⟨hh, w, h, st, e, Sm, L, eo, p⟩ => by
        simp only [seE] at p
        refine ⟨hh, w, h, st, e, Sm, L, eo, p.bind fun v h1 w' x e S' r q => ⟨hh, w', h1, st, rfl, S', L.ext e, eo.ext e, q.bind fun u h2 w2 y e2 S2 r2 q2 => ?_⟩⟩
        cases v with
        | bl k =>
          cases u with
          | bl k2 => exact ⟨k, k2, r.bl', r2.bl', q2.ok S2 (.bl _)⟩
          | _ => exact q2.elim
        | _ => exact q2.elim
      cases ne with
      | true =>
        refine pe_imp (pe_cmpR op_ne h1 h2 (behind_ok (op := CmpOp.NotEq) q2)) fun σ H Q q => ?_
        obtain ⟨hh, w, h, st, e, Sm, L, eo, p⟩ := fin σ H Q q
        refine ⟨hh, w, h, st, e, Sm, L, eo, PostG.mono p fun x H1 ⟨hh1, w1, g1, st1, e1, S1, L1, eo1, p1⟩ => ⟨hh1, w1, g1, st1, e1, S1, L1, eo1, PostG.mono p1 fun y H2 ⟨k1, k2, hx, hy, q2⟩ => ?_⟩⟩
        subst hx hy
        refine ⟨rfl, ?_⟩
        rw [show decide (V.bl k1 = V.bl k2) = decide (k1 = k2) by simp]
        exact q2
      | false =>
        refine pe_imp (pe_cmpR op_eq h1 h2 (behind_ok (op := CmpOp.Eq) q2)) fun σ H Q q => ?_
        obtain ⟨hh, w, h, st, e, Sm, L, eo, p⟩ := fin σ H Q q
        refine ⟨hh, w, h, st, e, Sm, L, eo, PostG.mono p fun x H1 ⟨hh1, w1, g1, st1, e1, S1, L1, eo1, p1⟩ => ⟨hh1, w1, g1, st1, e1, S1, L1, eo1, PostG.mono p1 fun y H2 ⟨k1, k2, hx, hy, q2⟩ => ?_⟩⟩
        subst hx hy
        refine ⟨rfl, ?_⟩
        rw [show decide (V.bl k1 = V.bl k2) = decide (k1 = k2) by simp]
        exact q2
    · cases hm
  | .lst fz es, x, hm => by
    simp only [mtX] at hm
    split at hm
    · refine pe_imp (pe_lst (mtXs_ok S es _ hm)) fun σ H Q ⟨hh, w, h, st, e, Sm, L, eo, p⟩ => ?_
      subst e
      simp only [seE] at p
      refine ⟨hh, w, h, st, rfl, Sm, L, eo, p.bind fun v h1 w' x e S' r q => ?_⟩
      obtain ⟨z, q⟩ := q.chk
      exact ⟨by rw [← lim_eq, ← r.length]; exact z, fun pA hA => mkL_ok q S' r hA⟩
    · cases hm
  | .tup es, x, hm => by
    simp only [mtX] at hm
    split at hm
    · refine pe_imp (pe_tup (mtXs_ok S es _ hm)) fun σ H Q ⟨hh, w, h, st, e, Sm, L, eo, p⟩ => ?_
      subst e
      simp only [seE] at p
      refine ⟨hh, w, h, st, rfl, Sm, L, eo, p.bind fun v h1 w' x e S' r q => ?_⟩
      obtain ⟨z, q⟩ := q.chk
      exact ⟨by rw [← lim_eq, ← r.length]; exact z, fun pA hA => mkT_ok q S' r hA⟩
    · cases hm
  | .inc i k, x, hm => by
    simp only [mtX] at hm
    split at hm
    · simp only [Bool.and_eq_true, decide_eq_true_eq] at hm
      obtain ⟨⟨⟨q1, q2⟩, q3⟩, rfl⟩ := hm
      have hk := okN_ok q3
      refine pe_imp (pe_op op_add (pe_var (X := X.suite a ((a, oe) :: pn)) q1 (isVis_vis q2) hk.1 hk.2.1) pe_int) fun σ H Q ⟨hi, w, h, st, e, S, L, eo, p⟩ => ?_
      subst e
      simp only [seE] at p
      split at p
      · rename_i v hv
        obtain ⟨x, h1, h2⟩ := L.2 i _ hv
        exact ⟨x, h1, _, _, h2.int', rfl, p.ok S (.int _)⟩
      · exact p.elim
    · cases hm
theorem mtXs_ok (S : SuOk G T M F X a oe c d) : ∀ (es : SXs) (xs : List Expr), mtXs M X.N X.env.scope iv es xs = true → PA (X.suite a ((a, oe) :: pn)) xs (rdXs G (seEs T c fs es) iv a c fs (.ref (G.cA c)) d)
  | .nil, xs, hm => by
    cases xs with
    | nil => exact pa_imp pa_nil fun σ H Q ⟨hi, w, h, st, e, S, L, eo, p⟩ => by subst e; exact p.ok S .nil
    | cons _ _ => simp [mtXs] at hm
  | .cons e r, xs, hm => by
    cases xs with
    | nil => simp [mtXs] at hm
    | cons y ys =>
      simp only [mtXs, Bool.and_eq_true] at hm
      refine pa_imp (pa_cons (mtX_ok S e _ hm.1.2) (mtXs_ok S r _ hm.2) (starEach_ok (env := X.env) hm.1.1)) fun σ H Q ⟨hh, w, h, st, eH, Sm, L, eo, p⟩ => ?_
      subst eH
      simp only [seEs] at p
      exact ⟨hh, w, h, st, rfl, Sm, L, eo, p.bind fun v h1 w' x e S' r q => ⟨hh, w', h1, st, rfl, S', L.ext e, eo.ext e, q.bind fun vs h2 w2 xs e2 S2 r2 q2 => q2.ok S2 (.cons (r.ext e2) r2)⟩⟩
end
/-! ### suites -/
mutual
theorem seE_nx (T : Tab) (c : Nat) (fs : List (Nat × Vl)) : ∀ (e : SX) (s : Lo) (h : Hv) (c2 : Nat) (fs2 : List (Nat × Vl)) (h2 : Hv), seE T c fs e s h ≠ .ex c2 fs2 h2
  | .non, s, h, _, _, _ => by simp [seE]
  | .bl _, s, h, _, _, _ => by simp [seE]
  | .int _, s, h, _, _, _ => by simp [seE]
  | .str _, s, h, _, _, _ => by simp [seE]
  | .var _, s, h, _, _, _ => by simp only [seE]; split <;> (intro z; cases z)
  | .isx _, s, h, _, _, _ => by simp only [seE]; split <;> (intro z; cases z)
  | .ist _, s, h, _, _, _ => by simp only [seE]; split <;> (intro z; cases z)
  | .isv, s, h, _, _, _ => by simp [seE]
  | .fld f, s, h, _, _, _ => by
    simp only [seE]
    split
    · cases fs.lookup f <;> (intro z; cases z)
    · intro z; cases z
  | .inc _ _, s, h, _, _, _ => by simp only [seE]; split <;> (intro z; cases z)
  | .not_ a, s, h, c2, fs2, h2 => by
    simp only [seE]
    cases ha : seE T c fs a s h with
    | ok v h1 => cases v <;> (intro z; cases z)
    | st => intro z; cases z
    | ex c3 fs3 h3 => exact absurd ha (seE_nx T c fs a s h c3 fs3 h3)
  | .and_ a b, s, h, c2, fs2, h2 => by
    simp only [seE]
    cases ha : seE T c fs a s h with
    | ok v h1 =>
      cases v with
      | bl k =>
        cases k with
        | true => exact seE_nx T c fs b s h1 c2 fs2 h2
        | false => intro z; cases z
      | _ => intro z; cases z
    | st => intro z; cases z
    | ex c3 fs3 h3 => exact absurd ha (seE_nx T c fs a s h c3 fs3 h3)
  | .or_ a b, s, h, c2, fs2, h2 => by
    simp only [seE]
    cases ha : seE T c fs a s h with
    | ok v h1 =>
      cases v with
      | bl k =>
        cases k with
        | false => exact seE_nx T c fs b s h1 c2 fs2 h2
        | true => intro z; cases z
      | _ => intro z; cases z
    | st => intro z; cases z
    | ex c3 fs3 h3 => exact absurd ha (seE_nx T c fs a s h c3 fs3 h3)
  | .eqb ne a b, s, h, c2, fs2, h2 => by
    simp only [seE]
    cases ha : seE T c fs a s h with
    | ok v h1 =>
      simp only [Res.bind]
      cases hb : seE T c fs b s h1 with
      | ok u h3 => simp only [Res.bind]; split <;> (intro z; cases z)
      | st => intro z; cases z
      | ex c3 fs3 h3 => exact absurd hb (seE_nx T c fs b s h1 c3 fs3 h3)
    | st => intro z; cases z
    | ex c3 fs3 h3 => exact absurd ha (seE_nx T c fs a s h c3 fs3 h3)
  | .lst fz es, s, h, c2, fs2, h2 => by
    simp only [seE]
    cases ha : seEs T c fs es s h with
    | ok v h1 => exact chk_nx mkL_nx c2 fs2 h2
    | st => intro z; cases z
    | ex c3 fs3 h3 => exact absurd ha (seEs_nx T c fs es s h c3 fs3 h3)
  | .tup es, s, h, c2, fs2, h2 => by
    simp only [seE]
    cases ha : seEs T c fs es s h with
    | ok v h1 => exact chk_nx (fun _ _ _ z => by cases z) c2 fs2 h2
    | st => intro z; cases z
    | ex c3 fs3 h3 => exact absurd ha (seEs_nx T c fs es s h c3 fs3 h3)
theorem seEs_nx (T : Tab) (c : Nat) (fs : List (Nat × Vl)) : ∀ (e : SXs) (s : Lo) (h : Hv) (c2 : Nat) (fs2 : List (Nat × Vl)) (h2 : Hv), seEs T c fs e s h ≠ .ex c2 fs2 h2
  | .nil, s, h, _, _, _ => by simp [seEs]
  | .cons e r, s, h, c2, fs2, h2 => by
    simp only [seEs]
    cases ha : seE T c fs e s h with
    | ok v h1 =>
      simp only [Res.bind]
      cases hb : seEs T c fs r s h1 with
      | ok u h3 => intro z; cases z
      | st => intro z; cases z
      | ex c3 fs3 h3 => exact absurd hb (seEs_nx T c fs r s h1 c3 fs3 h3)
    | st => intro z; cases z
    | ex c3 fs3 h3 => exact absurd ha (seE_nx T c fs e s h c3 fs3 h3)
end
theorem suU_nx (T : Tab) (c : Nat) (fs : List (Nat × Vl)) : ∀ (su : List SU) (s : Lo) (h : Hv) (c2 : Nat) (fs2 : List (Nat × Vl)) (h2 : Hv), suU T c fs su s h ≠ .ex c2 fs2 h2
  | [], s, h, _, _, _ => by simp [suU]
  | .set i e :: r, s, h, c2, fs2, h2 => by
    simp only [suU]
    cases ha : seE T c fs e s h with
    | ok v h1 => exact suU_nx T c fs r _ h1 c2 fs2 h2
    | st => intro z; cases z
    | ex c3 fs3 h3 => exact absurd ha (seE_nx T c fs e s h c3 fs3 h3)
  | .ret e :: r, s, h, c2, fs2, h2 => by
    simp only [suU]
    cases ha : seE T c fs e s h with
    | ok v h1 => intro z; cases z
    | st => intro z; cases z
    | ex c3 fs3 h3 => exact absurd ha (seE_nx T c fs e s h c3 fs3 h3)
  | .cont :: r, s, h, _, _, _ => by simp [suU]

def rdU (G : Gs) (r : Lo → Hv → Res Fl) (iv : Option Nat) (a : Addr) (c : Nat) (fs : List (Nat × Vl)) (cls : Value) (d : Option Addr) : TS := fun D σ H => (∀ i, iv = some i → σ[i]? = some (some (.ref a))) ∧
  ∃ (w : Wd) (h : Hv) (st : Lo), w.H = H ∧ Sim G w h ∧ Lcl G w st σ ∧ ExOk G w c fs cls d ∧ PostW G w (r st h) (PS' G D) Em
theorem swapsN {v : Expr} {t : Option Expr} {l : Nat} {env : Env} (h : noComp v = true) : swapsWith v t l env = pure false := by
  cases v <;> first | rfl | cases h
theorem pss_impX {X : Cx} {x : List Stmt} {t t' : TS} (h : PSs X x t) (k : ∀ D σ H, t' D σ H → t D σ H) : PSs X x t' := ⟨fun pins s σ H D I q => h.run pins s σ H D I (k D σ H q)⟩
theorem isLoc_locX {X : Cx} {x : Str} (h : isLoc X.env.scope x = true) : Loc X.env.scope x := by
  unfold isLoc at h
  split at h
  · rename_i e; exact .inl e
  · rename_i e; exact .inr e
  · cases h
theorem mtU_ok (S : SuOk G T M F X a oe c d) (hN : X.N.Nodup) (hf : ∀ x, X.fn x = true) : ∀ (su : List SU) (ss : List Stmt), mtU M X.N X.env.scope iv su ss = true → PSs (X.suite a ((a, oe) :: pn)) ss (rdU G (suU T c fs su) iv a c fs (.ref (G.cA c)) d)
  | [], ss, hm => by
    cases ss with
    | nil => exact pss_impX pss_nil fun D σ H ⟨hh, w, h, st, eH, Sm, L, eo, p⟩ => by subst eH; exact p.ok Sm σ L
    | cons _ _ => simp [mtU] at hm
  | .set i e :: r, ss, hm => by
    unfold mtU at hm
    split at hm
    · rename_i x xp v vp xs
      simp only [Bool.and_eq_true, decide_eq_true_eq] at hm
      obtain ⟨⟨⟨⟨⟨q1, q2⟩, q3⟩, q4⟩, q5⟩, q6⟩ := hm
      refine pss_impX (pss_cons (ps_set (X := X.suite a ((a, oe) :: pn)) hN q1 (isLoc_locX (X := X) q2) (mtX_ok (fs := fs) S e v q5) (swapsN q3) (.inl (hf x))) (mtU_ok S hN hf r xs q6)) fun D σ H ⟨hh, w, h, st, eH, Sm, L, eo, p⟩ => ?_
      subst eH
      refine ⟨hh, w, h, st, rfl, Sm, L, eo, PostW.bind p fun v h1 w' y e S' rv q => ⟨fun j hj => ?_, w', h1, st.set i (some v), rfl, S', (L.ext e).set i rv, eo.ext e, q⟩⟩
      rw [List.getElem?_set_ne (fun z => q4 (by rw [hj, z]))]
      exact hh j hj
    · cases hm
  | .ret e :: r, ss, hm => by
    unfold mtU at hm
    split at hm
    · rename_i v vp xs
      simp only [Bool.and_eq_true] at hm
      refine pss_impX (pss_cons (ps_ret (mtX_ok (fs := fs) S e v hm.1)) (mtU_ok S hN hf r xs hm.2)) fun D σ H ⟨hh, w, h, st, eH, Sm, L, eo, p⟩ => ?_
      subst eH
      exact ⟨hh, w, h, st, rfl, Sm, L, eo, PostW.bind p fun v h1 w' y e S' rv q => q.ok S' y rv⟩
    · cases hm
  | .cont :: r, ss, hm => by
    unfold mtU at hm
    split at hm
    · rename_i vp xs
      refine pss_impX (pss_cons ps_continue (mtU_ok S hN hf r xs hm)) fun D σ H ⟨hh, w, h, st, eH, Sm, L, eo, p⟩ => ?_
      subst eH
      exact p.ok Sm σ L
    · cases hm
end
end
end Core
end

section
set_option Elab.async false
set_option linter.all false
set_option maxRecDepth 100000
set_option maxHeartbeats 4000000
set_option autoImplicit false
/-! Core14: statements, functions. -/
namespace Core
open PySem L2 PyProof.Rows
section
variable {G : Gs} {T : Tab} {M : Nm} {F : Fcts} {cl : Cl} {k : Nat}
theorem ps_imp {X : Cx} {x : Stmt} {t t' : TS} (h : PS X x t) (k : ∀ D σ H, t' D σ H → t D σ H) : PS X x t' := ⟨fun pins s σ H D I q => h.run pins s σ H D I (k D σ H q)⟩
theorem pss_imp {X : Cx} {x : List Stmt} {t t' : TS} (h : PSs X x t) (k : ∀ D σ H, t' D σ H → t D σ H) : PSs X x t' := ⟨fun pins s σ H D I q => h.run pins s σ H D I (k D σ H q)⟩
theorem swaps0 {v : Expr} {t : Option Expr} {l : Nat} {env : Env} (h : noComp v = true) : swapsWith v t l env = pure false := by
  cases v <;> first | rfl | cases h
theorem swapsS {v t : Expr} {l : Nat} {env : Env} (h : noComp v = true) : swapsWithSole [t] v l env = pure false := swaps0 (t := some t) h
theorem assignS {o i : Expr} {p : Pos} {env : Env} (h : noSlice i = true) (v : Value) : assign (.Subscript o i p) env v = (do
      let ov ← holding [v] (eval o env)
      let iv ← holding [v, ov] (eval i env)
      standAt p
      holding [v, ov, iv] (setItem ov iv v)
      release [v, ov, iv] []) := by
  cases i <;> first | rfl | cases h
theorem swapsA {v : Expr} {o : Expr} {f : Str} {p : Pos} {l : Nat} {env : Env} : swapsWith v (some (.Attribute o f p)) l env = pure false := by
  cases v <;> rfl
theorem stores0 {es : List Expr} {n : Nat} {p : Pos} {v : Expr} {env : Env} (h : noTup v = true) : swappedStores [.Tuple es n p] v env = pure none := by
  cases v <;> first | rfl | cases h
theorem storesS {a b : Expr} {p : Pos} {v : Expr} {env : Env} : swappedStores [.Subscript a b p] v env = pure none := by
  cases v <;> rfl
theorem swapOk_comp {sc : Scope} {x : Str} {l : Nat} {v : Expr} (h : swapOk sc x l v = true) (n : ∀ a b c d, v ≠ .ListComp a b c d) : noComp v = true := by
  cases v <;> first | rfl | cases h | exact absurd rfl (n _ _ _ _)
theorem aug_op {op : BOp} (h : (decide (op = .add) || decide (op = .sub)) = true) : op = .add ∨ op = .sub := by simpa using h
theorem while_rd {X : Cx} {E : XK} {cond : Lo → Hv → Res Vl} {body : Lo → Hv → Res Fl} {D : Ends} {σ : L2.St} {w : Wd} {h : Hv} {st : Lo} {n : Nat} (S : Sim G w h) (L : Lcl G w st σ) (p : PostW G w (whileR cond body n st h) (PS' G D) E) :
    tWhile (rdT G cond (fun _ => E)) (rdS G body E) D σ w.H := by
  refine ⟨fun m σ H => ∃ (w : Wd) (h : Hv) (st : Lo), w.H = H ∧ Sim G w h ∧ Lcl G w st σ ∧ PostW G w (whileR cond body m st h) (PS' G D) E, ⟨n, w, h, st, rfl, S, L, p⟩, ?_⟩
  rintro m σ H ⟨w, h, st, rfl, S, L, p⟩
  cases m with
  | zero => exact p.elim
  | succ m =>
    unfold whileR at p
    refine ⟨w, h, st, rfl, S, L, ?_⟩
    cases hc : cond st h with
    | st => rw [hc] at p; exact p
    | ex c fs h1 => rw [hc] at p; exact p
    | ok v h1 =>
      rw [hc] at p
      intro w1 x e1 S1 r
      have L1 := L.ext e1
      cases v with
      | bl b =>
        refine ⟨b, r.bl', ?_⟩
        have p := p.ext e1
        cases b with
        | false => exact p.ok S1 σ L1
        | true =>
          simp only [if_true]
          refine ⟨fun σ H => ∃ (w : Wd) (h : Hv) (st : Lo), w.H = H ∧ Sim G w h ∧ Lcl G w st σ ∧ PostW G w (whileR cond body m st h) (PS' G D) E, fun σ' H' q => ⟨m, Nat.lt_succ_self _, q⟩, w1, h1, st, rfl, S1, L1, ?_⟩
          simp only at p
          cases hb : body st h1 with
          | st => rw [hb] at p; exact p
          | ex c fs h2 => rw [hb] at p; exact p
          | ok f h2 =>
            rw [hb] at p
            intro w2 e2 S2
            cases f with
            | nx s2 => exact fun σ2 L2 => ⟨w2, h2, s2, rfl, S2, L2, PostW.ext (show PostW G w1 (whileR cond body m s2 h2) (PS' G D) E from p) e2⟩
            | ct s2 => exact fun σ2 L2 => ⟨w2, h2, s2, rfl, S2, L2, PostW.ext (show PostW G w1 (whileR cond body m s2 h2) (PS' G D) E from p) e2⟩
            | bk s2 => exact p w2 e2 S2
            | rt v => exact p w2 e2 S2
      | _ => exact p.elim
structure FnX (X : Cx) : Prop where
  fn : ∀ x, X.fn x = true
  stk : X.stack = X.env :: X.outer
  frm : X.env.frame = some X.env.locals
/-! ### the body of a try -/
def Agr (A : List Nat) (σ σ' : L2.St) : Prop := σ.length = σ'.length ∧ ∀ i, i ∉ A → σ[i]? = σ'[i]?
theorem Agr.refl (A : List Nat) (σ : L2.St) : Agr A σ σ := ⟨rfl, fun _ _ => rfl⟩
theorem Agr.trans {A : List Nat} {a b c : L2.St} (x : Agr A a b) (y : Agr A b c) : Agr A a c := ⟨x.1.trans y.1, fun i hi => (x.2 i hi).trans (y.2 i hi)⟩
theorem Agr.set {A : List Nat} (σ : L2.St) {i : Nat} (h : i ∈ A) (v : Option V) : Agr A σ (σ.set i v) := ⟨by simp, fun j hj => (List.getElem?_set_ne (fun (z : i = j) => hj (by rw [← z]; exact h))).symm⟩
def PSB (G : Gs) (A : List Nat) (D : Ends) (σ0 : L2.St) : Fl → Wd → Hv → Prop := fun f w' _ => match f with
  | .nx s => ∀ σ, Agr A σ0 σ → Lcl G w' s σ → D.nx σ w'.H
  | .rt v => ∀ x, RV G w' v x → D.rt x w'.H
  | .bk s => ∀ σ, Agr A σ0 σ → Lcl G w' s σ → D.bk σ w'.H
  | .ct s => ∀ σ, Agr A σ0 σ → Lcl G w' s σ → D.ct σ w'.H
def rdTy (G : Gs) (A : List Nat) (r : Lo → Hv → Res Fl) (E : L2.St → XK) : TS := fun D σ H => ∃ (w : Wd) (h : Hv) (st : Lo), w.H = H ∧ Sim G w h ∧ Lcl G w st σ ∧ PostW G w (r st h) (PSB G A D σ) (E σ)
mutual
theorem mtB_ok (ti : IsT G T M) {X : Cx} {E : L2.St → XK} (A : List Nat) (hE : ∀ σ σ', Agr A σ σ' → E σ = E σ') (hx : XC G T M F cl k X E) (hf : ∀ x, X.fn x = true) : ∀ (c : CS) (x : Stmt), smpS c = true → (∀ i ∈ asgS c, i ∈ A) → mtS M X.N X.env.scope c x = true → PS X x (rdTy G A (evS T cl c) E)
  | .set (.var i) e, x, hs, ha, hm => by
    simp only [mtS] at hm
    split at hm
    · rename_i y p v pos
      simp only [Bool.and_eq_true, decide_eq_true_eq] at hm
      obtain ⟨⟨⟨q1, q2⟩, q3⟩, q4⟩ := hm
      have nc : noComp v = true := swapOk_comp q3 fun a b c d z => by
        subst z
        cases e <;> first | (simp [mtE] at q4; done) | (simp [smpS, notLc] at hs; done)
      refine ps_imp (ps_set hx.nd q1 (isLoc_loc q2) (mtE_ok ti e hx v q4).1 (swaps0 nc) (.inl (hf y))) fun D σ H ⟨w, h, st, eH, S, L, p⟩ => ?_
      rw [evS] at p
      exact ⟨w, h, st, eH, S, L, PostW.bind p fun v h1 w' x e S' r q => q.ok S' _ (Agr.set σ (ha i (by simp [asgS, ctVs])) _) ((L.ext e).set i r)⟩
    · cases hm
  | .ret e, x, hs, ha, hm => by
    simp only [mtS] at hm
    split at hm
    · refine ps_imp (ps_ret (mtE_ok ti e hx _ hm).1) fun D σ H ⟨w, h, st, eH, S, L, p⟩ => ?_
      subst eH
      rw [evS] at p
      exact ⟨w, h, st, rfl, S, L, PostW.bind p fun v h1 w1 x e1 S1 r1 q => q.ok S1 x r1⟩
    · cases hm
  | .retN, x, hs, ha, hm => by
    simp only [mtS] at hm
    split at hm
    · refine ps_imp ps_retN fun D σ H ⟨w, h, st, eH, S, L, p⟩ => ?_
      subst eH
      rw [evS] at p
      exact p.ok S _ .non
    · cases hm
  | .expr e, x, hs, ha, hm => by
    simp only [mtS] at hm
    split at hm
    · simp only [Bool.and_eq_true] at hm
      refine ps_imp (ps_expr (mtE_ok ti e hx _ hm.2).1 (swaps0 hm.1)) fun D σ H ⟨w, h, st, eH, S, L, p⟩ => ?_
      subst eH
      rw [evS] at p
      exact ⟨w, h, st, rfl, S, L, PostW.bind p fun v h1 w1 x e1 S1 r1 q => q.ok S1 σ (Agr.refl _ _) (L.ext e1)⟩
    · cases hm
  | .pass, x, hs, ha, hm => by
    simp only [mtS] at hm
    split at hm
    · exact ps_imp ps_pass fun D σ H ⟨w, h, st, eH, S, L, p⟩ => by subst eH; rw [evS] at p; exact p.ok S σ (Agr.refl _ _) L
    · exact ps_imp ps_doc fun D σ H ⟨w, h, st, eH, S, L, p⟩ => by subst eH; rw [evS] at p; exact p.ok S σ (Agr.refl _ _) L
    · cases hm
  | .ife c a b, x, hs, ha, hm => by
    simp only [mtS] at hm
    simp only [smpS, Bool.and_eq_true] at hs
    split at hm
    · simp only [Bool.and_eq_true] at hm
      refine ps_imp (ps_if (mtE_ok ti c hx _ hm.1.1).2 (mtBs_ok ti A hE hx hf a _ hs.1 (fun i hi => ha i (by simp [asgS, hi])) hm.1.2) (mtBs_ok ti A hE hx hf b _ hs.2 (fun i hi => ha i (by simp [asgS, hi])) hm.2)) fun D σ H ⟨w, h, st, eH, S, L, p⟩ => ?_
      subst eH
      rw [evS] at p
      refine ⟨w, h, st, rfl, S, L, PostW.bind p fun v h1 w1 x e1 S1 r1 q => ?_⟩
      cases v with
      | bl b =>
        cases b with
        | true => exact ⟨true, r1.bl', w1, h1, st, rfl, S1, L.ext e1, q⟩
        | false => exact ⟨false, r1.bl', w1, h1, st, rfl, S1, L.ext e1, q⟩
      | _ => exact q.elim
    · cases hm
  | .set (.tup _) _, x, hs, ha, hm => by simp [smpS] at hs
  | .setA _ _ _, x, hs, ha, hm => by simp [smpS] at hs
  | .setI _ _ _, x, hs, ha, hm => by simp [smpS] at hs
  | .aug _ _ _, x, hs, ha, hm => by simp [smpS] at hs
  | .for_ _ _ _, x, hs, ha, hm => by simp [smpS] at hs
  | .while_ _ _, x, hs, ha, hm => by simp [smpS] at hs
  | .brk, x, hs, ha, hm => by simp [smpS] at hs
  | .cont, x, hs, ha, hm => by simp [smpS] at hs
  | .never, x, hs, ha, hm => ⟨fun pins s σ H D I ⟨w, h, st, eH, S, L, p⟩ => by rw [evS] at p; exact p.elim⟩
  | .raise_ _, x, hs, ha, hm => by simp [smpS] at hs
  | .try_ _ _, x, hs, ha, hm => by simp [smpS] at hs
theorem mtBs_ok (ti : IsT G T M) {X : Cx} {E : L2.St → XK} (A : List Nat) (hE : ∀ σ σ', Agr A σ σ' → E σ = E σ') (hx : XC G T M F cl k X E) (hf : ∀ x, X.fn x = true) : ∀ (c : CSs) (x : List Stmt), smpSs c = true → (∀ i ∈ asgSs c, i ∈ A) → mtSs M X.N X.env.scope c x = true → PSs X x (rdTy G A (evSs T cl c) E)
  | .nil, x, hs, ha, hm => by
    cases x with
    | nil => exact pss_imp pss_nil fun D σ H ⟨w, h, st, eH, S, L, p⟩ => by subst eH; rw [evSs] at p; exact p.ok S σ (Agr.refl _ _) L
    | cons _ _ => simp [mtSs] at hm
  | .cons a r, x, hs, ha, hm => by
    cases x with
    | nil => simp [mtSs] at hm
    | cons y ys =>
      simp only [mtSs, Bool.and_eq_true] at hm
      simp only [smpSs, Bool.and_eq_true] at hs
      refine pss_imp (pss_cons (mtB_ok ti A hE hx hf a y hs.1 (fun i hi => ha i (by simp [asgSs, hi])) hm.1) (mtBs_ok ti A hE hx hf r ys hs.2 (fun i hi => ha i (by simp [asgSs, hi])) hm.2)) fun D σ H ⟨w, h, st, eH, S, L, p⟩ => ?_
      subst eH
      rw [evSs] at p
      refine ⟨w, h, st, rfl, S, L, ?_⟩
      revert p
      cases evS T cl a st h with
      | st => exact fun p => p
      | ex c fs h1 => exact fun p => p
      | ok f h1 =>
        intro p w' e S'
        cases f with
        | nx s1 =>
          intro σ' g L'
          refine ⟨w', h1, s1, rfl, S', L', ?_⟩
          have q := PostW.ext (show PostW G w (evSs T cl r s1 h1) (PSB G A D σ) (E σ) from p) e
          rw [← hE σ σ' g]
          exact q.mono fun f w2 h2 e2 S2 q2 => by
            cases f with
            | nx s => exact fun τ t L => q2 τ (g.trans t) L
            | rt v => exact q2
            | bk s => exact fun τ t L => q2 τ (g.trans t) L
            | ct s => exact fun τ t L => q2 τ (g.trans t) L
        | rt v => exact p w' e S'
        | bk s1 => exact p w' e S'
        | ct s1 => exact p w' e S'
end
/-! ### clauses -/
def tsU (G : Gs) (T : Tab) (iv : Option Nat) (su : List SU) (a : Addr) (cls : Value) (d : Option Addr) : TS := fun D σ H => ∃ (c : Nat) (fs : List (Nat × Vl)), cls = .ref (G.cA c) ∧ T.isX c = true ∧ rdU G (suU T c fs su) iv a c fs cls d D σ H
theorem suite_ok {X : Cx} {E : XK} (hx : XC G T M F cl k X (fun _ => E)) (hf : FnX X) {iv : Option Nat} {su : List SU} {ss : List Stmt} (hm : mtU M X.N X.env.scope iv su ss = true) (a : Addr) (oe : Obj) (cls : Value) (d : Option Addr) (pn : List (Addr × Obj)) (hz : Zc cls d oe) (hv : ∃ vs, oe.data = .fields vs) :
    PSs (X.suite a ((a, oe) :: pn)) ss (tsU G T iv su a cls d) := by
  refine ⟨fun pins s σ H D I ⟨c, fs, hc, ic, q⟩ => ?_⟩
  subst hc
  exact (mtU_ok (iv := iv) (fs := fs) (pn := pn) ⟨hx.K, hx.stc, ic, hz, hv⟩ hx.nd hf.fn su ss hm).run pins s σ H D I q
theorem nmX_ok {X : Cx} (stc : Stc G X.mg T M F) {x : Str} {c : Nat} (h : M.xN c = some x) (g : isGl X.env.scope x = true) (o : okN x = true) : Names X x (.ref (G.cA c)) :=
  ⟨isGl_gl g, (okN_ok o).1, .inl (stc.xcl c x h).1⟩
theorem Lcl.off {w : Wd} {st : Lo} {σ : L2.St} (l : Lcl G w st σ) (i : Nat) (y : Option V) : Lcl G w (st.set i Option.none) (σ.set i y) := by
  refine ⟨by simp [l.1], fun j u q => ?_⟩
  by_cases h : i = j
  · subst h
    rw [List.getElem?_set] at q
    split at q
    · split at q <;> cases q
    · rename_i z; exact absurd rfl z
  · rw [List.getElem?_set_ne h] at q ⊢
    exact l.2 j u q
theorem wipeL_get (st : Lo) (i : Nat) : ∀ (A : List Nat) (j : Nat) (v : Vl), (wipeL st A)[j]? = some (some v) → j ∉ A ∧ st[j]? = some (some v)
  | [], j, v, h => ⟨by simp, h⟩
  | a :: A, j, v, h => by
    unfold wipeL at h
    by_cases e : a = j
    · subst e
      rw [List.getElem?_set] at h
      split at h
      · split at h <;> cases h
      · rename_i z; exact absurd rfl z
    · rw [List.getElem?_set_ne e] at h
      obtain ⟨h1, h2⟩ := wipeL_get st i A j v h
      exact ⟨by simp [Ne.symm e, h1], h2⟩
theorem wipe_len (st : Lo) : ∀ A : List Nat, (wipeL st A).length = st.length
  | [] => rfl
  | a :: A => by unfold wipeL; simp [wipe_len st A]
theorem Lcl.agr {w : Wd} {st : Lo} {σ σ' : L2.St} {A : List Nat} (l : Lcl G w st σ) (g : Agr A σ σ') : Lcl G w (wipeL st A) σ' :=
  ⟨by rw [wipe_len, l.1, g.1], fun j v h => by
    obtain ⟨h1, h2⟩ := wipeL_get st 0 A j v h
    obtain ⟨x, hx, r⟩ := l.2 j v h2
    exact ⟨x, by rw [← g.2 j h1]; exact hx, r⟩⟩
/-- clauses without names -/
inductive HdR (G : Gs) (T : Tab) (M : Nm) (X : Cx) : List Hd → List (Value × (Addr → Value → Option Addr → TS)) → Prop
  | nil : HdR G T M X [] []
  | cons {d : Hd} {r l} (hc : T.isX d.c = true) (hn : d.nm = none) (h : HdR G T M X r l) : HdR G T M X (d :: r) ((.ref (G.cA d.c), tsU G T none d.su) :: l)
theorem hds_ok {X : Cx} {E : XK} (hx : XC G T M F cl k X (fun _ => E)) (hf : FnX X) : ∀ (hs : List Hd) (hds : List ExceptHandler), mtHs M X.N X.env.scope hs hds = true → ∃ l, HdsOk X hds l ∧ HdR G T M X hs l
  | [], [], _ => ⟨[], .nil, .nil⟩
  | [], _ :: _, h => by simp [mtHs] at h
  | _ :: _, [], h => by simp [mtHs] at h
  | d :: hs, x :: hds, h => by
    simp only [mtHs, Bool.and_eq_true, decide_eq_true_eq] at h
    obtain ⟨⟨h1, h2⟩, h3⟩ := h
    obtain ⟨l, p1, p2⟩ := hds_ok hx hf hs hds h3
    unfold mtH at h2
    split at h2
    · rename_i y yp n b su pos
      simp only [Bool.and_eq_true, decide_eq_true_eq] at h2
      obtain ⟨⟨⟨⟨q1, q2⟩, q3⟩, q4⟩, q5⟩ := h2
      rw [h1] at q4 q5
      cases n with
      | some _ => simp at q4
      | none => exact ⟨_, .cons (nmX_ok hx.stc q1 q2 q3) (fun a oe cls d pn hz hv => suite_ok hx hf q5 a oe cls d pn hz hv) p1, .cons (hx.stc.xcl _ _ q1).2.2 h1 p2⟩
    · cases h2
theorem hd_run {X : Cx} {E : XK} (hx : XC G T M F cl k X (fun _ => E)) {D : Ends} {c : Nat} {fs : List (Nat × Vl)} {w : Wd} {h : Hv} {st : Lo} {σ : L2.St} {cls : Value} {d : Option Addr} (S : Sim G w h) (L : Lcl G w st σ) (eo : ExOk G w c fs cls d) :
    ∀ (hs : List Hd) (l : List (Value × (Addr → Value → Option Addr → TS))), HdR G T M X hs l → PostW G w (hdR T c fs st h hs) (PS' G D) E → wMany X.K (fun cls d _ H => E cls d H) D l cls d σ w.H
  | _, _, .nil, p => p w cls d (.refl w) S eo
  | _, _, .cons (d := e) hc hn r, p => by
    unfold hdR at p
    split at p
    · rename_i hi
      obtain ⟨rfl, eo2⟩ := eo
      refine ⟨T.sub c e.c, by rw [hx.K]; exact (hx.stc.xsub c e.c hi.1 hi.2).1, fun hb a ha => ?_, fun hb => ?_⟩
      · rw [hb, hn] at p
        refine ⟨c, fs, rfl, hi.1, (fun i z => by cases z), w, h, st, rfl, S, L, ⟨rfl, eo2⟩, ?_⟩
        have p : PostW G w (suU T c fs e.su st h) (PS' G D) E := p
        cases hr : suU T c fs e.su st h with
        | ok f h2 => rw [hr] at p; exact p
        | st => rw [hr] at p; exact p
        | ex c2 fs2 h2 => exact absurd hr (suU_nx T c fs e.su st h c2 fs2 h2)
      · rw [hb] at p
        exact hd_run hx S L ⟨rfl, eo2⟩ _ _ r p
    · exact p.elim
/-- a clause with a name -/
theorem hd_as {X : Cx} {E : XK} (hx : XC G T M F cl k X (fun _ => E)) {D : Ends} {c : Nat} {fs : List (Nat × Vl)} {w : Wd} {h : Hv} {st : Lo} {σ : L2.St} {cls : Value} {d : Option Addr} (S : Sim G w h) (L : Lcl G w st σ) (eo : ExOk G w c fs cls d) {e : Hd} {i : Nat} (hn : e.nm = some i) (hi' : i < X.N.length) (hl : σ.length = X.N.length) (p : PostW G w (hdR T c fs st h [e]) (PS' G D) E) :
    wAs X.K (.ref (G.cA e.c)) i (tsU G T (some i) e.su) (fun cls d _ H => E cls d H) D cls d σ w.H := by
  unfold hdR at p
  split at p
  · rename_i hi
    obtain ⟨rfl, eo2⟩ := eo
    refine ⟨T.sub c e.c, by rw [hx.K]; exact (hx.stc.xsub c e.c hi.1 hi.2).1, fun hb a ha => ?_, fun hb => ?_⟩
    · rw [hb, hn] at p
      refine ⟨c, fs, rfl, hi.1, (fun j z => by cases z; rw [List.getElem?_set_self (by omega)]), w, h, st.set i none, rfl, S, L.off i _, ⟨rfl, eo2⟩, ?_⟩
      have p : PostW G w (offN (some i) (suU T c fs e.su (st.set i none) h)) (PS' G D) E := p
      cases hr : suU T c fs e.su (st.set i none) h with
      | ok f h2 =>
        rw [hr] at p
        intro w' x S'
        cases f with
        | nx s => exact fun τ L2 => p w' x S' _ (L2.none i)
        | rt v => exact p w' x S'
        | bk s => exact fun τ L2 => p w' x S' _ (L2.none i)
        | ct s => exact fun τ L2 => p w' x S' _ (L2.none i)
      | st => rw [hr] at p; exact p
      | ex c2 fs2 h2 => exact absurd hr (suU_nx T c fs e.su _ h c2 fs2 h2)
    · rw [hb] at p
      exact p w _ _ (.refl w) S ⟨rfl, eo2⟩
  · exact p.elim
mutual
theorem mtS_ok (ti : IsT G T M) {X : Cx} {E : XK} (hx : XC G T M F cl k X (fun _ => E)) (hf : FnX X) : ∀ (c : CS) (x : Stmt), mtS M X.N X.env.scope c x = true → PS X x (rdS G (evS T cl c) E)
  | .set (.var i) e, x, hm => by
    simp only [mtS] at hm
    split at hm
    · rename_i y p v pos
      simp only [Bool.and_eq_true, decide_eq_true_eq] at hm
      obtain ⟨⟨⟨q1, q2⟩, q3⟩, q4⟩ := hm
      have gen : ∀ {D : Ends} {σ : L2.St} {H : Hp}, rdS G (evS T cl (.set (.var i) e)) E D σ H → rdE G (evE T cl false e) (fun _ => E) σ H fun x H1 => D.nx (σ.set i (some x)) H1 := fun {D σ H} ⟨w, h, st, eH, S, L, p⟩ => by
        rw [evS] at p
        exact ⟨w, h, st, eH, S, L, PostW.bind p fun v h1 w' x e S' r q => q.ok S' _ ((L.ext e).set i r)⟩
      by_cases hc : ∃ a b c d, v = .ListComp a b c d
      · obtain ⟨el, gs, scope, lp, rfl⟩ := hc
        cases e with
        | lc fz own tg it c e =>
          simp only [mtE] at q4
          split at q4
          · rename_i el tx ix fs scope pos heq
            cases heq
            simp only [Bool.and_eq_true] at q4
            obtain ⟨⟨⟨⟨⟨⟨⟨z1, z2⟩, z3⟩, z4⟩, z5⟩, z6⟩, z7⟩, z8⟩ := q4
            have hi := mtI_ok ti it hx tg tx ix (mtT_shape z4) z6
            simp only [swapOk, Bool.and_eq_true, Bool.not_eq_true'] at q3
            have hyl : X.env.scope.names.lookup y = some .local := by
              have := q3.1.1
              unfold isLc at this
              split at this
              · assumption
              · cases this
            refine ⟨fun pins s σ H D I q => ?_⟩
            have hk : X.env.scope.kind = .function := I.ok.kind
            refine (ps_unl (ps_setLc (i := i) hx.calm hx.nd q1 hyl (sw_true hk hyl q3.1.2 q3.2) hi (blkOk_by z1)
              (fun s H C cs fp => mtT_ok (hx.blk s H scope C cs fp).toXOk hx.nd (fun x h => blk_fn (X := X) s H fp cs C h) tg tx z4)
              (fun s H C cs fp => mtC_ok ti c (hx.blk s H scope C cs fp) fs z7)
              (fun s H C cs fp => (mtE_ok ti e (hx.blk s H scope C cs fp) el z8).1) (folded_ok z5))).run pins s σ H D I ?_
            exact (own_ids X.N own).symm ▸ lcRd (X := X) (Q := fun x H1 => D.nx (σ.set i (some x)) H1) z3 (gen q)
          · cases q4
        | _ => simp [mtE] at q4
      · have nc : noComp v = true := swapOk_comp q3 fun a b c d z => hc ⟨a, b, c, d, z⟩
        refine ps_imp (ps_set hx.nd q1 (isLoc_loc q2) (mtE_ok ti e hx v q4).1 (swaps0 nc) (.inl (hf.fn y))) fun D σ H q => gen q
    · cases hm
  | .set (.tup ts) e, x, hm => by
    simp only [mtS] at hm
    split at hm
    · rename_i es kk p v pos
      simp only [Bool.and_eq_true] at hm
      obtain ⟨⟨⟨q1, q2⟩, q3⟩, q4⟩ := hm
      have ht : mtT X.N X.env.scope X.env.scope (.tup ts) (.Tuple es kk p) = true := by simp only [mtT]; exact q3
      refine ps_imp (ps_asg (mtE_ok ti e hx v q4).1 (mtT_ok hx.toXOk hx.nd (fun x _ => .inl (hf.fn x)) _ _ ht) (swapsS q2) (stores0 q1) rfl) fun D σ H ⟨w, h, st, eH, S, L, p⟩ => ?_
      subst eH
      rw [evS] at p
      refine ⟨w, h, st, rfl, S, L, PostW.bind p fun v h1 w' x e S' r q => ?_⟩
      split at q
      · rename_i s1 hs
        exact ⟨w', h1, st, s1, v, rfl, S', L.ext e, r, hs, fun σ' L' _ => q.ok S' σ' L'⟩
      · exact q.elim
    · cases hm
  | .setA o f e, x, hm => by
    simp only [mtS] at hm
    split at hm
    · rename_i xo n p v pos
      simp only [Bool.and_eq_true, decide_eq_true_eq] at hm
      obtain ⟨⟨q1, q2⟩, q3⟩ := hm
      refine ps_imp (ps_fld (mtE_ok ti o hx _ q2).1 (mtE_ok ti e hx _ q3).1 swapsA) fun D σ H ⟨w, h, st, eH, S, L, p⟩ => ?_
      subst eH
      rw [evS] at p
      refine ⟨w, h, st, rfl, S, L, PostW.bind p fun v h1 w1 y e1 S1 r1 q => ⟨w1, h1, st, rfl, S1, L.ext e1, PostW.bind q fun u h2 w2 x e2 S2 r2 q => ?_⟩⟩
      cases u with
      | ref m =>
        simp only at q
        split at q
        · rename_i c fs hc
          split at q
          · rename_i hz
            cases r2 with
            | @ref _ a hn =>
              obtain ⟨dx, fs', ha, rf⟩ := S2.ok _ _ _ hc hn
              obtain ⟨n', hn', hcl, hna⟩ := hx.stc.fld c f hz.1
              rw [q1] at hn'; cases hn'
              have fnd : G.fN.Nodup := by rw [hx.stc.fN]; exact hx.stc.fnd
              have hfn : G.fN[f]? = some n := by rw [hx.stc.fN]; exact q1
              obtain ⟨S3, e3⟩ := S2.write (c' := .obj c (Core.putF f v fs)) (H' := upd w2.H a (.ins (G.cA c) dx (L2.putF n y fs'))) hn hc rfl (fun z => nomatch z) (fun b u hb e => by show upd w2.H a _ b = _; rw [upd_ne hb]; exact e) fun x3 => ⟨dx, _, upd_same, (rf.put fnd hfn (r1.ext e2)).ext x3⟩
              exact ⟨a, _, dx, fs', rfl, ha, hx.K ▸ hcl, hx.K ▸ hna, by rw [← rf.length]; exact hz.2, (q.ext e3).ok S3 σ (((L.ext e1).ext e2).ext e3)⟩
          · exact q.elim
        · exact q.elim
      | _ => exact q.elim
    · cases hm
  | .setI o i e, x, hm => by
    simp only [mtS] at hm
    split at hm
    · rename_i xo xi p v pos
      simp only [Bool.and_eq_true] at hm
      obtain ⟨⟨⟨⟨q1, q2⟩, q3⟩, q4⟩, q5⟩ := hm
      refine ps_imp (ps_asg (mtE_ok ti e hx v q5).1 (pg_sub (mtE_ok ti o hx _ q3).1 (mtE_ok ti i hx _ q4).1 (setD_ok hx (E1 := E)) (assignS q1)) (swapsS q2) storesS rfl) fun D σ H ⟨w, h, st, eH, S, L, p⟩ => ?_
      subst eH
      rw [evS] at p
      refine ⟨w, h, st, rfl, S, L, PostW.bind p fun v h1 w1 x e1 S1 r1 q => ⟨w1, h1, st, rfl, S1, L.ext e1, PostW.bind q fun o h2 w2 y e2 S2 r2 q => ⟨w2, h2, st, rfl, S2, (L.ext e1).ext e2, PostW.bind q fun i h3 w3 z e3 S3 r3 q =>
        ⟨w3, h3, o, i, v, rfl, S3, r2.ext e3, r3, r1.ext (e2.trans e3), PostW.bind q fun _ h4 w4 _ e4 S4 _ q => q.ok S4 σ ((((L.ext e1).ext e2).ext e3).ext e4)⟩⟩⟩⟩
    · cases hm
  | .aug i op e, x, hm => by
    simp only [mtS] at hm
    split at hm
    · rename_i y p o v pos
      simp only [Bool.and_eq_true, decide_eq_true_eq] at hm
      obtain ⟨⟨⟨⟨q1, q2⟩, q3⟩, q4⟩, q5⟩ := hm
      cases opB_eq q3
      refine ps_imp (ps_aug hx.nd q1 (isLoc_loc q2) (mtE_ok ti e hx v q5).1 (augD_ok hx (E1 := E) op (aug_op q4)) (.inl (hf.fn y))) fun D σ H ⟨w, h, st, eH, S, L, p⟩ => ?_
      subst eH
      rw [evS] at p
      split at p
      · rename_i v0 hv
        obtain ⟨x0, hx0, r0⟩ := L.2 i v0 hv
        refine ⟨x0, hx0, w, h, st, rfl, S, L, PostW.bind (show PostW G w ((evE T cl false e st h).bind fun y h => (augD T cl op v0 y h).bind fun z h => .ok (.nx (st.set i (some z))) h) (PS' G D) E from p) fun u h1 w1 x e1 S1 r1 q => ⟨w1, h1, v0, u, rfl, S1, r0.ext e1, r1, PostW.bind q fun z h2 w2 y e2 S2 r2 q => q.ok S2 _ (((L.ext e1).ext e2).set i r2)⟩⟩
      · exact p.elim
    · cases hm
  | .ret e, x, hm => by
    simp only [mtS] at hm
    split at hm
    · refine ps_imp (ps_ret (mtE_ok ti e hx _ hm).1) fun D σ H ⟨w, h, st, eH, S, L, p⟩ => ?_
      subst eH
      rw [evS] at p
      exact ⟨w, h, st, rfl, S, L, PostW.bind p fun v h1 w1 x e1 S1 r1 q => q.ok S1 x r1⟩
    · cases hm
  | .retN, x, hm => by
    simp only [mtS] at hm
    split at hm
    · refine ps_imp ps_retN fun D σ H ⟨w, h, st, eH, S, L, p⟩ => ?_
      subst eH
      rw [evS] at p
      exact p.ok S _ .non
    · cases hm
  | .ife c a b, x, hm => by
    simp only [mtS] at hm
    split at hm
    · simp only [Bool.and_eq_true] at hm
      refine ps_imp (ps_if (mtE_ok ti c hx _ hm.1.1).2 (mtSs_ok ti hx hf a _ hm.1.2) (mtSs_ok ti hx hf b _ hm.2)) fun D σ H ⟨w, h, st, eH, S, L, p⟩ => ?_
      subst eH
      rw [evS] at p
      refine ⟨w, h, st, rfl, S, L, PostW.bind p fun v h1 w1 x e1 S1 r1 q => ?_⟩
      cases v with
      | bl b =>
        cases b with
        | true => exact ⟨true, r1.bl', w1, h1, st, rfl, S1, L.ext e1, q⟩
        | false => exact ⟨false, r1.bl', w1, h1, st, rfl, S1, L.ext e1, q⟩
      | _ => exact q.elim
    · cases hm
  | .for_ t it b, x, hm => by
    simp only [mtS] at hm
    split at hm
    · rename_i tx ix body pos
      simp only [Bool.and_eq_true] at hm
      obtain ⟨⟨⟨q1, q2⟩, q3⟩, q4⟩ := hm
      refine ps_imp (ps_unl (ps_for hx.po hx.calm (mtI_ok ti it hx t tx ix (mtT_shape q2) q3) (mtT_ok hx.toXOk hx.nd (fun x _ => .inl (hf.fn x)) t tx q2) (mtSs_ok ti hx hf b body q4) (folded_ok q1))) fun D σ H ⟨w, h, st, eH, S, L, p⟩ => ?_
      subst eH
      rw [evS] at p
      exact ⟨w, h, st, rfl, S, L, PostW.bindW p fun kk h1 w' e1 S1 q J w2 itk => for_ok S1 itk (L.ext e1) q⟩
    · cases hm
  | .while_ c b, x, hm => by
    simp only [mtS] at hm
    split at hm
    · simp only [Bool.and_eq_true] at hm
      refine ps_imp (ps_while hx.po (mtE_ok ti c hx _ hm.1).2 (mtSs_ok ti hx hf b _ hm.2)) fun D σ H ⟨w, h, st, eH, S, L, p⟩ => ?_
      subst eH
      rw [evS] at p
      exact while_rd (X := X) S L p
    · cases hm
  | .expr e, x, hm => by
    simp only [mtS] at hm
    split at hm
    · simp only [Bool.and_eq_true] at hm
      refine ps_imp (ps_expr (mtE_ok ti e hx _ hm.2).1 (swaps0 hm.1)) fun D σ H ⟨w, h, st, eH, S, L, p⟩ => ?_
      subst eH
      rw [evS] at p
      exact ⟨w, h, st, rfl, S, L, PostW.bind p fun v h1 w1 x e1 S1 r1 q => q.ok S1 σ (L.ext e1)⟩
    · cases hm
  | .pass, x, hm => by
    simp only [mtS] at hm
    split at hm
    · exact ps_imp ps_pass fun D σ H ⟨w, h, st, eH, S, L, p⟩ => by subst eH; rw [evS] at p; exact p.ok S σ L
    · exact ps_imp ps_doc fun D σ H ⟨w, h, st, eH, S, L, p⟩ => by subst eH; rw [evS] at p; exact p.ok S σ L
    · cases hm
  | .brk, x, hm => by
    simp only [mtS] at hm
    split at hm
    · exact ps_imp ps_break fun D σ H ⟨w, h, st, eH, S, L, p⟩ => by subst eH; rw [evS] at p; exact p.ok S σ L
    · cases hm
  | .cont, x, hm => by
    simp only [mtS] at hm
    split at hm
    · exact ps_imp ps_continue fun D σ H ⟨w, h, st, eH, S, L, p⟩ => by subst eH; rw [evS] at p; exact p.ok S σ L
    · cases hm
  | .never, x, hm => ⟨fun pins s σ H D I ⟨w, h, st, eH, S, L, p⟩ => by rw [evS] at p; exact p.elim⟩
  | .raise_ c, x, hm => by
    simp only [mtS] at hm
    split at hm
    · rename_i y yp m j mp cp pos
      simp only [Bool.and_eq_true, decide_eq_true_eq] at hm
      obtain ⟨⟨q1, q2⟩, q3⟩ := hm
      by_cases hc : T.xc c = true
      · obtain ⟨g1, g2, g3⟩ := hx.stc.xcl c y q1
        obtain ⟨_, z2⟩ := hx.stc.xex c hc
        have xk := hx.stc.xok c g3
        refine ps_imp (ps_raise hx.calm hx.tk (pmk_own PySem.F.excBase_ValueError (by rw [hx.K]; exact z2) g1 (by rw [hx.K]; exact g2) (raises_own (by rw [hx.K]; exact xk.sb) (by rw [hx.K]; exact xk.ty)) (isGl_gl q2) (okN_ok q3).1)) fun D σ H ⟨w, h, st, eH, S, L, p⟩ => ?_
        subst eH
        rw [evS, if_pos hc] at p
        exact p w _ _ (.refl w) S ⟨rfl, .inl ⟨rfl, rfl⟩⟩
      · refine ⟨fun pins s σ H D I ⟨w, h, st, eH, S, L, p⟩ => ?_⟩
        rw [evS, if_neg hc] at p
        exact p.elim
    · cases hm
  | .try_ b hs, x, hm => by
    simp only [mtS] at hm
    split at hm
    · rename_i body hds pos
      simp only [Bool.and_eq_true] at hm
      obtain ⟨⟨m1, m2⟩, m3⟩ := hm
      -- the body
      have bodyOk : ∀ (W : WX) (pn : List (Addr × Obj)) (xe : Value → Shared → Prop), L2.Takes (X.tr pn xe) W → PassesOwn (model X.prog X.w) X.A X.env xe → PSs (X.tr pn xe) body (rdTy G (asgSs b) (evSs T cl b) (fun σ cls d H => ∀ τ, Agr (asgSs b) σ τ → W cls d τ H)) := fun W pn xe tk po => by
        refine mtBs_ok (X := X.tr pn xe) (F := F) (k := k) ti (asgSs b) (fun σ σ' g => ?_) ?_ hf.fn b body m1 (fun i hi => hi) m2
        · funext cls d H
          exact propext ⟨fun q τ t => q τ (g.trans t), fun q τ t => q τ ((Agr.trans ⟨g.1.symm, fun i hi => (g.2 i hi).symm⟩ t))⟩
        · exact {
            K := hx.K
            calm := hx.calm
            un := hx.un
            nd := hx.nd
            stc := hx.stc
            clok := hx.clok
            fnok := hx.fnok
            room := hx.room
            tk := tk.imp fun c d σ H q => q σ (Agr.refl _ _)
            po := po }
      have thru : ∀ {D : Ends} {σ : L2.St} {w : Wd} {h : Hv} {st : Lo} {W : WX}, Lcl G w st σ → PostW G w (evS T cl (.try_ b hs) st h) (PS' G D) E →
          (∀ c fs h1 w' cls od τ, Ext w w' → Sim G w' h1 → ExOk G w' c fs cls od → Lcl G w' (wipeL st (asgSs b)) τ → τ.length = σ.length → PostW G w' (hdR T c fs (wipeL st (asgSs b)) h1 hs) (PS' G D) E → W cls od τ w'.H) →
          PostW G w (evSs T cl b st h) (PSB G (asgSs b) D σ) (fun cls d H => ∀ τ, Agr (asgSs b) σ τ → W cls d τ H) := fun {D σ w h st W} L p kx => by
        rw [evS] at p
        cases hr : evSs T cl b st h with
        | st => rw [hr] at p; exact p
        | ok f h1 =>
          rw [hr] at p
          intro w' x S'
          cases f with
          | nx s => exact fun τ _ L' => p w' x S' τ L'
          | rt v => exact p w' x S'
          | bk s => exact fun τ _ L' => p w' x S' τ L'
          | ct s => exact fun τ _ L' => p w' x S' τ L'
        | ex c fs h1 =>
          rw [hr] at p
          exact fun w' cls od x S' eo τ g => kx c fs h1 w' cls od τ x S' eo ((L.ext x).agr g) g.1.symm (PostW.ext (show PostW G w (hdR T c fs (wipeL st (asgSs b)) h1 hs) (PS' G D) E from p) x)
      have many : mtHs M X.N X.env.scope hs hds = true → hs ≠ [] → PS X (.Try body hds [] [] pos) (rdS G (evS T cl (.try_ b hs)) E) := fun mh ne => by
        obtain ⟨l, p1, p2⟩ := hds_ok hx hf hs hds mh
        cases hds with
        | nil => cases hs with
          | nil => exact absurd rfl ne
          | cons _ _ => simp [mtHs] at mh
        | cons h0 hds =>
          refine ps_imp (ps_try_many hf.stk hf.frm hx.tk bodyOk p1) fun D σ H ⟨w, h, st, eH, S, L, p⟩ => ?_
          subst eH
          exact ⟨w, h, st, rfl, S, L, thru L p fun c fs h1 w' cls od τ x S' eo L' _ q => hd_run hx S' L' eo hs l p2 q⟩
      split at m3
      · rename_i d x0
        cases hn : d.nm with
        | none => exact many (by simp [mtHs, hn, m3]) (by simp)
        | some i =>
          unfold mtH at m3
          split at m3
          · rename_i y yp n b0 su hp
            simp only [Bool.and_eq_true, decide_eq_true_eq] at m3
            obtain ⟨⟨⟨⟨q1, q2⟩, q3⟩, q4⟩, q5⟩ := m3
            rw [hn] at q4 q5
            cases n with
            | none => simp at q4
            | some z =>
              simp only [Bool.and_eq_true, decide_eq_true_eq] at q4
              have hlc : X.env.kindOf z = some .local := by
                have := q4.2
                unfold isLc at this
                split at this
                · rename_i e; exact e
                · cases this
              refine ⟨fun pins s σ H D I ⟨w, h, st, eH, S, L, p⟩ => ?_⟩
              subst eH
              refine (ps_try_as (i := i) hf.stk hf.frm hx.nd q4.1 hlc (nmX_ok hx.stc q1 q2 q3) hx.tk bodyOk (fun a oe cls d' pn hz hv => suite_ok (iv := some i) hx hf q5 a oe cls d' pn hz hv)).run pins s σ w.H D I ?_
              exact ⟨w, h, st, rfl, S, L, thru L p fun c fs h1 w' cls od τ x S' eo L' hl q => hd_as hx S' L' eo hn (List.getElem?_eq_some_iff.mp q4.1).1 (hl.trans I.len) q⟩
          · cases m3
      · simp only [Bool.and_eq_true, Bool.not_eq_true', List.isEmpty_eq_false_iff] at m3
        exact many m3.2 m3.1
    · cases hm
theorem mtSs_ok (ti : IsT G T M) {X : Cx} {E : XK} (hx : XC G T M F cl k X (fun _ => E)) (hf : FnX X) : ∀ (c : CSs) (x : List Stmt), mtSs M X.N X.env.scope c x = true → PSs X x (rdS G (evSs T cl c) E)
  | .nil, x, hm => by
    cases x with
    | nil => exact pss_imp pss_nil fun D σ H ⟨w, h, st, eH, S, L, p⟩ => by subst eH; rw [evSs] at p; exact p.ok S σ L
    | cons _ _ => simp [mtSs] at hm
  | .cons a r, x, hm => by
    cases x with
    | nil => simp [mtSs] at hm
    | cons y ys =>
      simp only [mtSs, Bool.and_eq_true] at hm
      refine pss_imp (pss_cons (mtS_ok ti hx hf a y hm.1) (mtSs_ok ti hx hf r ys hm.2)) fun D σ H ⟨w, h, st, eH, S, L, p⟩ => ?_
      subst eH
      rw [evSs] at p
      refine ⟨w, h, st, rfl, S, L, ?_⟩
      revert p
      cases evS T cl a st h with
      | st => exact fun p => p
      | ex c fs h1 => exact fun p => p
      | ok f h1 =>
        intro p w' e S'
        cases f with
        | nx s1 => exact fun σ' L' => ⟨w', h1, s1, rfl, S', L', PostW.ext (show PostW G w (evSs T cl r s1 h1) (PS' G D) E from p) e⟩
        | rt v => exact p w' e S'
        | bk s1 => exact p w' e S'
        | ct s1 => exact p w' e S'
end
end
end Core
end

section
set_option Elab.async false
set_option linter.all false
set_option maxRecDepth 100000
set_option maxHeartbeats 4000000
set_option autoImplicit false
/-! Core15: every function keeps what its term says. -/
namespace Core
open PySem L2 PyProof.Rows

/-- a def stands as its term -/
def DfOk (G : Gs) (M : Nm) (F : Fcts) (f : Nat) (d : FDef) : Prop := ∃ (x qual : Str) (params : Arguments) (body : List Stmt) (scope : Scope) (dvs : List V) (kws : List (Str × V)) (N : List Str),
  FunD G.K x qual params body scope dvs kws (F.fA f) (F.fD f) ∧ FnScope N (F.ps f) scope ∧ mtSs M N scope d.body body = true ∧ N.length = d.nl
theorem start_lcl {G : Gs} {w : Wd} {args : List Vl} {vs : List V} {N : List Str} {nl : Nat} (r : RVs G w args vs) (h : N.length = nl) : Lcl G w (startL nl args) (L2.start N vs) := by
  have hl := r.length
  refine ⟨by simp [startL, L2.start, hl, h], fun i v e => ?_⟩
  unfold startL at e
  unfold L2.start
  by_cases hi : i < args.length
  · rw [List.getElem?_append_left (by simpa using hi)] at e
    rw [List.getElem?_append_left (by simpa [← hl] using hi)]
    rw [List.getElem?_map] at e
    obtain ⟨u, hu, hv⟩ := Option.map_eq_some_iff.mp e
    cases hv
    obtain ⟨x, hx, rx⟩ := r.get hu
    exact ⟨x, by simp [hx], rx⟩
  · rw [List.getElem?_append_right (by simpa using hi)] at e
    have := List.mem_of_getElem? e
    simp at this
theorem fnok_all {P : Program} {w : World} {G : Gs} {mg : Str → Option Value} {base : Heap} {T : Tab} {M : Nm} {F : Fcts} (stc : Stc G mg T M F) (ti : IsT G T M) (df : ∀ f d, T.defs f = some d → DfOk G M F f d) :
    ∀ (n f : Nat) (d : FDef), T.defs f = some d → FnOk P w G.K mg base (L2.CX P w) (4 * n) (F.fA f) (F.fD f) (F.ps f) (spOf G T (callN T n) f)
  | 0, f, d, hd => ⟨fun vs H Q E ⟨_, _, _, _, _, _, _, p⟩ => p.elim, fun A outer s H args us vs Q E hr e0 hb r ⟨_, _, _, _, _, _, _, p⟩ => p.elim⟩
  | n + 1, f, d, hd => by
    obtain ⟨x, qual, params, body, scope, dvs, kws, N, FD, FS, hm, hN⟩ := df f d hd
    have hps := (stc.dfl f d hd).1
    refine FunD.ok (k := 4 * n + 3) FD FS (fun vs H Q E ⟨w1, h1, args, e1, S1, ⟨d', hd', ha⟩, ra, p⟩ => ?_) fun cdv A outer s H vs Q E hr hsp => ?_
    · rw [hd] at hd'; cases hd'
      rw [← ra.length, ha, hps]
    · obtain ⟨w1, h1, args, e1, S1, ⟨d', hd', ha⟩, ra, p⟩ := hsp
      rw [hd] at hd'; cases hd'
      subst e1
      refine ⟨rdS G (evSs T (callN T n) d.body) E, mtSs_ok (G := G) (T := T) (M := M) (F := F) (cl := callN T n) (k := 4 * n) ti ?_ ⟨fun _ => rfl, rfl, rfl⟩ d.body body hm, w1, h1, startL d.nl args, rfl, S1, start_lcl ra hN, ?_⟩
      · exact {
          K := rfl
          calm := rfl
          un := by have := hr.un; show (A.deeper (envOfC qual scope s.heap.objs.size (F.fA f) cdv)).units + 100 < cLine; omega
          nd := FS.nd
          stc := stc
          clok := clOk_callN T n
          fnok := fun g d' hd' => fnok_all stc ti df n g d' hd'
          room := hr
          tk := takes_of rfl rfl rfl rfl
          po := passes_of rfl }
      · have hc : ¬ (args.length + d.dfl.length < d.np ∨ d.np < args.length) := by omega
        simp only [callN, hd, if_neg hc] at p
        replace p := post_fin S1 p
        rw [show d.dfl.drop (d.dfl.length + args.length - d.np) = [] from by rw [ha]; simp, List.append_nil] at p
        revert p
        cases evSs T (callN T n) d.body (startL d.nl args) h1 with
        | st => exact fun p => p
        | ex c fs h2 => exact fun p => p
        | ok g h2 =>
          intro p w' e S'
          cases g with
          | nx s1 => exact fun σ L => (show Post G w1 (.ok .non h2) Q E from p) w' .non e S' .non
          | rt v => exact fun x r => p w' x e S' r
          | bk s1 => exact p.elim
          | ct s1 => exact p.elim
end Core
end

section
set_option Elab.async false
set_option linter.all false
set_option maxRecDepth 100000
set_option maxHeartbeats 4000000
set_option autoImplicit false
/-! Core16: a law's tables; what the written part must say of them; the hook. -/
namespace Core
open PySem L2 PyProof.Rows

structure Ent where
  id : Nat
  D : He.DefD
  d : FDef
  ps : List Str
  N : List Str
structure Lw where
  fns : List Ent
  cls : List Str
  mN : List Str
  fN : List Str
  gl : List (Nat × Str)
  ms : List (Nat × Nat × Nat)
  sps : List (Nat × SM × Nat)
  fls : List (Nat × Nat)
  wl : Nat
  xcl : List (Str × Bool × List Nat)
  xfs : List (Nat × Nat)
def Lw.clN (l : Lw) (c : Nat) : Option Str := match l.cls[c]? with
  | some x => if x = ⟨#[]⟩ then none else some x
  | none => none
theorem Lw.clN_at {l : Lw} {c : Nat} {x : Str} (h : l.clN c = some x) : l.cls[c]? = some x := by
  unfold Lw.clN at h
  split at h
  · split at h
    · cases h
    · cases h; assumption
  · cases h
def Lw.ent (l : Lw) (f : Nat) : Option Ent := l.fns.find? fun e => decide (e.id = f)
def Lw.T (l : Lw) : Tab where
  defs := fun f => (l.ent f).map (·.d)
  meth := fun c m => (l.ms.find? fun x => decide (x.1 = c) && decide (x.2.1 = m)).map (·.2.2)
  sp := fun c m => (l.sps.find? fun x => decide (x.1 = c) && decide (x.2.1 = m)).map (·.2.2)
  fld := fun c f => decide ((c, f) ∈ l.fls)
  isC := fun c => (l.clN c).isSome
  wl := l.wl
  isX := fun c => decide (100 ≤ c) && decide (c < 100 + l.xcl.length)
  xc := fun c => decide (100 ≤ c) && ((l.xcl[c - 100]?).map (·.2.1)).getD false
  sub := fun c d => decide (d ∈ ((l.xcl[c - 100]?).map (·.2.2)).getD [])
  xf := fun c f => decide ((c, f) ∈ l.xfs)
def Lw.M (l : Lw) : Nm where
  fnN := fun f => (l.gl.find? fun x => decide (x.1 = f)).map (·.2)
  clN := l.clN
  xN := fun c => if 100 ≤ c then (l.xcl[c - 100]?).map (·.1) else none
  mN := l.mN
  fN := l.fN
section
variable (l : Lw) (K : PySem.W.Frag)
def Lw.cA (c : Nat) : Addr := He.ga K (if c < 100 then l.cls.getD c ⟨#[]⟩ else (l.xcl.map (·.1)).getD (c - 100) ⟨#[]⟩)
def Lw.fA (f : Nat) : Addr := match l.ent f with
  | some e => He.fAd K e.D.at_
  | none => 0
def eqOB (a b : Option (Option Value)) : Bool := decide (a = b)
theorem eqOB_ok {a b : Option (Option Value)} (h : eqOB a b = true) : a = b := of_decide_eq_true h
def clsB (C : Addr) : Bool := PySem.W.plainGet K C Str.empty && PySem.W.hasDictIn K C && PySem.W.plainOver K C && eqOB (PySem.W.findIn K (.ref C) "__setattr__") (some (some (.builtin "object.__setattr__")))
theorem clsB_ok {K : PySem.W.Frag} {C : Addr} (h : clsB K C = true) : Cls K C := by
  simp only [clsB, Bool.and_eq_true] at h
  exact ⟨h.1.1.1, h.1.1.2, h.1.2, eqOB_ok h.2⟩
def fndB (C f : Addr) (m : Str) : Bool := PySem.W.isFn K (.ref f) && eqOB (PySem.W.findIn K (.ref C) m) (some (some (.ref f)))
def spB (C f : Addr) : SM → Bool
  | .init => PySem.W.makesIn K C && fndB K C f "__init__" && PySem.W.keepIn K (.ref C)
  | .len => fndB K C f "__len__"
  | .getitem => fndB K C f "__getitem__" && PySem.W.fnIn K f
  | .setitem => fndB K C f "__setitem__" && PySem.W.noSeq K C
  | .cmp .in_ => fndB K C f "__contains__"
  | .cmp op => fndB K C f (cmpInfo op.op).2.1
  | .bin op => fndB K C f (PySem.dunder op.op.info.2) && PySem.W.selfFirst K C
  | .iadd => fndB K C f (dunderI Operator.Add.info.2) && PySem.W.selfFirst K C
  | .call => fndB K C f "__call__" && PySem.W.fnIn K f
theorem spB_ok {K : PySem.W.Frag} {C f : Addr} {m : SM} (h : spB K C f m = true) : SpF K C f m := by
  unfold spB at h
  split at h
  · simp only [fndB, Bool.and_eq_true] at h
    exact ⟨h.1.1, eqOB_ok h.1.2.2, h.1.2.1, h.2⟩
  · simp only [fndB, Bool.and_eq_true] at h
    exact ⟨h.1, eqOB_ok h.2⟩
  · simp only [fndB, Bool.and_eq_true] at h
    exact ⟨h.1.1, h.2, eqOB_ok h.1.2⟩
  · simp only [fndB, Bool.and_eq_true] at h
    exact ⟨h.1.1, h.2, eqOB_ok h.1.2⟩
  · simp only [fndB, Bool.and_eq_true] at h
    exact ⟨h.1, eqOB_ok h.2⟩
  · rename_i op hn
    simp only [fndB, Bool.and_eq_true] at h
    cases op <;> first | exact absurd rfl hn | exact ⟨h.1, eqOB_ok h.2⟩
  · simp only [fndB, Bool.and_eq_true] at h
    exact ⟨h.1.1, h.2, eqOB_ok h.1.2⟩
  · simp only [fndB, Bool.and_eq_true] at h
    exact ⟨h.1.1, h.2, eqOB_ok h.1.2⟩
  · simp only [fndB, Bool.and_eq_true] at h
    exact ⟨h.1.1, h.2, eqOB_ok h.1.2⟩
def kitE (a b : Value) (r : Bool) : Bool := decide (PySem.W.kitOne K a b = some r)
def isB (c : Nat) : Bool := clsB K (l.cA K c) && eqOB (PySem.W.findIn K (.ref (l.cA K c)) "__class__") (some (some (.builtin "object.__class__"))) &&
  eqOB (PySem.W.specialIn K (.builtin "object.__class__") "__get__") (some (some (.builtin "getset_descriptor.__get__"))) && decide (PySem.W.takesIn K (.builtin "object.__class__") = some true) && decide (PySem.W.mroIn K (l.cA K c) (.type "object") = some true) &&
  (tyNs.all fun n => kitE K (.ref (l.cA K c)) (.type n) false && kitE K (.type n) (.ref (l.cA K c)) false) && (List.range l.cls.length).all fun d => !l.T.isC d || kitE K (.ref (l.cA K c)) (.ref (l.cA K d)) (decide (c = d))
def firB (c : Nat) : Bool := (tyNs.all fun n => PySem.W.notFirst K (l.cA K c) (.type n)) && (List.range l.cls.length).all fun d => !l.T.isC d || PySem.W.notFirst K (l.cA K c) (.ref (l.cA K d))
def optB {α : Type} [DecidableEq α] (a : Option α) (b : α) : Bool := decide (a = some b)
def xkB (C : Addr) : Bool := (PySem.W.clsIn K C).isSome && eqOB (PySem.W.findIn K (.ref C) "__getattribute__") (some (some (.builtin "BaseException.__getattribute__"))) && eqOB (PySem.W.findIn K (.ref C) "__getattr__") (some none) && optB (PySem.W.subIn K (.ref C) (.type "BaseException")) true &&
  PySem.W.hasDictIn K C && eqOB (PySem.W.findIn K (.ref C) "__class__") (some (some (.builtin "object.__class__"))) && eqOB (PySem.W.specialIn K (.builtin "object.__class__") "__get__") (some (some (.builtin "getset_descriptor.__get__"))) && decide (PySem.W.takesIn K (.builtin "object.__class__") = some true) &&
  optB (PySem.W.mroIn K C (.type "object")) true && optB (PySem.W.typeIn K (.ref C)) (.type "type") && optB (PySem.W.kitOne K (.ref C) (.type "ValueError")) true
theorem xkB_ok {K : PySem.W.Frag} {C : Addr} (h : xkB K C = true) : XcK K C := by
  simp only [xkB, optB, Bool.and_eq_true, decide_eq_true_eq] at h
  obtain ⟨⟨⟨⟨⟨⟨⟨⟨⟨⟨h1, h2⟩, h3⟩, h4⟩, h5⟩, h6⟩, h7⟩, h8⟩, h9⟩, h10⟩, h11⟩ := h
  exact ⟨h1, eqOB_ok h2, eqOB_ok h3, h4, h5, eqOB_ok h6, eqOB_ok h7, h8, h9, h10, h11⟩
/-- a class of exceptions -/
def xclB (i : Nat) : Bool := match l.xcl[i]? with
  | none => true
  | some x => eqOB (PySem.W.nsIn K mainGlobals x.1) (some (some (.ref (l.cA K (100 + i))))) && PySem.W.keepIn K (.ref (l.cA K (100 + i))) && xkB K (l.cA K (100 + i)) && (!x.2.1 || PySem.W.excIn K (l.cA K (100 + i)) veT "ValueError.__new__") &&
    (List.range l.xcl.length).all fun j => optB (PySem.W.exmOne K (.ref (l.cA K (100 + i))) (.ref (l.cA K (100 + j)))) (decide (100 + j ∈ x.2.2)) && optB (PySem.W.kitOne K (.ref (l.cA K (100 + i))) (.ref (l.cA K (100 + j)))) (decide (100 + j ∈ x.2.2))
def binB (x : Nat × SM × Nat) : Bool := match x.2.1 with
  | .bin op => (List.range l.cls.length).all fun d => !l.T.isC d || decide (x.1 = d) || fillsNo K (l.cA K d) op.op.info.2
  | _ => true
def Lw.chkB : Bool :=
  (l.gl.all fun x => eqOB (PySem.W.nsIn K mainGlobals x.2) (some (some (.ref (l.fA K x.1)))) && PySem.W.keepIn K (.ref (l.fA K x.1))) &&
  (l.cls.all fun x => (decide (x = ⟨#[]⟩) || eqOB (PySem.W.nsIn K mainGlobals x) (some (some (.ref (He.ga K x))))) && (decide (x = ⟨#[]⟩) || PySem.W.keepIn K (.ref (He.ga K x)))) &&
  (bltNames.all fun x => eqOB (PySem.W.nsIn K mainGlobals x) (some none)) &&
  (l.fls.all fun x => clsB K (l.cA K x.1) && eqOB (PySem.W.findIn K (.ref (l.cA K x.1)) (l.fN.getD x.2 ⟨#[]⟩)) (some none)) &&
  (l.ms.all fun x => clsB K (l.cA K x.1) && fndB K (l.cA K x.1) (l.fA K x.2.2) (l.mN.getD x.2.1 ⟨#[]⟩) && PySem.W.keepIn K (.ref (l.fA K x.2.2))) &&
  (l.sps.all fun x => spB K (l.cA K x.1) (l.fA K x.2.2) x.2.1) && ((List.range l.cls.length).all fun c => !l.T.isC c || isB l K c) && ((List.range l.cls.length).all fun c => !l.T.isC c || firB l K c) && (l.sps.all fun x => binB l K x) &&
  (eqOB (PySem.W.nsIn K mainGlobals "ValueError") (some none) && ((List.range l.xcl.length).all fun i => xclB l K i) && (l.xfs.all fun x => eqOB (PySem.W.findIn K (.ref (l.cA K x.1)) (l.fN.getD x.2 ⟨#[]⟩)) (some none)))
end
/-- what holds of the tables alone -/
def Lw.stB (l : Lw) : Bool := decide (l.cls.length ≤ 100) && decide l.fN.Nodup && (l.mN.all fun x => decide (x ∉ l.fN)) && (l.fls.all fun x => decide (x.2 < l.fN.length)) && (l.xfs.all fun x => decide (x.2 < l.fN.length) && decide (100 ≤ x.1) && decide (x.1 < 100 + l.xcl.length)) && (l.ms.all fun x => decide (x.2.1 < l.mN.length)) &&
  (l.fns.all fun e => decide (e.ps.length = e.d.np) && decide (e.N.length = e.d.nl) && mtSs l.M e.N e.D.scope e.d.body e.D.body)
def scB (N P : List Str) (sc : Scope) : Bool := (match sc.kind with | .function => true | _ => false) && !sc.isCoroutine && !sc.isGenerator && decide N.Nodup && decide (N.take P.length = P) &&
  (P.all fun x => match sc.names.lookup x with | some .local => true | some .cell => true | _ => false) && sc.names.all fun y => match y.2 with | .free => false | _ => true
theorem scB_ok {N P : List Str} {sc : Scope} (h : scB N P sc = true) : FnScope N P sc := by
  simp only [scB, Bool.and_eq_true, Bool.not_eq_true', decide_eq_true_eq, List.all_eq_true] at h
  obtain ⟨⟨⟨⟨⟨⟨h1, h2⟩, h3⟩, h4⟩, h5⟩, h6⟩, h7⟩ := h
  refine ⟨by split at h1 <;> simp_all, h2, h3, h4, h5, fun x hx => ?_, fun y hy z => ?_⟩
  · have := h6 x hx
    split at this
    · rename_i e; exact .inl e
    · rename_i e; exact .inr e
    · cases this
  · have := h7 y hy
    rw [z] at this; cases this
def BindOk (K : PySem.W.Frag) (e : Ent) : Prop := ∀ (f : Addr) (fd : FuncData), FunD K e.D.name e.D.qual e.D.params e.D.body e.D.scope (e.D.dvs K) (e.D.kws K) f fd → ∀ n, n ≤ e.d.np → e.d.np ≤ n + e.d.dfl.length →
  ∃ ds dvs, Vals dvs ds ∧ Binds K fd e.ps ds ∧ dvs.length + n = e.d.np ∧ ∀ (G : Gs) (w : Wd), RVs G w (e.d.dfl.drop (e.d.dfl.length + n - e.d.np)) dvs
/-! ### the hook -/
def obsL (l : Lw) (K : PySem.W.Frag) : He.AlD := (l.chkB K && l.fns.all (fun e => e.D.ok K), l.fns.map fun e => He.fnW K e.D.at_)
def valL (l : Lw) : He.AlD := (true, l.fns.map fun e => e.D.val)
def obsLG (n : Nat) (l : Lw) (g : Addr → Option Obj) : He.AlD := obsL l (He.frG g (He.asD g n))
def hookL (n : Nat) (l : Lw) : PySem.W.Hook where
  α := He.AlD
  obs := fun s => obsLG n l s.heap.get?
  val := fun _ => valL l
  says := fun _ hp => ∃ Kk : PySem.W.Frag, Kk.In hp ∧ obsL l Kk = valL l
  of := fun _ _ e => ⟨He.frG _ _, He.frG_in, e⟩
  keeps := fun _ _ _ ⟨Kk, hin, cc⟩ kp => ⟨Kk, PySem.W.Frag.In.keeps hin kp, cc⟩
theorem obsLG_eq {n : Nat} {l : Lw} {g : Addr → Option Obj} {s : Shared} (h : ∀ a, g a = s.heap.get? a) : obsLG n l g = (hookL n l).obs s := by
  rw [show g = s.heap.get? from funext h]; rfl
/-- all the facts -/
theorem facts_of {l : Lw} {K : PySem.W.Frag} {h : Heap} {mg : Str → Option Value} (X : K.In h) (Gm : h.Ns mainGlobals mg) (c : obsL l K = valL l) (st : l.stB = true) (sc : ∀ e ∈ l.fns, FnScope e.N e.ps e.D.scope) (bi : ∀ e ∈ l.fns, BindOk K e) (ne : l.fns ≠ []) :
    ∃ F : Fcts, (∀ (f : Nat) (e : Ent), l.ent f = some e → F.fA f = He.fAd K e.D.at_ ∧ F.ps f = e.ps ∧ FunD K e.D.name e.D.qual e.D.params e.D.body e.D.scope (e.D.dvs K) (e.D.kws K) (F.fA f) (F.fD f)) ∧
      Stc ⟨K, l.cA K, l.fN⟩ mg l.T l.M F ∧ IsT ⟨K, l.cA K, l.fN⟩ l.T l.M ∧ ∀ f d, l.T.defs f = some d → DfOk ⟨K, l.cA K, l.fN⟩ l.M F f d := by
  have c1 : (l.chkB K && l.fns.all (fun e => e.D.ok K)) = true := congrArg (fun z : He.AlD => z.1) c
  have c2 : (l.fns.map fun e => He.fnW K e.D.at_) = l.fns.map fun e => e.D.val := congrArg (fun z : He.AlD => z.2) c
  rw [Bool.and_eq_true] at c1
  obtain ⟨c1, c3⟩ := c1
  have c2' : ∀ e ∈ l.fns, He.fnW K e.D.at_ = e.D.val := List.map_inj_left.mp c2
  have fun_ : ∀ (f : Nat) (e : Ent), l.ent f = some e → ∃ fd, FunD K e.D.name e.D.qual e.D.params e.D.body e.D.scope (e.D.dvs K) (e.D.kws K) (He.fAd K e.D.at_) fd := fun f e he => by
    have hm := List.mem_of_find?_eq_some he
    exact He.DefD.funD (c2' e hm) (List.all_eq_true.mp c3 e hm)
  obtain ⟨fd0, -⟩ : ∃ fd : FuncData, True := by
    cases hl : l.fns with
    | nil => exact absurd hl ne
    | cons e r =>
      obtain ⟨fd, _⟩ := fun_ e.id e (by unfold Lw.ent; rw [hl]; simp)
      exact ⟨fd, trivial⟩
  have ch : ∀ f : Nat, ∃ fd : FuncData, ∀ e : Ent, l.ent f = some e → FunD K e.D.name e.D.qual e.D.params e.D.body e.D.scope (e.D.dvs K) (e.D.kws K) (He.fAd K e.D.at_) fd := fun f => by
    cases he : l.ent f with
    | none => exact ⟨fd0, fun e z => by cases z⟩
    | some e =>
      obtain ⟨fd, q⟩ := fun_ f e he
      exact ⟨fd, fun e' z => by cases z; exact q⟩
  obtain ⟨fD, hfD⟩ := Classical.axiomOfChoice ch
  simp only [Lw.chkB, Bool.and_eq_true, List.all_eq_true] at c1
  obtain ⟨⟨⟨⟨⟨⟨⟨⟨⟨k1, k2⟩, k3⟩, k4⟩, k5⟩, k6⟩, k7⟩, k8⟩, k9⟩, ⟨⟨k10, k11⟩, k12⟩⟩ := c1
  simp only [Lw.stB, Bool.and_eq_true, List.all_eq_true, decide_eq_true_eq] at st
  obtain ⟨⟨⟨⟨⟨⟨s0, s1⟩, s2⟩, s3⟩, s6⟩, s4⟩, s5⟩ := st
  have fAe : ∀ (f : Nat) (e : Ent), l.ent f = some e → l.fA K f = He.fAd K e.D.at_ := fun f e he => by unfold Lw.fA; rw [he]
  have cAe : ∀ (c : Nat) (x : Str), l.cls[c]? = some x → l.cA K c = He.ga K x := fun c x hx => by
    have := (List.getElem?_eq_some_iff.mp hx).1
    unfold Lw.cA; rw [if_pos (by omega), List.getD_eq_getElem?_getD, hx]; rfl
  have gN : ∀ (xs : List Str) (i : Nat), i < xs.length → xs[i]? = some (xs.getD i ⟨#[]⟩) := fun xs i hi => by rw [List.getD_eq_getElem?_getD, List.getElem?_eq_getElem hi]; rfl
  have isL : ∀ c, l.T.isC c = true → c < l.cls.length := fun c hc => by
    obtain ⟨x, hx⟩ := Option.isSome_iff_exists.mp (show (l.clN c).isSome = true from hc)
    exact (List.getElem?_eq_some_iff.mp (Lw.clN_at hx)).1
  have orB : ∀ {a b : Bool}, (!a || b) = true → a = true → b = true := fun {a b} h e => by rw [e] at h; exact h
  have isOk : ∀ c, l.T.isC c = true → isB l K c = true := fun c hc => orB (k7 c (List.mem_range.mpr (isL c hc))) hc
  have dn : ∀ (f : Nat) (d : FDef), l.T.defs f = some d → ∃ e, l.ent f = some e ∧ e.d = d := fun f d hd => Option.map_eq_some_iff.mp hd
  have xI : ∀ c, l.T.isX c = true → ∃ (i : Nat) (x : Str × Bool × List Nat), c = 100 + i ∧ i < l.xcl.length ∧ l.xcl[i]? = some x ∧ xclB l K i = true := fun c hc => by
    have hc : (decide (100 ≤ c) && decide (c < 100 + l.xcl.length)) = true := hc
    simp only [Bool.and_eq_true, decide_eq_true_eq] at hc
    have hi : c - 100 < l.xcl.length := by omega
    exact ⟨c - 100, l.xcl[c - 100], by omega, hi, by simp [hi], k11 _ (List.mem_range.mpr hi)⟩
  have xB : ∀ {i : Nat} {x : Str × Bool × List Nat}, l.xcl[i]? = some x → xclB l K i = true → PySem.W.nsIn K mainGlobals x.1 = some (some (.ref (l.cA K (100 + i)))) ∧ PySem.W.keepIn K (.ref (l.cA K (100 + i))) = true ∧ XcK K (l.cA K (100 + i)) ∧ (x.2.1 = true → PySem.W.excIn K (l.cA K (100 + i)) veT "ValueError.__new__" = true) ∧
      ∀ j, j < l.xcl.length → PySem.W.exmOne K (.ref (l.cA K (100 + i))) (.ref (l.cA K (100 + j))) = some (decide (100 + j ∈ x.2.2)) ∧ PySem.W.kitOne K (.ref (l.cA K (100 + i))) (.ref (l.cA K (100 + j))) = some (decide (100 + j ∈ x.2.2)) := fun {i x} hx hb => by
    unfold xclB at hb
    rw [hx] at hb
    simp only [Bool.and_eq_true, List.all_eq_true, Bool.or_eq_true, Bool.not_eq_true', optB, decide_eq_true_eq] at hb
    obtain ⟨⟨⟨⟨b1, b2⟩, b3⟩, b4⟩, b5⟩ := hb
    exact ⟨eqOB_ok b1, b2, xkB_ok b3, fun z => b4.resolve_left (by rw [z]; decide), fun j hj => b5 j (List.mem_range.mpr hj)⟩
  have xNe : ∀ c x, l.M.xN c = some x → ∃ (i : Nat) (y : Str × Bool × List Nat), c = 100 + i ∧ i < l.xcl.length ∧ l.xcl[i]? = some y ∧ y.1 = x := fun c x hx => by
    have hx : (if 100 ≤ c then (l.xcl[c - 100]?).map (·.1) else none) = some x := hx
    split at hx
    · obtain ⟨y, hy, hyx⟩ := Option.map_eq_some_iff.mp hx
      exact ⟨c - 100, y, by omega, (List.getElem?_eq_some_iff.mp hy).1, hy, hyx⟩
    · cases hx
  have isXi : ∀ i, i < l.xcl.length → l.T.isX (100 + i) = true := fun i hi => by
    show (decide (100 ≤ 100 + i) && decide (100 + i < 100 + l.xcl.length)) = true
    simp only [Bool.and_eq_true, decide_eq_true_eq]; omega
  have x1 : ∀ c x, l.M.xN c = some x → mg x = some (.ref (l.cA K c)) ∧ PySem.W.keepIn K (.ref (l.cA K c)) = true ∧ l.T.isX c = true := fun c x hx => by
    obtain ⟨i, y, rfl, hi, hy, rfl⟩ := xNe c x hx
    obtain ⟨b1, b2, _⟩ := xB hy (k11 _ (List.mem_range.mpr hi))
    exact ⟨PySem.W.mg_of X Gm b1, b2, isXi i hi⟩
  have x2 : ∀ c, l.T.isX c = true → XcK K (l.cA K c) := fun c hc => by
    obtain ⟨i, y, rfl, hi, hy, hb⟩ := xI c hc
    exact (xB hy hb).2.2.1
  have x3 : ∀ c, l.T.xc c = true → l.T.isX c = true ∧ PySem.W.excIn K (l.cA K c) veT "ValueError.__new__" = true := fun c hc => by
    have hc : (decide (100 ≤ c) && ((l.xcl[c - 100]?).map (·.2.1)).getD false) = true := hc
    simp only [Bool.and_eq_true, decide_eq_true_eq] at hc
    cases hy : l.xcl[c - 100]? with
    | none => rw [hy] at hc; cases hc.2
    | some y =>
      rw [hy] at hc
      have hi := (List.getElem?_eq_some_iff.mp hy).1
      have e : 100 + (c - 100) = c := by omega
      have hb := xB hy (k11 _ (List.mem_range.mpr hi))
      rw [e] at hb
      exact ⟨by rw [← e]; exact isXi _ hi, hb.2.2.2.1 hc.2⟩
  have x4 : ∀ c d, l.T.isX c = true → l.T.isX d = true → PySem.W.exmOne K (.ref (l.cA K c)) (.ref (l.cA K d)) = some (l.T.sub c d) ∧ PySem.W.kitOne K (.ref (l.cA K c)) (.ref (l.cA K d)) = some (l.T.sub c d) := fun c d hc hd => by
    obtain ⟨i, y, rfl, hi, hy, hb⟩ := xI c hc
    obtain ⟨j, z, rfl, hj, hz, _⟩ := xI d hd
    have e : l.T.sub (100 + i) (100 + j) = decide (100 + j ∈ y.2.2) := by
      show decide (_ ∈ ((l.xcl[100 + i - 100]?).map (·.2.2)).getD []) = _
      rw [show 100 + i - 100 = i by omega, hy]; rfl
    rw [e]
    exact (xB hy hb).2.2.2.2 j hj
  have x5 : ∀ c f, l.T.xf c f = true → ∃ x, l.M.fN[f]? = some x ∧ l.T.isX c = true ∧ PySem.W.findIn K (.ref (l.cA K c)) x = some none := fun c f hf => by
    have hm : (c, f) ∈ l.xfs := by simpa [Lw.T] using hf
    obtain ⟨⟨a1, a2⟩, a3⟩ := s6 _ hm
    refine ⟨_, gN l.fN f a1, ?_, eqOB_ok (k12 _ hm)⟩
    show (decide (100 ≤ c) && decide (c < 100 + l.xcl.length)) = true
    simp only [Bool.and_eq_true, decide_eq_true_eq]; exact ⟨a2, a3⟩
  refine ⟨⟨l.fA K, fD, fun f => match l.ent f with | some e => e.ps | none => []⟩, fun f e he => ⟨fAe f e he, by simp [he], by rw [show (⟨l.fA K, fD, _⟩ : Fcts).fA f = He.fAd K e.D.at_ from fAe f e he]; exact hfD f e he⟩, ⟨rfl, s1, s2, fun f x hx => ?_, fun c x hx => ?_, fun x hx => ?_, fun c f hf => ?_, fun c m f hf => ?_, fun c m f hf => ?_, fun c n hc hn => ?_, fun c d hc hd => ?_, fun c op f d hf hd => ?_, fun f d hd => ?_, x1, x2, x3, x4, x5, PySem.W.mg_none_of X Gm (eqOB_ok k10)⟩, ⟨fun c hc => ?_, fun c t n hc hn => ?_, fun d x n hd hn => ?_, fun c d x hc hd => ?_⟩, fun f d hd => ?_⟩
  · obtain ⟨y, hy, rfl⟩ := Option.map_eq_some_iff.mp hx
    have hm := List.mem_of_find?_eq_some hy
    have he : y.1 = f := by simpa using List.find?_some hy
    obtain ⟨q1, q2⟩ := k1 y hm
    rw [he] at q1 q2
    exact ⟨PySem.W.mg_of X Gm (eqOB_ok q1), q2⟩
  · have hx0 : l.clN c = some x := hx
    have hx := Lw.clN_at hx0
    have xn : x ≠ ⟨#[]⟩ := fun z => by unfold Lw.clN at hx0; rw [hx] at hx0; simp [z] at hx0
    have q := k2 x (List.mem_of_getElem? hx)
    simp only [Bool.and_eq_true, Bool.or_eq_true, decide_eq_true_eq] at q
    obtain ⟨q1, q2⟩ := q
    replace q1 := q1.resolve_left xn
    replace q2 := q2.resolve_left xn
    rw [← cAe c x hx] at q1 q2
    exact ⟨PySem.W.mg_of X Gm (eqOB_ok q1), q2⟩
  · exact PySem.W.mg_none_of X Gm (eqOB_ok (k3 x hx))
  · have hm : (c, f) ∈ l.fls := by simpa [Lw.T] using hf
    obtain ⟨q1, q2⟩ := k4 _ hm
    exact ⟨_, gN l.fN f (s3 _ hm), clsB_ok q1, eqOB_ok q2⟩
  · obtain ⟨y, hy, rfl⟩ := Option.map_eq_some_iff.mp hf
    have hm := List.mem_of_find?_eq_some hy
    have he : y.1 = c ∧ y.2.1 = m := by simpa using List.find?_some hy
    obtain ⟨⟨q1, q2⟩, q3⟩ := k5 y hm
    simp only [fndB, Bool.and_eq_true] at q2
    have hl := s4 y hm
    rw [he.1] at q1 q2
    rw [he.2] at q2 hl
    exact ⟨_, gN l.mN m hl, clsB_ok q1, ⟨eqOB_ok q2.2, q2.1, q3⟩⟩
  · obtain ⟨y, hy, rfl⟩ := Option.map_eq_some_iff.mp hf
    have hm := List.mem_of_find?_eq_some hy
    have he : y.1 = c ∧ y.2.1 = m := by simpa using List.find?_some hy
    have q := k6 y hm
    rw [he.1, he.2] at q
    exact spB_ok q
  · have q := orB (k8 c (List.mem_range.mpr (isL c hc))) hc
    simp only [firB, Bool.and_eq_true, List.all_eq_true] at q
    exact q.1 n hn
  · have q := orB (k8 c (List.mem_range.mpr (isL c hc))) hc
    simp only [firB, Bool.and_eq_true, List.all_eq_true] at q
    exact orB (q.2 d (List.mem_range.mpr (isL d hd))) hd
  · obtain ⟨y, hy, rfl⟩ := Option.map_eq_some_iff.mp hf
    have hm := List.mem_of_find?_eq_some hy
    have he : y.1 = c ∧ y.2.1 = .bin op := by simpa using List.find?_some hy
    have q := k9 y hm
    simp only [binB, he.2, List.all_eq_true] at q
    have q := q d (List.mem_range.mpr (isL d hd))
    rw [he.1] at q
    have hd : l.T.isC d = true := hd
    rw [hd] at q
    simpa using q
  · obtain ⟨e, he, rfl⟩ := dn f d hd
    have hm := List.mem_of_find?_eq_some he
    refine ⟨by simp [he, (s5 e hm).1.1], fun n h1 h2 => ?_⟩
    obtain ⟨ds, dvs, q1, q2, q3, q4⟩ := bi e hm _ _ (hfD f e he) n h1 h2
    exact ⟨ds, dvs, q1, by simpa [he] using q2, q3, fun w => q4 _ w⟩
  · have q := isOk c hc
    simp only [isB, Bool.and_eq_true, decide_eq_true_eq] at q
    exact ⟨clsB_ok q.1.1.1.1.1.1, eqOB_ok q.1.1.1.1.1.2, eqOB_ok q.1.1.1.1.2, q.1.1.1.2, q.1.1.2⟩
  · have q := isOk c hc
    simp only [isB, Bool.and_eq_true, List.all_eq_true] at q
    have hn' : n ∈ tyNs := by cases t <;> cases hn <;> decide
    exact of_decide_eq_true (q.1.2 n hn').1
  · have hd : l.clN d = some x := hd
    have q := isOk d (show (l.clN d).isSome = true by rw [hd]; rfl)
    simp only [isB, Bool.and_eq_true, List.all_eq_true] at q
    exact of_decide_eq_true (q.1.2 n hn).2
  · have q := isOk c hc
    have hd : l.clN d = some x := hd
    have hd' : l.T.isC d = true := (show (l.clN d).isSome = true by rw [hd]; rfl)
    simp only [isB, Bool.and_eq_true, List.all_eq_true] at q
    exact of_decide_eq_true (orB (q.2 d (List.mem_range.mpr (isL d hd'))) hd')
  · obtain ⟨e, he, rfl⟩ := dn f d hd
    have hm := List.mem_of_find?_eq_some he
    obtain ⟨⟨z1, z2⟩, z4⟩ := s5 e hm
    exact ⟨_, _, _, _, _, _, _, e.N, by rw [show (⟨l.fA K, fD, _⟩ : Fcts).fA f = He.fAd K e.D.at_ from fAe f e he]; exact hfD f e he, by simpa [he] using sc e hm, z4, z2⟩
def spL (K : PySem.W.Frag) (m : Nat) : Sp := fun vs H Q _ => ∃ (a : Addr) (ns : List Int), vs = [.ref a] ∧ ns.length ≤ m ∧ SqL K H a (ns.map V.int) ∧ ∀ H', Q (.bl true) H'
/-- the law's function keeps its promise, if its term answers True -/
theorem law_ok {l : Lw} {K : PySem.W.Frag} {P : Program} {w : World} {mg : Str → Option Value} {base : Heap} {F : Fcts} (stc : Stc ⟨K, l.cA K, l.fN⟩ mg l.T l.M F) (ti : IsT ⟨K, l.cA K, l.fN⟩ l.T l.M) (df : ∀ f d, l.T.defs f = some d → DfOk ⟨K, l.cA K, l.fN⟩ l.M F f d)
    {n f : Nat} {e : Ent} (he : l.ent f = some e) (h1 : e.d.np = 1) {m : Nat} (ans : ∀ ns : List Int, ns.length ≤ m → ∃ h, callN l.T n f [.fl (ns.map .int)] [] = .ok (.bl true) h) :
    FnOk P w K mg base (L2.CX P w) (4 * n) (F.fA f) (F.fD f) (F.ps f) (spL K m) := by
  have hd : l.T.defs f = some e.d := by simp [Lw.T, he]
  refine (fnok_all (P := P) (w := w) (base := base) stc ti df n f e.d hd).imp fun vs H Q E ⟨a, ns, hv, hl, hS, hQ⟩ => ?_
  subst hv
  obtain ⟨h, hh⟩ := ans ns hl
  refine ⟨⟨[], fun _ => False, [], H⟩, [], [.fl (ns.map .int)], rfl, ⟨rfl, .nil, fun a ha => (by cases ha), fun a => ⟨fun z => z.elim, fun ⟨n, c, z, _⟩ => (by simp at z)⟩, fun n c a z => (by simp at z)⟩, ⟨e.d, hd, h1.symm⟩, .cons (.fl (vs := ns.map V.int) ?_ ?_) .nil, ?_⟩
  · rcases hS with hS | ⟨o, its, n, q⟩
    · exact .inl ⟨hS, fun z => z.elim id fun z => (by cases z)⟩
    · exact .inr ⟨o, its, n, q⟩
  · induction ns with
    | nil => exact .nil
    | cons i r ih => exact .cons (.int i) (by clear ih hS hh hl; induction r with | nil => exact .nil | cons j r ih => exact .cons (.int j) ih)
  · rw [hh]
    intro w' x e' S' r
    cases r.bl'
    exact hQ _
end Core
namespace Core
open PySem L2 PyProof.Rows
/-- nothing leaves it -/
theorem fnok_to0 {P : Program} {w : World} {K : PySem.W.Frag} {mg : Str → Option Value} {base : Heap} {k : Nat} {f : Addr} {fd : FuncData} {ps : List Str} {sp : Sp} (F : FnOk P w K mg base (L2.CX P w) k f fd ps sp)
    (hE : ∀ vs H Q E E', sp vs H Q E → sp vs H Q E') : FnOk P w K mg base CX0 k f fd ps sp :=
  ⟨F.len, fun A outer s H args us vs Q E hr e0 hb r q => codeAny_mono (F.run A outer s H args us vs Q (fun _ _ _ => False) hr e0 hb r (hE _ _ _ _ _ q)) fun r s' z => by
    cases r with
    | ok fl => cases fl <;> exact z
    | error e => obtain ⟨a, B, H', cls, d, _, _, _, _, _, _, _, hF⟩ := z; exact hF.elim⟩
end Core
end

section
set_option Elab.async false
set_option linter.all false
set_option maxRecDepth 100000
set_option maxHeartbeats 4000000
set_option autoImplicit false
/-! E1: ints of few bits. -/
namespace Core
open PySem L2
theorem nb_lt {i : Int} {k : Nat} (h : natBits i ≤ k) : i.natAbs < 2 ^ (k + 1) := Nat.lt_of_lt_of_le (bits_lt i) (Nat.pow_le_pow_right (by decide) (by omega))
theorem nb_le {i : Int} {k : Nat} (h : i.natAbs < 2 ^ (k + 1)) : natBits i ≤ k := by
  unfold natBits
  by_cases z : i.natAbs = 0
  · rw [z]; exact Nat.zero_le _
  · have := (Nat.log2_lt z).mpr h
    omega
theorem nb_mul {i j : Int} {a b : Nat} (h : natBits i ≤ a) (g : natBits j ≤ b) : natBits (i * j) ≤ a + b + 1 := by
  apply nb_le
  rw [Int.natAbs_mul]
  have : 2 ^ (a + b + 1 + 1) = 2 ^ (a + 1) * 2 ^ (b + 1) := by rw [← Nat.pow_add]; congr 1; omega
  rw [this]
  exact Nat.mul_lt_mul'' (nb_lt h) (nb_lt g)
theorem nb_add {i j : Int} {a : Nat} (h : natBits i ≤ a) (g : natBits j ≤ a) : natBits (i + j) ≤ a + 1 := by
  apply nb_le
  have h1 := nb_lt h
  have h2 := nb_lt g
  have : 2 ^ (a + 1 + 1) = 2 * 2 ^ (a + 1) := by rw [Nat.pow_succ]; omega
  have := Int.natAbs_add_le i j
  omega
theorem nb_div {i j : Int} {a : Nat} (h : natBits i ≤ a) : natBits (i / j) ≤ a :=
  nb_le (Nat.lt_of_le_of_lt (Int.natAbs_ediv_le_natAbs i j) (nb_lt h))
theorem nb_mod {i j : Int} {a : Nat} (hj : 0 < j) (h : natBits j ≤ a) : natBits (i % j) ≤ a := by
  apply nb_le
  have h1 := Int.emod_nonneg i (Int.ne_of_gt hj)
  have h2 := Int.emod_lt_of_pos i hj
  have := nb_lt h
  omega
theorem nb_ten (n : Nat) : natBits ((10 : Int) ^ n) ≤ 4 * n := by
  apply nb_le
  rw [Int.natAbs_pow]
  have : (10 : Int).natAbs ^ n ≤ 2 ^ (4 * n) := by
    rw [Nat.pow_mul]
    exact Nat.pow_le_pow_left (by decide) n
  exact Nat.lt_of_le_of_lt this (Nat.pow_lt_pow_right (by decide) (by omega))
section
variable {T : Tab} {cl : Cl} {s : Lo} {h : Hv} {e f : CE} {fz : Bool}
/-- an int of at most k + 1 bits, the heap as it was -/
def Sm (T : Tab) (cl : Cl) (s : Lo) (h : Hv) (e : CE) (k : Nat) : Prop := ∃ i : Int, evE T cl false e s h = .ok (.int i) h ∧ natBits i ≤ k
/-- .. above 0 -/
def Sp' (T : Tab) (cl : Cl) (s : Lo) (h : Hv) (e : CE) (k : Nat) : Prop := ∃ i : Int, evE T cl false e s h = .ok (.int i) h ∧ 0 < i ∧ natBits i ≤ k
theorem sm_var {x : Nat} {i : Int} {k : Nat} (hx : s[x]? = some (some (.int i))) (hk : natBits i ≤ k) : Sm T cl s h (.var x) k := ⟨i, by simp [evE, tw, hx], hk⟩
theorem sm_int {i : Int} {k : Nat} (hk : natBits i ≤ k) : Sm T cl s h (.int i) k := ⟨i, by simp [evE, tw], hk⟩
theorem Sm.up {k l : Nat} (a : Sm T cl s h e k) (hl : k ≤ l) : Sm T cl s h e l := let ⟨i, h1, h2⟩ := a; ⟨i, h1, Nat.le_trans h2 hl⟩
theorem ev_bin {op : BOp} {i j : Int} (a : evE T cl false e s h = .ok (.int i) h) (b : evE T cl false f s h = .ok (.int j) h) : evE T cl false (.bin op fz e f) s h = binF op fz (.int i) (.int j) h := by
  simp [evE, tw, a, b, Res.bind, binD, asO]
theorem sm_add {k : Nat} (a : Sm T cl s h e k) (b : Sm T cl s h f k) : Sm T cl s h (.bin .add fz e f) (k + 1) := by
  obtain ⟨i, h1, h2⟩ := a
  obtain ⟨j, h3, h4⟩ := b
  exact ⟨i + j, by rw [ev_bin h1 h3]; rfl, nb_add h2 h4⟩
theorem sm_mul {k l : Nat} (a : Sm T cl s h e k) (b : Sm T cl s h f l) (hz : k + l < 1000000) : Sm T cl s h (.bin .mul fz e f) (k + l + 1) := by
  obtain ⟨i, h1, h2⟩ := a
  obtain ⟨j, h3, h4⟩ := b
  exact ⟨i * j, by rw [ev_bin h1 h3]; simp only [binF, chk]; rw [if_pos (by omega)], nb_mul h2 h4⟩
theorem sm_sq {k : Nat} (a : Sm T cl s h e k) (hz : k < 1000000) : Sm T cl s h (.bin .pow fz e (.int 2)) (k + k + 1) := by
  obtain ⟨i, h1, h2⟩ := a
  refine ⟨i ^ 2, ?_, ?_⟩
  · rw [ev_bin h1 (show evE T cl false (.int 2) s h = .ok (.int 2) h by simp [evE, tw])]
    simp only [binF, chk]
    rw [if_pos ⟨by decide, by omega⟩]
    rfl
  · rw [Int.pow_succ, Int.pow_succ, Int.pow_zero, Int.one_mul]
    exact nb_mul h2 h2
theorem sp_ten (n : Nat) (hn : n < 1000) : Sp' T cl s h (.bin .pow fz (.int 10) (.int n)) (4 * n) := by
  refine ⟨10 ^ n, ?_, Int.pow_pos (by decide), nb_ten n⟩
  rw [ev_bin (show evE T cl false (.int 10) s h = .ok (.int 10) h by simp [evE, tw]) (show evE T cl false (.int n) s h = .ok (.int n) h by simp [evE, tw])]
  simp only [binF, chk]
  have : natBits 10 = 3 := by decide +kernel
  rw [if_pos ⟨by omega, by rw [this]; omega⟩]
  simp
theorem Sp'.sm {k : Nat} (a : Sp' T cl s h e k) : Sm T cl s h e k := let ⟨i, h1, _, h2⟩ := a; ⟨i, h1, h2⟩
theorem sp_add9 {k : Nat} {c : Int} (hc : 0 ≤ c) (a : Sp' T cl s h e k) (hk : natBits c ≤ k) : Sp' T cl s h (.bin .add fz e (.int c)) (k + 1) := by
  obtain ⟨i, h1, h3, h2⟩ := a
  refine ⟨i + c, by rw [ev_bin h1 (show evE T cl false (.int c) s h = .ok (.int c) h by simp [evE, tw])]; rfl, by omega, nb_add h2 hk⟩
theorem sm_fdiv {k l : Nat} (a : Sm T cl s h e k) (b : Sp' T cl s h f l) (hz : l < 9000) : Sm T cl s h (.bin .fdiv fz e f) k := by
  obtain ⟨i, h1, h2⟩ := a
  obtain ⟨j, h3, h5, h4⟩ := b
  exact ⟨i / j, by rw [ev_bin h1 h3]; simp only [binF, chk]; rw [if_pos ⟨h5, by omega⟩], nb_div h2⟩
theorem sm_mod {l : Nat} (a : ∃ i : Int, evE T cl false e s h = .ok (.int i) h) (b : Sp' T cl s h f l) : Sm T cl s h (.bin .mod fz e f) l := by
  obtain ⟨i, h1⟩ := a
  obtain ⟨j, h3, h5, h4⟩ := b
  exact ⟨i % j, by rw [ev_bin h1 h3]; simp only [binF, chk]; rw [if_pos h5], nb_mod h5 h4⟩
theorem Sm.ex {k : Nat} (a : Sm T cl s h e k) : ∃ i : Int, evE T cl false e s h = .ok (.int i) h := let ⟨i, h1, _⟩ := a; ⟨i, h1⟩
theorem st_set {x : Nat} {e : CE} {v : Vl} {h1 : Hv} {r : CSs} (a : evE T cl false e s h = .ok v h1) : evSs T cl (.cons (.set (.var x) e) r) s h = evSs T cl r (s.set x (some v)) h1 := by
  simp [evSs, evS, a, Res.bind, asgT]
theorem st_ret {e : CE} {v : Vl} {h1 : Hv} {r : CSs} (a : evE T cl false e s h = .ok v h1) : evSs T cl (.cons (.ret e) r) s h = .ok (.rt v) h1 := by
  simp [evSs, evS, a, Res.bind]
theorem st_if {c : CE} {b : Bool} {h1 : Hv} {x y r : CSs} (a : evE T cl true c s h = .ok (.bl b) h1) : evSs T cl (.cons (.ife c x y) r) s h = match evSs T cl (if b then x else y) s h1 with
    | .ok (.nx s1) h2 => evSs T cl r s1 h2
    | z => z := by
  cases b <;> (rw [evSs, evS, a]; rfl)
theorem st_if0 {c : CE} {h1 : Hv} {x r : CSs} (a : evE T cl true c s h = .ok (.bl false) h1) : evSs T cl (.cons (.ife c x .nil) r) s h = evSs T cl r s h1 := by
  rw [st_if a]; simp [evSs]
theorem st_if1 {c : CE} {h1 h2 : Hv} {x y r : CSs} {v : Vl} (a : evE T cl true c s h = .ok (.bl true) h1) (b : evSs T cl x s h1 = .ok (.rt v) h2) : evSs T cl (.cons (.ife c x y) r) s h = .ok (.rt v) h2 := by
  rw [st_if a]; simp [b]
theorem ev_cmp {t : Bool} {op : COp} {e f : CE} {v u : Vl} {h1 h2 : Hv} (a : evE T cl false e s h = .ok v h1) (b : evE T cl false f s h1 = .ok u h2) : evE T cl t (.cmp op e f) s h = (cmpD T cl op v u h2).bind fun v h => tru1 h v := by
  rw [evE, a]
  simp only [Res.bind, b]
theorem ev_var {x : Nat} {v : Vl} (hx : s[x]? = some (some v)) : evE T cl false (.var x) s h = .ok v h := by simp [evE, tw, hx]
theorem ev_int {i : Int} : evE T cl false (.int i) s h = .ok (.int i) h := by simp [evE, tw]
theorem ev_lst1 {fz : Bool} {e : CE} {v : Vl} {h1 : Hv} (a : evE T cl false e s h = .ok v h1) : evE T cl false (.lst fz (.cons e .nil)) s h = mkL fz [v] h1 := by
  simp [evE, evEs, tw, a, Res.bind, chk, LIM]
theorem ev_call1 {g : Nat} {e : CE} {v : Vl} {h1 : Hv} (a : evE T cl false e s h = .ok v h1) : evE T cl false (.call g (.cons e .nil)) s h = cl g [v] h1 := by
  simp [evE, evEs, tw, a, Res.bind]
theorem ev_call2 {g : Nat} {e f : CE} {v u : Vl} {h1 h2 : Hv} (a : evE T cl false e s h = .ok v h1) (b : evE T cl false f s h1 = .ok u h2) : evE T cl false (.call g (.cons e (.cons f .nil))) s h = cl g [v, u] h2 := by
  simp [evE, evEs, tw, a, b, Res.bind]
theorem ev_binH {op : BOp} {fz : Bool} {e f : CE} {i j : Int} {h1 h2 : Hv} (a : evE T cl false e s h = .ok (.int i) h1) (b : evE T cl false f s h1 = .ok (.int j) h2) : evE T cl false (.bin op fz e f) s h = binF op fz (.int i) (.int j) h2 := by
  simp [evE, tw, a, b, Res.bind, binD, asO]
theorem cmp_ii {op : COp} {i j : Int} {b : Bool} (e : cmpF op (.int i) (.int j) h = some b) (n : op ≠ .in_ ∧ op ≠ .notin) : (cmpD T cl op (.int i) (.int j) h).bind (fun v h => tru1 h v) = .ok (.bl b) h := by
  cases op <;> simp_all [cmpD, cmpO, asO, ofO, Res.bind, tru1]
end
end Core
end

section
set_option Elab.async false
set_option linter.all false
set_option maxRecDepth 100000
set_option maxHeartbeats 4000000
set_option autoImplicit false
/-! E2: loops, texts. -/
namespace Core
open PySem L2
section
variable {T : Tab} {cl : Cl}
/-- a for whose source stays, by what is left of the items -/
theorem forR_run {src : Src} {t : CT} {body : Lo → Hv → Res Fl} (P : List Vl → Lo → Hv → Prop) (hsrc : ∀ r s h, P r s h → src.Ok h)
    (step : ∀ v r s h, P (v :: r) s h → ∃ s1 s2 h2, asgT t v s = some s1 ∧ (body s1 h = .ok (.nx s2) h2 ∨ body s1 h = .ok (.ct s2) h2) ∧ P r s2 h2) : ∀ (l : List Vl) (s : Lo) (h : Hv), P l s h → ∃ s' h', forR src t body l s h = .ok (.nx s') h' ∧ P [] s' h'
  | [], s, h, p => ⟨s, h, by unfold forR; rw [if_pos (hsrc _ _ _ p)], p⟩
  | v :: r, s, h, p => by
    obtain ⟨s1, s2, h2, e1, e2, p2⟩ := step v r s h p
    obtain ⟨s', h', e3, p3⟩ := forR_run P hsrc step r s2 h2 p2
    refine ⟨s', h', ?_, p3⟩
    unfold forR
    rw [if_pos (hsrc _ _ _ p), e1]
    rcases e2 with e2 | e2 <;> (simp only [e2]; exact e3)
/-- .. that may leave by a return -/
theorem forR_ret {src : Src} {t : CT} {body : Lo → Hv → Res Fl} (P : List Vl → Lo → Hv → Prop) (R : Vl → Hv → Prop) (hsrc : ∀ r s h, P r s h → src.Ok h)
    (step : ∀ v r s h, P (v :: r) s h → ∃ s1, asgT t v s = some s1 ∧ ((∃ s2 h2, body s1 h = .ok (.nx s2) h2 ∧ P r s2 h2) ∨ ∃ u h2, body s1 h = .ok (.rt u) h2 ∧ R u h2)) : ∀ (l : List Vl) (s : Lo) (h : Hv), P l s h →
    (∃ s' h', forR src t body l s h = .ok (.nx s') h' ∧ P [] s' h') ∨ ∃ u h', forR src t body l s h = .ok (.rt u) h' ∧ R u h'
  | [], s, h, p => .inl ⟨s, h, by unfold forR; rw [if_pos (hsrc _ _ _ p)], p⟩
  | v :: r, s, h, p => by
    obtain ⟨s1, e1, e2⟩ := step v r s h p
    have z : forR src t body (v :: r) s h = match body s1 h with
      | .ok (.nx s2) h2 => forR src t body r s2 h2
      | .ok (.ct s2) h2 => forR src t body r s2 h2
      | .ok (.bk s2) h2 => .ok (.nx s2) h2
      | .ok (.rt v) h2 => .ok (.rt v) h2
      | .ex c fs h2 => .ex c fs h2
      | .st => .st := by
      rw [forR, if_pos (hsrc _ _ _ p), e1]
      all_goals rfl
    rw [z]
    rcases e2 with ⟨s2, h2, e2, p2⟩ | ⟨u, h2, e2, ru⟩
    · rw [e2]
      exact forR_ret P R hsrc step r s2 h2 p2
    · rw [e2]
      exact .inr ⟨u, h2, rfl, ru⟩
/-- a comprehension, by what is left: what each item gives -/
theorem lcR_run {src : Src} {t : CT} {cond elt : Lo → Hv → Res Vl} {s : Lo} (P : List Vl → List Vl → Hv → Prop) (hsrc : ∀ r acc h, P r acc h → src.Ok h)
    (step : ∀ v r acc h, P (v :: r) acc h → ∃ s1 h1 b, asgT t v s = some s1 ∧ cond s1 h = .ok (.bl b) h1 ∧ ((b = true ∧ ∃ u h2, elt s1 h1 = .ok u h2 ∧ P r (acc ++ [u]) h2) ∨ (b = false ∧ P r acc h1))) :
    ∀ (l acc : List Vl) (h : Hv), P l acc h → ∃ vs h', lcR src t cond elt s l h = .ok vs h' ∧ P [] (acc ++ vs) h'
  | [], acc, h, p => ⟨[], h, by unfold lcR; rw [if_pos (hsrc _ _ _ p)], by simpa using p⟩
  | v :: r, acc, h, p => by
    obtain ⟨s1, h1, b, e1, e2, q⟩ := step v r acc h p
    rcases q with ⟨rfl, u, h2, e3, p2⟩ | ⟨rfl, p2⟩
    · obtain ⟨vs, h', e4, p3⟩ := lcR_run P hsrc step r (acc ++ [u]) h2 p2
      refine ⟨u :: vs, h', ?_, by simpa using p3⟩
      unfold lcR
      rw [if_pos (hsrc _ _ _ p), e1]
      simp only [e2, Res.bind, e3, e4]
    · obtain ⟨vs, h', e4, p3⟩ := lcR_run P hsrc step r acc h1 p2
      refine ⟨vs, h', ?_, p3⟩
      unfold lcR
      rw [if_pos (hsrc _ _ _ p), e1]
      simp only [e2, Res.bind, e4]
end
section
variable {T : Tab} {cl : Cl} {s : Lo} {h h1 h2 : Hv} {it : CI} {own : List Nat} {tg : CT} {c : CO} {e ke : CE} {fz : Bool} {k : Core.Walk}
theorem ev_lc {vs : List Vl} (hi : evI T cl it s h = .ok k h1) (hl : k.items.length ≤ LIM) (hr : unlockF k (lcR k.src tg (fun s h => noX (evC T cl c s h)) (fun s h => noX (evE T cl false e s h)) (wipeL s own) k.items (k.lock h1)) = .ok vs h2) :
    evE T cl false (.lc fz own tg it c e) s h = mkL fz vs h2 := by
  rw [evE, hi]
  show tw false (chk (k.items.length ≤ LIM) _) = _
  unfold chk tw
  rw [if_pos hl, hr]
  rfl
theorem ev_dc {vs : List (Key × Vl)} (hi : evI T cl it s h = .ok k h1) (hl : k.items.length ≤ LIM) (hr : unlockF k (dcR k.src tg (fun s h => noX (evC T cl c s h)) (fun s h => noX (evE T cl false ke s h)) (fun s h => noX (evE T cl false e s h)) (wipeL s own) k.items [] (k.lock h1)) = .ok vs h2) :
    evE T cl false (.dc fz own tg it c ke e) s h = mkD fz vs h2 := by
  rw [evE, hi]
  show tw false (chk (k.items.length ≤ LIM) _) = _
  unfold chk tw
  rw [if_pos hl, hr]
  rfl
theorem unlock_free {α : Type} {r : Res α} (hk : k.lck = none) : unlockF k r = r := by unfold unlockF; rw [hk]
theorem unlock_dct {α : Type} {n : Nat} {l m : List (Key × Vl)} {a : α} (hk : k.lck = some (n, l)) (hm : h[n]? = some (.lck m)) : unlockF k (.ok a h) = .ok a (h.set n (.dct m)) := by
  unfold unlockF
  rw [hk]
  simp only [hm]
theorem st_for {body r : CSs} {s1 : Lo} (hi : evI T cl it s h = .ok k h1) (hr : unlockF k (forR k.src tg (evSs T cl body) k.items s (k.lock h1)) = .ok (.nx s1) h2) : evSs T cl (.cons (.for_ tg it body) r) s h = evSs T cl r s1 h2 := by
  rw [evSs, evS, hi]
  show (match unlockF k (forR k.src tg (evSs T cl body) k.items s (k.lock h1)) with
    | .ok (.nx s1) h1 => evSs T cl r s1 h1
    | x => x) = _
  rw [hr]
theorem st_forR {body r : CSs} {v : Vl} (hi : evI T cl it s h = .ok k h1) (hr : unlockF k (forR k.src tg (evSs T cl body) k.items s (k.lock h1)) = .ok (.rt v) h2) : evSs T cl (.cons (.for_ tg it body) r) s h = .ok (.rt v) h2 := by
  rw [evSs, evS, hi]
  show (match unlockF k (forR k.src tg (evSs T cl body) k.items s (k.lock h1)) with
    | .ok (.nx s1) h1 => evSs T cl r s1 h1
    | x => x) = _
  rw [hr]
theorem it_rng {n : Nat} {e : CE} (he : evE T cl false e s h = .ok (.int n) h1) (hn : n ≤ 1000000000) : evI T cl (.rng1 e) s h = .ok (.free (rngL 0 n)) h1 := by
  rw [evI, he]
  simp only [Res.bind, chk]
  rw [if_pos (by omega)]
  simp
end
/-! ### texts -/
def cds (z : Str) : List Nat := z.cps.toList
theorem cds_len (z : Str) : z.length = (cds z).length := by unfold cds; rw [Array.length_toList]; rfl
theorem cds_app (a b : Str) : cds (a ++ b) = cds a ++ cds b := by
  show (a.cps ++ b.cps).toList = _
  simp [cds]
theorem cds_cut (z : Str) (lo hi : Option Int) : cds (cutS z lo hi) = ((cds z).drop (HT.sIx z.length 0 lo)).take (HT.sIx z.length z.length hi - HT.sIx z.length 0 lo) := by simp [cds, cutS]
theorem cds_join : ∀ l : List Str, cds (Txt.join "" l) = (l.map cds).flatten
  | [] => by rw [TL.join_eq]; rfl
  | [x] => by rw [TL.join_eq]; simp [Str.join]
  | x :: y :: r => by
    have ih := cds_join (y :: r)
    rw [TL.join_eq] at ih ⊢
    show cds (x ++ "" ++ Str.join "" (y :: r)) = _
    rw [cds_app, cds_app, ih]
    have e : (Str.ofString "").cps = #[] := by decide +kernel
    simp [cds, e]
/-- a short name -/
def Gd (z : Str) : Prop := (cds z).length ≤ 8 ∧ ∀ c ∈ cds z, 97 ≤ c ∧ c < 123
theorem Gd.cut {z : Str} {lo hi : Option Int} (h : ∀ c ∈ cds z, 97 ≤ c ∧ c < 123) (l : (cds (cutS z lo hi)).length ≤ 8) : Gd (cutS z lo hi) := ⟨l, fun c hc => h c (by
  rw [cds_cut] at hc
  exact List.mem_of_mem_drop (List.mem_of_mem_take hc))⟩
end Core
end

section
set_option Elab.async false
set_option linter.all false
set_option maxRecDepth 100000
set_option maxHeartbeats 4000000
set_option autoImplicit false
/-! G1: dicts by text, of any values. -/
namespace K01
open PySem L2 Core
section
variable {α : Type}
def KG (e : α → Vl) (D : List (Str × α)) : List (Key × Vl) := D.map fun p => (.inr p.1, e p.2)
def lkG (D : List (Str × α)) (x : Str) : Option α := (D.find? fun p => decide (p.1 = x)).map (·.2)
def ptG (D : List (Str × α)) (x : Str) (v : α) : List (Str × α) := if (D.any fun p => decide (p.1 = x)) then D.map fun p => if p.1 = x then (p.1, v) else p else D ++ [(x, v)]
def ksG (D : List (Str × α)) : List Str := D.map (·.1)
theorem look_KG (e : α → Vl) (D : List (Str × α)) (x : Str) : look (KG e D) (.inr x) = (lkG D x).map e := by
  unfold look lkG KG
  rw [List.find?_map]
  simp only [Function.comp_def, Option.map_map]
  congr 1
  congr 1
  funext q
  simp
theorem put_KG (e : α → Vl) (D : List (Str × α)) (x : Str) (v : α) : put (KG e D) (.inr x) (e v) = KG e (ptG D x v) := by
  unfold put ptG KG
  have e1 : ((D.map fun p : Str × α => ((.inr p.1, e p.2) : Key × Vl)).any fun kv => decide (kv.1 = Sum.inr x)) = D.any fun p => decide (p.1 = x) := by
    rw [List.any_map]
    congr 1
    funext q
    simp
  rw [e1]
  split
  · rw [List.map_map, List.map_map]
    congr 1
    funext q
    simp only [Function.comp_def]
    by_cases hq : q.1 = x
    · simp [hq]
    · simp [hq]
  · simp
theorem lkG_nil (x : Str) : lkG ([] : List (Str × α)) x = none := rfl
theorem lkG_cons (p : Str × α) (D : List (Str × α)) (x : Str) : lkG (p :: D) x = if p.1 = x then some p.2 else lkG D x := by
  unfold lkG
  rw [List.find?_cons]
  by_cases c : p.1 = x <;> simp [c]
theorem lkG_app (D E : List (Str × α)) (x : Str) : lkG (D ++ E) x = (lkG D x).or (lkG E x) := by
  induction D with
  | nil => simp [lkG_nil]
  | cons p D ih => rw [List.cons_append, lkG_cons, lkG_cons, ih]; split <;> simp
theorem mem_ksG {D : List (Str × α)} {x : Str} : x ∈ ksG D ↔ ∃ v, lkG D x = some v := by
  induction D with
  | nil => simp [ksG, lkG_nil]
  | cons p D ih =>
    rw [lkG_cons]
    unfold ksG at ih ⊢
    rw [List.map_cons, List.mem_cons, ih]
    by_cases c : p.1 = x
    · simp [c]
    · simp [c, Ne.symm c]
theorem lkG_none {D : List (Str × α)} {x : Str} : x ∉ ksG D ↔ lkG D x = none := by
  rw [mem_ksG]
  cases lkG D x <;> simp
theorem lkG_iff {D : List (Str × α)} (nd : (ksG D).Nodup) {x : Str} {v : α} : lkG D x = some v ↔ (x, v) ∈ D := by
  induction D with
  | nil => simp [lkG_nil]
  | cons p D ih =>
    unfold ksG at nd
    rw [List.map_cons, List.nodup_cons] at nd
    rw [lkG_cons, List.mem_cons]
    by_cases c : p.1 = x
    · rw [if_pos c]
      constructor
      · intro q; cases q; subst c; exact .inl rfl
      · rintro (q | q)
        · rw [← q]
        · exact absurd (List.mem_map.mpr ⟨_, q, c.symm⟩) nd.1
    · rw [if_neg c, ih nd.2]
      constructor
      · exact .inr
      · rintro (q | q)
        · exact absurd (by rw [← q]) c
        · exact q
theorem ksG_ptG (D : List (Str × α)) (x : Str) (v : α) : ksG (ptG D x v) = if x ∈ ksG D then ksG D else ksG D ++ [x] := by
  unfold ptG
  have e : (D.any fun p => decide (p.1 = x)) = decide (x ∈ ksG D) := by
    rw [Bool.eq_iff_iff, List.any_eq_true, decide_eq_true_eq]
    unfold ksG
    rw [List.mem_map]
    exact ⟨fun ⟨p, hp, h⟩ => ⟨p, hp, by simpa using h⟩, fun ⟨p, hp, h⟩ => ⟨p, hp, by simpa using h⟩⟩
  rw [e]
  by_cases c : x ∈ ksG D
  · simp only [c, decide_true, if_true]
    unfold ksG
    rw [List.map_map]
    refine List.map_congr_left fun p _ => ?_
    simp only [Function.comp]
    split <;> rfl
  · simp only [c, decide_false, Bool.false_eq_true, if_false]
    simp [ksG]
theorem ndG_ptG {D : List (Str × α)} (nd : (ksG D).Nodup) (x : Str) (v : α) : (ksG (ptG D x v)).Nodup := by
  rw [ksG_ptG]
  split
  · exact nd
  · rename_i c
    rw [List.nodup_append]
    exact ⟨nd, by simp, fun a ha b hb => by rw [List.mem_singleton] at hb; subst hb; exact fun z => c (z ▸ ha)⟩
theorem lkG_ptG (D : List (Str × α)) (x : Str) (v : α) (y : Str) : lkG (ptG D x v) y = if y = x then some v else lkG D y := by
  by_cases c : x ∈ ksG D
  · have e : (D.any fun p => decide (p.1 = x)) = true := by
      obtain ⟨p, hp, h⟩ := List.mem_map.mp c
      exact List.any_eq_true.mpr ⟨p, hp, by simpa using h⟩
    unfold ptG
    rw [if_pos e]
    clear e
    induction D with
    | nil => cases c
    | cons p D ih =>
      rw [List.map_cons, lkG_cons, lkG_cons]
      by_cases hp : p.1 = x
      · simp only [hp, if_true]
        by_cases hy : x = y
        · simp [hy]
        · rw [if_neg hy, if_neg hy, if_neg (Ne.symm hy)]
          by_cases cD : x ∈ ksG D
          · rw [ih cD, if_neg (Ne.symm hy)]
          · congr 1
            refine (List.map_congr_left fun q hq => ?_).trans (List.map_id D)
            rw [if_neg fun z => cD (List.mem_map.mpr ⟨q, hq, z⟩)]
            rfl
      · simp only [hp, if_false]
        have cD : x ∈ ksG D := by
          rcases List.mem_cons.mp c with z | z
          · exact absurd z.symm hp
          · exact z
        rw [ih cD]
        by_cases hy : p.1 = y
        · subst hy; rw [if_pos rfl, if_pos rfl, if_neg hp]
        · rw [if_neg hy, if_neg hy]
  · have e : ¬ (D.any fun p => decide (p.1 = x)) = true := fun z => by
      obtain ⟨p, hp, h⟩ := List.any_eq_true.mp z
      exact c (List.mem_map.mpr ⟨p, hp, by simpa using h⟩)
    unfold ptG
    rw [if_neg e, lkG_app, lkG_cons, lkG_nil]
    by_cases hy : y = x
    · subst hy
      rw [lkG_none.mp c]
      simp
    · rw [if_neg hy, if_neg (Ne.symm hy)]
      simp
theorem lenG_ptG (D : List (Str × α)) (x : Str) (v : α) : (ptG D x v).length ≤ D.length + 1 := by
  unfold ptG
  split <;> simp
theorem keyS_KG (e : α → Vl) : ∀ D : List (Str × α), keyS? (KG e D) = some (ksG D)
  | [] => rfl
  | p :: r => by
    show (keyS? (KG e r)).map (p.1 :: ·) = _
    rw [keyS_KG e r]; rfl
/-- what a dict holds, by its names in order -/
def lstG (D : List (Str × α)) : List (Str × α) := (sortS (ksG D)).filterMap fun x => (lkG D x).map fun v => (x, v)
theorem ksG_recon (D : List (Str × α)) : ∀ (xs : List Str), (∀ x ∈ xs, x ∈ ksG D) → ksG (xs.filterMap fun x => (lkG D x).map fun v => (x, v)) = xs
  | [], _ => rfl
  | x :: r, h => by
    obtain ⟨v, hv⟩ := mem_ksG.mp (h x List.mem_cons_self)
    rw [List.filterMap_cons]
    simp only [hv, Option.map_some]
    show x :: ksG _ = _
    rw [ksG_recon D r fun y hy => h y (List.mem_cons_of_mem _ hy)]
theorem ks_lstG (D : List (Str × α)) : ksG (lstG D) = sortS (ksG D) := ksG_recon D _ fun x hx => (sortS_perm _).mem_iff.mp hx
theorem nd_lstG {D : List (Str × α)} (nd : (ksG D).Nodup) : (ksG (lstG D)).Nodup := by
  rw [ks_lstG]; exact (sortS_perm _).symm.nodup nd
theorem lk_lstG {D : List (Str × α)} (nd : (ksG D).Nodup) (x : Str) : lkG (lstG D) x = lkG D x := by
  have key : ∀ v, lkG (lstG D) x = some v ↔ lkG D x = some v := fun v => by
    rw [lkG_iff (nd_lstG nd)]
    unfold lstG
    rw [List.mem_filterMap]
    constructor
    · rintro ⟨y, _, hy⟩
      obtain ⟨w, hw, e⟩ := Option.map_eq_some_iff.mp hy
      cases e; exact hw
    · intro hv
      exact ⟨x, (sortS_perm _).mem_iff.mpr (mem_ksG.mpr ⟨v, hv⟩), by rw [hv]; rfl⟩
  cases h1 : lkG D x with
  | some v => exact (key v).mpr h1
  | none =>
    cases h2 : lkG (lstG D) x with
    | none => rfl
    | some v => rw [(key v).mp h2] at h1; cases h1
theorem recon_self {D : List (Str × α)} (nd : (ksG D).Nodup) : (ksG D).filterMap (fun x => (lkG D x).map fun v => (x, v)) = D := by
  suffices h : ∀ (L : List (Str × α)), (∀ p ∈ L, lkG D p.1 = some p.2) → (ksG L).filterMap (fun x => (lkG D x).map fun v => (x, v)) = L from h D fun p hp => (lkG_iff nd).mpr hp
  intro L
  induction L with
  | nil => intro _; rfl
  | cons p L ih =>
    intro h
    show (p.1 :: ksG L).filterMap _ = _
    rw [List.filterMap_cons]
    simp only [h p List.mem_cons_self, Option.map_some]
    rw [ih fun q hq => h q (List.mem_cons_of_mem _ hq)]
/-- two dicts that hold the same are told in the same way -/
theorem permG {D E : List (Str × α)} (nd : (ksG D).Nodup) (ne : (ksG E).Nodup) (h : ∀ x, lkG D x = lkG E x) : (ksG D).Perm (ksG E) :=
  (List.perm_ext_iff_of_nodup nd ne).mpr fun x => by rw [mem_ksG, mem_ksG, h x]
theorem lstG_ext {D E : List (Str × α)} (nd : (ksG D).Nodup) (ne : (ksG E).Nodup) (h : ∀ x, lkG D x = lkG E x) : lstG D = lstG E := by
  unfold lstG
  rw [sorted_unique (sortS_sorted (ksG D)) (sortS_sorted (ksG E)) ((sortS_perm _).trans ((permG nd ne h).trans (sortS_perm _).symm))]
  congr 1
  funext x
  rw [h x]
/-- a list in order is what its dict tells -/
theorem lstG_sorted {L : List (Str × α)} (nd : (ksG L).Nodup) (s : (ksG L).Pairwise leS) : lstG L = L := by
  unfold lstG
  rw [sorted_unique (sortS_sorted (ksG L)) s (sortS_perm _), recon_self nd]
theorem ksG_filter (D : List (Str × α)) (f : α → Bool) : (ksG (D.filter fun p => f p.2)).Sublist (ksG D) := List.Sublist.map _ List.filter_sublist
theorem ndG_filter {D : List (Str × α)} (nd : (ksG D).Nodup) (f : α → Bool) : (ksG (D.filter fun p => f p.2)).Nodup := nd.sublist (ksG_filter D f)
theorem lkG_filter {D : List (Str × α)} (nd : (ksG D).Nodup) (f : α → Bool) (x : Str) : lkG (D.filter fun p => f p.2) x = (lkG D x).filter f := by
  cases h1 : lkG D x with
  | none =>
    have : x ∉ ksG (D.filter fun p => f p.2) := fun z => lkG_none.mpr h1 ((ksG_filter D f).subset z)
    rw [lkG_none.mp this]; rfl
  | some v =>
    have hm := (lkG_iff nd).mp h1
    cases hf : f v with
    | true =>
      rw [(lkG_iff (ndG_filter nd f)).mpr (List.mem_filter.mpr ⟨hm, hf⟩)]
      simp [Option.filter, hf]
    | false =>
      have : lkG (D.filter fun p => f p.2) x = none := by
        cases h2 : lkG (D.filter fun p => f p.2) x with
        | none => rfl
        | some w =>
          obtain ⟨a, b⟩ := List.mem_filter.mp ((lkG_iff (ndG_filter nd f)).mp h2)
          have := (lkG_iff nd).mpr a
          rw [h1] at this
          cases this
          rw [hf] at b; cases b
      rw [this]
      simp [Option.filter, hf]
theorem lstG_filter {D : List (Str × α)} (nd : (ksG D).Nodup) (f : α → Bool) : (lstG D).filter (fun p => f p.2) = lstG (D.filter fun p => f p.2) := by
  have n1 := ndG_filter (nd_lstG nd) f
  have s1 : (ksG ((lstG D).filter fun p => f p.2)).Pairwise leS := by
    refine List.Pairwise.sublist (ksG_filter _ f) ?_
    rw [ks_lstG]; exact sortS_sorted _
  rw [← lstG_sorted n1 s1]
  refine lstG_ext n1 (ndG_filter nd f) fun x => ?_
  rw [lkG_filter (nd_lstG nd), lkG_filter nd, lk_lstG nd]
theorem lstG_lstG {D : List (Str × α)} (nd : (ksG D).Nodup) : lstG (lstG D) = lstG D := lstG_ext (nd_lstG nd) nd fun x => lk_lstG nd x
theorem len_lstG {D : List (Str × α)} (nd : (ksG D).Nodup) : (lstG D).length = D.length := by
  have h1 : (ksG (lstG D)).length = (ksG D).length := by rw [ks_lstG]; exact (sortS_perm _).length_eq
  simpa [ksG] using h1
/-- a dict of a list of pairs -/
theorem merge_KG (e : α → Vl) : ∀ (L A : List (Str × α)), mergeD (KG e A) (KG e L) = KG e (L.foldl (fun A p => ptG A p.1 p.2) A)
  | [], _ => rfl
  | p :: L, A => by
    show mergeD (put (KG e A) (.inr p.1) (e p.2)) (KG e L) = _
    rw [put_KG, merge_KG e L]; rfl
theorem ptG_new {D : List (Str × α)} {x : Str} {v : α} (h : x ∉ ksG D) : ptG D x v = D ++ [(x, v)] := by
  unfold ptG
  rw [if_neg]
  intro z
  obtain ⟨q, hq, e⟩ := List.any_eq_true.mp z
  exact h (List.mem_map.mpr ⟨q, hq, by simpa using e⟩)
theorem fold_new : ∀ (L A : List (Str × α)), (ksG (A ++ L)).Nodup → L.foldl (fun A p => ptG A p.1 p.2) A = A ++ L
  | [], A, _ => by simp
  | p :: L, A, nd => by
    have hn : p.1 ∉ ksG A := fun z => by
      unfold ksG at nd z
      rw [List.map_append, List.nodup_append] at nd
      exact nd.2.2 p.1 z p.1 (by simp) rfl
    rw [List.foldl_cons, ptG_new hn, fold_new L (A ++ [(p.1, p.2)]) (by simpa using nd)]
    simp
end
end K01
end

section
set_option Elab.async false
set_option linter.all false
set_option maxRecDepth 100000
set_option maxHeartbeats 4000000
set_option autoImplicit false
/-! G2: parts of changes. -/
namespace K01
open PySem L2 Core
abbrev Pp := Bool × Int
def kd (b : Bool) : Str := if b then "set" else "add"
def pv (p : Pp) : Vl := .tup [.str (kd p.1), .int p.2]
def qv (q : Str × Pp) : Vl := .tup [.str q.1, .str (kd q.2.1), .int q.2.2]
def PT (L : List (Str × Pp)) : List Vl := L.map qv
def act (p : Pp) : Bool := p.1 || decide (p.2 ≠ 0)
def jn : Option Pp → Pp → Pp
  | some a, (false, k) => (a.1, a.2 + k)
  | _, p => p
def due (D : List (Str × Pp)) : List (Str × Pp) := lstG (D.filter fun q => act q.2)
def joinG (D E : List (Str × Pp)) : List (Str × Pp) := E.foldl (fun A q => ptG A q.1 (jn (lkG A q.1) q.2)) D
theorem nd_due {D : List (Str × Pp)} (nd : (ksG D).Nodup) : (ksG (due D)).Nodup := nd_lstG (ndG_filter nd act)
theorem lk_due {D : List (Str × Pp)} (nd : (ksG D).Nodup) (x : Str) : lkG (due D) x = (lkG D x).filter act := by
  unfold due
  rw [lk_lstG (ndG_filter nd act), lkG_filter nd]
theorem due_ext {D E : List (Str × Pp)} (nd : (ksG D).Nodup) (ne : (ksG E).Nodup) (h : ∀ x, (lkG D x).filter act = (lkG E x).filter act) : due D = due E :=
  lstG_ext (ndG_filter nd act) (ndG_filter ne act) fun x => by rw [lkG_filter nd, lkG_filter ne, h x]
theorem due_due {D : List (Str × Pp)} (nd : (ksG D).Nodup) : due (due D) = due D := due_ext (nd_due nd) nd fun x => by
  rw [lk_due nd]
  cases lkG D x with
  | none => rfl
  | some p => cases c : act p <;> simp [Option.filter, c]
theorem nd_joinG : ∀ {E D : List (Str × Pp)}, (ksG D).Nodup → (ksG (joinG D E)).Nodup
  | [], D, nd => nd
  | q :: E, D, nd => nd_joinG (E := E) (ndG_ptG nd q.1 _)
theorem lk_joinG : ∀ {E D : List (Str × Pp)}, (ksG E).Nodup → ∀ x, lkG (joinG D E) x = match lkG E x with
    | none => lkG D x
    | some p => some (jn (lkG D x) p)
  | [], D, _, x => rfl
  | q :: E, D, nd, x => by
    have nd0 := nd
    unfold ksG at nd
    rw [List.map_cons, List.nodup_cons] at nd
    show lkG (joinG (ptG D q.1 (jn (lkG D q.1) q.2)) E) x = _
    rw [lk_joinG (E := E) nd.2 x, lkG_cons, lkG_ptG]
    by_cases c : q.1 = x
    · subst c
      rw [lkG_none.mp nd.1]
      simp
    · rw [if_neg c, if_neg (Ne.symm c)]
theorem len_joinG : ∀ {E D : List (Str × Pp)}, (joinG D E).length ≤ D.length + E.length
  | [], D => by simp [joinG]
  | q :: E, D => by
    have h1 := len_joinG (E := E) (D := ptG D q.1 (jn (lkG D q.1) q.2))
    have h2 := lenG_ptG D q.1 (jn (lkG D q.1) q.2)
    show (joinG (ptG D q.1 (jn (lkG D q.1) q.2)) E).length ≤ _
    simp only [List.length_cons]
    omega
theorem jn_add (o : Option Pp) (h : o ≠ none) (k : Int) : ∃ a, o = some a ∧ jn o (false, k) = (a.1, a.2 + k) := by
  cases o with
  | none => exact absurd rfl h
  | some a => exact ⟨a, rfl, rfl⟩
/-- joining what does something is joining -/
theorem due_join {D E : List (Str × Pp)} (nd : (ksG D).Nodup) (ne : (ksG E).Nodup) : due (joinG (due D) (due E)) = due (joinG D E) :=
  due_ext (nd_joinG (nd_due nd)) (nd_joinG nd) fun x => by
    rw [lk_joinG (nd_due ne), lk_joinG ne, lk_due nd, lk_due ne]
    cases hE : lkG E x with
    | none =>
      cases lkG D x with
      | none => rfl
      | some p => cases c : act p <;> simp [Option.filter, c]
    | some p =>
      obtain ⟨b, k⟩ := p
      cases hD : lkG D x with
      | none =>
        cases c : act (b, k) <;> cases b <;> simp_all [Option.filter, jn, act]
      | some a =>
        obtain ⟨d, j⟩ := a
        cases b <;> cases d <;> by_cases hk : k = 0 <;> by_cases hj : j = 0 <;> by_cases hjk : j + k = 0 <;> simp_all [Option.filter, jn, act]
theorem len_due {D : List (Str × Pp)} (nd : (ksG D).Nodup) : (due D).length ≤ D.length := by
  unfold due
  rw [len_lstG (ndG_filter nd act)]
  exact List.length_filter_le _ _
theorem kd_set (b : Bool) : kd b = "set" ↔ b = true := by cases b <;> simp [kd] <;> decide
theorem kd_add (b : Bool) : kd b = "add" ↔ b = false := by cases b <;> simp [kd] <;> decide
end K01
end

section
set_option Elab.async false
set_option linter.all false
set_option maxRecDepth 100000
set_option maxHeartbeats 4000000
set_option autoImplicit false
/-! G3: steps of the evaluator. -/
namespace K01
open PySem L2 Core
section
variable {T : Tab} {cl : Cl} {s : Lo} {h : Hv} {m : Nat} {o hd : Nat}
theorem cmp_ev {t : Bool} {op : COp} {e f : CE} {i j : Int} {b : Bool} {h1 h2 : Hv} (a : evE T cl false e s h = .ok (.int i) h1) (g : evE T cl false f s h1 = .ok (.int j) h2) (hb : cmpF op (.int i) (.int j) h2 = some b) (n : op ≠ .in_ ∧ op ≠ .notin) : evE T cl t (.cmp op e f) s h = .ok (.bl b) h2 :=
  (ev_cmp a g).trans (cmp_ii hb n)
theorem eq_ii (i j : Int) : cmpF .eq (.int i) (.int j) h = some (decide (i = j)) := by simp [cmpF, Core.eqV, Core.eqF, vw, scEq]
theorem gt_ii (i j : Int) : cmpF .gt (.int i) (.int j) h = some (decide (j < i)) := by simp [cmpF, ltV, ltF, vw, scLt]
theorem and_ev {a b : CE} {x y : Bool} {h1 : Hv} (ha : evE T cl true a s h = .ok (.bl x) h1) (hb : evE T cl true b s h1 = .ok (.bl y) h1) : evE T cl true (.and_ a b) s h = .ok (.bl (x && y)) h1 := by
  rw [evE, ha]
  cases x <;> simp [Res.bind, hb]
theorem set_same {h : Hv} {m : Nat} {c : Cell} (e : h[m]? = some c) : h.set m c = h := by
  apply List.ext_getElem?
  intro j
  by_cases z : m = j
  · subst z; rw [e]; simp [(List.getElem?_eq_some_iff.mp e).1]
  · rw [List.getElem?_set_ne z]
theorem lt_of {h : Hv} {m : Nat} {c : Cell} (e : h[m]? = some c) : m < h.length := (List.getElem?_eq_some_iff.mp e).1
def Fr (X : List Nat) (h h' : Hv) : Prop := h.length ≤ h'.length ∧ ∀ j, j < h.length → j ∉ X → h'[j]? = h[j]?
theorem Fr.refl (X : List Nat) (h : Hv) : Fr X h h := ⟨Nat.le_refl _, fun _ _ _ => rfl⟩
theorem Fr.trans {X : List Nat} {a b c : Hv} (x : Fr X a b) (y : Fr X b c) : Fr X a c := ⟨Nat.le_trans x.1 y.1, fun j hj n => (y.2 j (Nat.lt_of_lt_of_le hj x.1) n).trans (x.2 j hj n)⟩
theorem Fr.mono {X Y : List Nat} {a b : Hv} (x : Fr X a b) (h : ∀ j ∈ X, j < a.length → j ∈ Y) : Fr Y a b := ⟨x.1, fun j hj n => x.2 j hj fun z => n (h j z hj)⟩
theorem fr_app (X : List Nat) (h t : Hv) : Fr X h (h ++ t) := ⟨by simp, fun j hj _ => List.getElem?_append_left hj⟩
theorem fr_set {X : List Nat} {h : Hv} {o : Nat} {c : Cell} (ho : o ∈ X) : Fr X h (h.set o c) := ⟨by simp, fun j _ n => List.getElem?_set_ne fun (z : o = j) => n (z ▸ ho)⟩
theorem ev_attr {x c f : Nat} {fs : List (Nat × Vl)} {v : Vl} (hx : s[x]? = some (some (.ref o))) (ho : h[o]? = some (.obj c fs)) (hf : T.fld c f = true) (hv : fs.lookup f = some v) : evE T cl false (.attr (.var x) f) s h = .ok v h := by
  rw [evE, ev_var hx]
  simp only [Res.bind, tw, Bool.false_eq_true, if_false, asO, ho, hf, if_true, hv, ofO]
theorem lc_map {cl : Cl} {s0 : Lo} {h : Hv} {x : Nat} {e : CE} (f : Str → Vl) : ∀ (xs : List Str), (∀ z ∈ xs, evE T cl false e (s0.set x (some (.str z))) h = .ok (f z) h) →
    lcR .free (.var x) (fun s h => noX (evC T cl .no s h)) (fun s h => noX (evE T cl false e s h)) s0 (xs.map .str) h = .ok (xs.map f) h
  | [], _ => by
    show lcR .free _ _ _ _ [] _ = _
    rw [lcR, if_pos (show Src.free.Ok h from trivial)]
    rfl
  | z :: r, hb => by
    have ih := lc_map f r fun y hy => hb y (List.mem_cons_of_mem _ hy)
    have eN : noX (evE T cl false e (s0.set x (some (.str z))) h) = .ok (f z) h := by rw [hb z List.mem_cons_self]; rfl
    have eC : noX (evC T cl .no (s0.set x (some (.str z))) h) = .ok (.bl true) h := by simp [evC, noX]
    show lcR .free _ _ _ _ (.str z :: r.map .str) _ = _
    rw [lcR, if_pos (show Src.free.Ok h from trivial)]
    show Res.bind (noX (evC T cl .no (s0.set x (some (.str z))) h)) _ = _
    rw [eC]
    show Res.bind (noX (evE T cl false e (s0.set x (some (.str z))) h)) _ = _
    rw [eN]
    show Res.bind (lcR .free (.var x) (fun s h => noX (evC T cl .no s h)) (fun s h => noX (evE T cl false e s h)) s0 (r.map .str) h) _ = _
    rw [ih]
    rfl
theorem st_setA {cl : Cl} {s : Lo} {h h1 : Hv} {x f o c : Nat} {fs : List (Nat × Vl)} {e : CE} {v : Vl} {r : CSs} (he : evE T cl false e s h = .ok v h1) (hx : s[x]? = some (some (.ref o))) (ho : h1[o]? = some (.obj c fs)) (hf : T.fld c f = true) (hl : fs.length < 1000) :
    evSs T cl (.cons (.setA (.var x) f e) r) s h = evSs T cl r s (h1.set o (.obj c (Core.putF f v fs))) := by
  rw [evSs, evS, he]
  simp only [Res.bind, ev_var hx, ho]
  rw [if_pos ⟨hf, hl⟩]
theorem ii : tyB "int" .int = some true := by decide +kernel
theorem ib : tyB "int" .bool = some false := by decide +kernel
theorem ss' : tyB "str" .str = some true := by decide +kernel
theorem tt' : tyB "tuple" .tuple = some true := by decide +kernel
theorem ll' : tyB "list" .list = some true := by decide +kernel
theorem isin_ev {T : Tab} {cl : Cl} {s : Lo} {h : Hv} {e : CE} {t : Bool} {y : Ty} {v : Vl} {b : Bool} (he : evE T cl false e s h = .ok v h) (hb : tyF T h v y = some b) : evE T cl t (.isin e y) s h = .ok (.bl b) h := by
  rw [evE, he]
  simp [Res.bind, hb, ofO]
theorem lc_filt {cl : Cl} {s0 : Lo} {h : Hv} {x : Nat} {c e : CE} (f : Str → Vl) (p : Str → Bool) : ∀ (xs : List Str), (∀ z ∈ xs, evE T cl true c (s0.set x (some (.str z))) h = .ok (.bl (p z)) h ∧ evE T cl false e (s0.set x (some (.str z))) h = .ok (f z) h) →
    lcR .free (.var x) (fun s h => noX (evC T cl (.so c) s h)) (fun s h => noX (evE T cl false e s h)) s0 (xs.map .str) h = .ok ((xs.filter p).map f) h
  | [], _ => by
    show lcR .free _ _ _ _ [] _ = _
    rw [lcR, if_pos (show Src.free.Ok h from trivial)]
    rfl
  | z :: r, hb => by
    have ih := lc_filt f p r fun y hy => hb y (List.mem_cons_of_mem _ hy)
    obtain ⟨b1, b2⟩ := hb z List.mem_cons_self
    have eN : noX (evE T cl false e (s0.set x (some (.str z))) h) = .ok (f z) h := by rw [b2]; rfl
    have eC : noX (evC T cl (.so c) (s0.set x (some (.str z))) h) = .ok (.bl (p z)) h := by rw [evC, b1]; rfl
    show lcR .free _ _ _ _ (.str z :: r.map .str) _ = _
    rw [lcR, if_pos (show Src.free.Ok h from trivial)]
    show Res.bind (noX (evC T cl (.so c) (s0.set x (some (.str z))) h)) _ = _
    rw [eC]
    cases hp : p z with
    | true =>
      show Res.bind (noX (evE T cl false e (s0.set x (some (.str z))) h)) _ = _
      rw [eN]
      show Res.bind (lcR .free (.var x) (fun s h => noX (evC T cl (.so c) s h)) (fun s h => noX (evE T cl false e s h)) s0 (r.map .str) h) _ = _
      rw [ih]
      simp [hp, Res.bind]
    | false =>
      show lcR .free (.var x) (fun s h => noX (evC T cl (.so c) s h)) (fun s h => noX (evE T cl false e s h)) s0 (r.map .str) h = _
      rw [ih]
      simp [hp]
theorem strs_map : ∀ xs : List Str, strs? (xs.map .str) = some xs
  | [] => rfl
  | x :: r => by simp [strs?, strs_map r]
theorem or_ff {a b : CE} {h1 h2 : Hv} (ha : evE T cl true a s h = .ok (.bl false) h1) (hb : evE T cl true b s h1 = .ok (.bl false) h2) : evE T cl true (.or_ a b) s h = .ok (.bl false) h2 := by
  rw [evE, ha]
  simp [Res.bind, hb]
theorem not_t {a : CE} {h1 : Hv} {b : Bool} (ha : evE T cl true a s h = .ok (.bl b) h1) : evE T cl true (.not_ a) s h = .ok (.bl (!b)) h1 := by
  rw [evE, ha]
  simp [Res.bind, tw]
theorem not_c {g : Nat} {es : CEs} {h1 : Hv} {b : Bool} (ha : evE T cl false (.call g es) s h = .ok (.bl b) h1) : evE T cl true (.not_ (.call g es)) s h = .ok (.bl (!b)) h1 := by
  refine not_t ?_
  rw [ev_tw rfl, ha]
  simp [tw, Res.bind, truV]
theorem lenL_ev {fz : Bool} {e : CE} {v : Vl} {l : List Vl} (he : evE T cl false e s h = .ok v h) (hl : asS h v = some l) (ho : asO h v = none) (ns : ∀ z, v ≠ .str z) : evE T cl false (.blt .len fz (.cons e .nil)) s h = .ok (.int (l.length : Nat)) h := by
  rw [evE, evEs, he]
  simp only [Res.bind, evEs, tw, Bool.false_eq_true, if_false, bltD, ho]
  cases v with
  | str z => exact absurd rfl (ns z)
  | _ => simp [bltF, hl]
theorem subL_ev {e f : CE} {v u : Vl} {l : List Vl} {i : Nat} (he : evE T cl false e s h = .ok v h) (hf : evE T cl false f s h = .ok (.int i) h) (hl : asS h v = some l) (ho : asO h v = none) (ns : ∀ z, v ≠ .str z) (hu : l[i]? = some u) : evE T cl false (.sub e f) s h = .ok u h := by
  have hi := (List.getElem?_eq_some_iff.mp hu).1
  rw [evE, he]
  simp only [Res.bind, hf, tw, Bool.false_eq_true, if_false, subD, ho]
  cases v with
  | str z => exact absurd rfl (ns z)
  | _ =>
    simp only [subF, hl, L2.ixN]
    rw [if_pos (by omega), if_pos (by omega)]
    simp [hu, ofO]
theorem ne_ii (i j : Int) {h : Hv} : cmpF .ne (.int i) (.int j) h = some (!decide (i = j)) := by simp [cmpF, Core.eqV, Core.eqF, vw, scEq]
theorem cmp_tt {cl : Cl} {s : Lo} {h : Hv} {e f : CE} {l m : List Vl} {b : Bool} {op : COp} (he : evE T cl false e s h = .ok (.tup l) h) (hf : evE T cl false f s h = .ok (.tup m) h) (hb : cmpF op (.tup l) (.tup m) h = some b) (n : op ≠ .in_ ∧ op ≠ .notin) : evE T cl true (.cmp op e f) s h = .ok (.bl b) h := by
  rw [ev_cmp he hf]
  cases op <;> simp_all [cmpD, cmpO, asO, ofO, Res.bind, tru1]
theorem chk_ok {α : Type} {c : Prop} [Decidable c] {r : Res α} (hc : c) : chk c r = r := if_pos hc
theorem bltD_own {T : Tab} {cl : Cl} {c f : Nat} {v : Vl} {i : Int} {h h1 : Hv} {fs : List (Nat × Vl)} {fz : Bool} (ho : asO h v = some (c, fs)) (hs : T.sp c .len = some f) (hc : cl f [v] h = .ok (.int i) h1) (hi : 0 ≤ i ∧ i < 1000000000) : bltD T cl .len fz [v] h = .ok (.int i) h1 := by
  unfold bltD spC
  simp only [ho, hs, hc, Res.bind]
  exact chk_ok hi
theorem ev_len1 {T : Tab} {cl : Cl} {s : Lo} {h : Hv} {a : Nat} {v u : Vl} {fz : Bool} (ha : s[a]? = some (some v)) (hb : bltD T cl .len fz [v] h = .ok u h) : evE T cl false (.blt .len fz (.cons (.var a) .nil)) s h = .ok u h := by
  rw [evE, evEs, ev_var ha]
  simp only [Res.bind, evEs, tw, Bool.false_eq_true, if_false, hb]
theorem bool_ne {cl : Cl} {s : Lo} {h : Hv} {e f : CE} {a b : Bool} (he : evE T cl false e s h = .ok (.bl a) h) (hf : evE T cl false f s h = .ok (.bl b) h) : evE T cl true (.cmp .ne e f) s h = .ok (.bl (!decide (a = b))) h := by
  rw [ev_cmp he hf]
  simp [cmpD, cmpO, asO, cmpF, Core.eqV, Core.eqF, vw, scEq, ofO, Res.bind, tru1]
theorem st_appendE {cl : Cl} {s : Lo} {h : Hv} {x m : Nat} {l : List Vl} {v : Vl} {e : CE} {r : CSs} {fz : Bool} (hx : s[x]? = some (some (.ref m))) (he : evE T cl false e s h = .ok v h) (hm : h[m]? = some (.lst l)) (hl : l.length < LIM) :
    evSs T cl (.cons (.expr (.bm .append fz (.var x) (.cons e .nil))) r) s h = evSs T cl r s (h.set m (.lst (l ++ [v]))) := by
  rw [evSs, evS, evE, ev_var hx]
  simp [Res.bind, tw, bmK, bmK.isLst, hm, evEs, he, bmF, appF, chk, hl]
theorem sub_len : ∀ {xs ys : List Str}, xs.Nodup → (∀ x ∈ xs, x ∈ ys) → xs.length ≤ ys.length
  | [], _, _, _ => Nat.zero_le _
  | x :: xs, ys, nd, hs => by
    have hx := hs x List.mem_cons_self
    have n2 := List.nodup_cons.mp nd
    have := sub_len (xs := xs) (ys := ys.erase x) n2.2 fun y hy => (List.mem_erase_of_ne (fun (e : y = x) => n2.1 (by rw [← e]; exact hy))).mpr (hs y (List.mem_cons_of_mem _ hy))
    rw [List.length_erase_of_mem hx] at this
    have : 0 < ys.length := List.length_pos_of_mem hx
    simp only [List.length_cons]
    omega
end
end K01
end

section
set_option Elab.async false
set_option linter.all false
set_option maxRecDepth 100000
set_option maxHeartbeats 4000000
set_option autoImplicit false
namespace K01
open PySem L2 Core
theorem rb {α β : Type} (r : Res α) (f : α → Hv → Res β) : r.bind f = match r with
    | .ok a h => f a h
    | .ex c fs h => .ex c fs h
    | .st => .st := by cases r <;> rfl
theorem tw0 (r : Res Vl) : tw false r = r := rfl
theorem tw1 (r : Res Vl) : tw true r = r.bind fun v h => match truV h v with
    | some b => .ok (.bl b) h
    | none => .st := rfl
theorem ag1 (i : Nat) (v : Vl) (s : Lo) : asgT (.var i) v s = some (s.set i (some v)) := by simp [asgT]
theorem ag2 (ts : CTs) (l : List Vl) (s : Lo) : asgT (.tup ts) (.tup l) s = asgTs ts l s := by simp [asgT]
theorem ag3 (s : Lo) : asgTs .nil [] s = some s := by simp [asgTs]
theorem ag4 (t : CT) (ts : CTs) (v : Vl) (l : List Vl) (s : Lo) : asgTs (.cons t ts) (v :: l) s = (asgT t v s).bind (asgTs ts l) := by simp [asgTs]
theorem chkT {α : Type} {r : Res α} : chk True r = r := by simp [chk]
theorem cf_eq_i (a b : Int) (h : Hv) : cmpF .eq (.int a) (.int b) h = some (decide (a = b)) := by simp [cmpF, Core.eqV, Core.eqF, vw, scEq]
theorem cf_ne_i (a b : Int) (h : Hv) : cmpF .ne (.int a) (.int b) h = some (!decide (a = b)) := by simp [cmpF, Core.eqV, Core.eqF, vw, scEq]
theorem cf_eq_s (a b : Str) (h : Hv) : cmpF .eq (.str a) (.str b) h = some (decide (a = b)) := by simp [cmpF, Core.eqV, Core.eqF, vw, scEq]
theorem cf_ne_s (a b : Str) (h : Hv) : cmpF .ne (.str a) (.str b) h = some (!decide (a = b)) := by simp [cmpF, Core.eqV, Core.eqF, vw, scEq]
theorem cf_eq_b (a b : Bool) (h : Hv) : cmpF .eq (.bl a) (.bl b) h = some (decide (a = b)) := by simp [cmpF, Core.eqV, Core.eqF, vw, scEq]
theorem cf_ne_b (a b : Bool) (h : Hv) : cmpF .ne (.bl a) (.bl b) h = some (!decide (a = b)) := by simp [cmpF, Core.eqV, Core.eqF, vw, scEq]
theorem cf_lt_i (a b : Int) (h : Hv) : cmpF .lt (.int a) (.int b) h = some (decide (a < b)) := by simp [cmpF, Core.ltV, Core.ltF, vw, scLt]
theorem cf_gt_i (a b : Int) (h : Hv) : cmpF .gt (.int a) (.int b) h = some (decide (b < a)) := by simp [cmpF, Core.ltV, Core.ltF, vw, scLt]
theorem cf_le_i (a b : Int) (h : Hv) : cmpF .le (.int a) (.int b) h = some (decide (a ≤ b)) := rfl
theorem cf_ge_i (a b : Int) (h : Hv) : cmpF .ge (.int a) (.int b) h = some (decide (b ≤ a)) := rfl
theorem cf_is0 (h : Hv) : cmpF .is_ .non .non h = some true := rfl
theorem cf_isr (n : Nat) (h : Hv) : cmpF .isnot (.ref n) .non h = some true := rfl
theorem cf_isnot0 (h : Hv) : cmpF .isnot .non .non h = some false := rfl
theorem cf_ist (l : List Vl) (h : Hv) : cmpF .isnot (.tup l) .non h = some true := rfl
theorem kd_dec (b : Bool) : decide (kd b = ("set" : Str)) = b := by cases b <;> decide
theorem kd_dec2 (b : Bool) : decide (kd b = ("add" : Str)) = !b := by cases b <;> decide
theorem lim0 : (([] : List Vl).length ≤ LIM) = True := by simp
theorem lim1 (a : Vl) : ([a].length ≤ LIM) = True := by simp [LIM]
theorem lim2 (a b : Vl) : ([a, b].length ≤ LIM) = True := by simp [LIM]
theorem lim3 (a b c : Vl) : ([a, b, c].length ≤ LIM) = True := by simp [LIM]
theorem lim4 (a b c d : Vl) : ([a, b, c, d].length ≤ LIM) = True := by simp [LIM]
theorem lim5 (a b c d e : Vl) : ([a, b, c, d, e].length ≤ LIM) = True := by simp [LIM]
theorem lim6 (a b c d e f : Vl) : ([a, b, c, d, e, f].length ≤ LIM) = True := by simp [LIM]
theorem ix10 (a : Vl) : (L2.ixN [a].length 0).bind (fun k => [a][k]?) = some a := rfl
theorem ix20 (a b : Vl) : (L2.ixN [a, b].length 0).bind (fun k => [a, b][k]?) = some a := rfl
theorem ix21 (a b : Vl) : (L2.ixN [a, b].length 1).bind (fun k => [a, b][k]?) = some b := rfl
theorem ix30 (a b c : Vl) : (L2.ixN [a, b, c].length 0).bind (fun k => [a, b, c][k]?) = some a := rfl
theorem ix31 (a b c : Vl) : (L2.ixN [a, b, c].length 1).bind (fun k => [a, b, c][k]?) = some b := rfl
theorem ix32 (a b c : Vl) : (L2.ixN [a, b, c].length 2).bind (fun k => [a, b, c][k]?) = some c := rfl
theorem ln1 (a : Vl) : (([a].length : Nat) : Int) = 1 := rfl
theorem ln2 (a b : Vl) : (([a, b].length : Nat) : Int) = 2 := rfl
theorem ln3 (a b c : Vl) : (([a, b, c].length : Nat) : Int) = 3 := rfl
section
variable {α : Type} {T : Tab} {cl : Cl} {s s2 : Lo} {h h1 h2 : Hv}
theorem st_ifT {c : CE} {x y r : CSs} (a : evE T cl true c s h = .ok (.bl true) h1) (b : evSs T cl x s h1 = .ok (.nx s2) h2) : evSs T cl (.cons (.ife c x y) r) s h = evSs T cl r s2 h2 := by
  rw [st_if a]
  simp only [if_true, b]
theorem st_ifF {c : CE} {x y r : CSs} (a : evE T cl true c s h = .ok (.bl false) h1) (b : evSs T cl y s h1 = .ok (.nx s2) h2) : evSs T cl (.cons (.ife c x y) r) s h = evSs T cl r s2 h2 := by
  rw [st_if a]
  simp only [Bool.false_eq_true, if_false, b]
theorem map_lstG {β : Type} (g : Str × α → β) (d : α) (F : List (Str × α)) : (sortS (ksG F)).map (fun x => g (x, (lkG F x).getD d)) = (lstG F).map g := by
  unfold lstG
  have : ∀ xs : List Str, (∀ x ∈ xs, x ∈ ksG F) → xs.map (fun x => g (x, (lkG F x).getD d)) = (xs.filterMap fun x => (lkG F x).map fun v => (x, v)).map g := by
    intro xs
    induction xs with
    | nil => intro _; rfl
    | cons x r ih =>
      intro hx
      obtain ⟨v, hv⟩ := mem_ksG.mp (hx x List.mem_cons_self)
      rw [List.filterMap_cons, List.map_cons]
      simp only [hv, Option.map_some, Option.getD_some, List.map_cons]
      rw [ih fun y hy => hx y (List.mem_cons_of_mem _ hy)]
  exact this _ fun x hx => (sortS_perm _).mem_iff.mp hx
theorem it_dctG {e : CE} {pe : α → Vl} {m : Nat} {D : List (Str × α)} (he : evE T cl false e s h = .ok (.ref m) h) (hm : h[m]? = some (.dct (KG pe D))) : evI T cl (.val e) s h = .ok ⟨.free, (ksG D).map .str, some (m, KG pe D)⟩ h := by
  rw [evI, he]
  simp only [Res.bind, itD, hm, ofO]
  congr 1
  simp [KG, ksG, kVl]
theorem sorted_evG {e : CE} {pe : α → Vl} {m : Nat} {D : List (Str × α)} (hm : h[m]? = some (.dct (KG pe D))) (he : evE T cl false e s h = .ok (.ref m) h) (hl : D.length < 60) : evE T cl false (.blt .sorted true (.cons e .nil)) s h = .ok (.fl ((sortS (ksG D)).map .str)) h := by
  have ho : asO h (.ref m) = none := by simp [asO, hm]
  have hd : asD h (.ref m) = some (KG pe D) := by simp [asD, hm]
  rw [evE, evEs, he]
  simp only [Res.bind, evEs, tw, Bool.false_eq_true, if_false, bltD, bltF, hd, keyS_KG, chk]
  rw [if_pos (by simp [ksG]; omega)]
  rfl
/-- a comprehension over any values -/
theorem lcG {β : Type} {s0 : Lo} {t : CT} {e : CE} (g f : β → Vl) : ∀ (xs : List β), (∀ b ∈ xs, ∃ s1, asgT t (g b) s0 = some s1 ∧ evE T cl false e s1 h = .ok (f b) h) →
    lcR .free t (fun s h => noX (evC T cl .no s h)) (fun s h => noX (evE T cl false e s h)) s0 (xs.map g) h = .ok (xs.map f) h
  | [], _ => by
    show lcR .free _ _ _ _ [] _ = _
    rw [lcR, if_pos (show Src.free.Ok h from trivial)]
    rfl
  | b :: r, hb => by
    have ih := lcG g f r fun y hy => hb y (List.mem_cons_of_mem _ hy)
    obtain ⟨s1, b1, b2⟩ := hb b List.mem_cons_self
    have eN : noX (evE T cl false e s1 h) = .ok (f b) h := by rw [b2]; rfl
    have eC : noX (evC T cl .no s1 h) = .ok (.bl true) h := by simp [evC, noX]
    show lcR .free _ _ _ _ (g b :: r.map g) _ = _
    rw [lcR, if_pos (show Src.free.Ok h from trivial), b1]
    simp only [eC, eN, Res.bind, ih, List.map_cons]
/-- .. with a test -/
theorem lcG2 {β : Type} {s0 : Lo} {t : CT} {c e : CE} (g f : β → Vl) (p : β → Bool) : ∀ (xs : List β), (∀ b ∈ xs, ∃ s1, asgT t (g b) s0 = some s1 ∧ evE T cl true c s1 h = .ok (.bl (p b)) h ∧ evE T cl false e s1 h = .ok (f b) h) →
    lcR .free t (fun s h => noX (evC T cl (.so c) s h)) (fun s h => noX (evE T cl false e s h)) s0 (xs.map g) h = .ok ((xs.filter p).map f) h
  | [], _ => by
    show lcR .free _ _ _ _ [] _ = _
    rw [lcR, if_pos (show Src.free.Ok h from trivial)]
    rfl
  | b :: r, hb => by
    have ih := lcG2 g f p r fun y hy => hb y (List.mem_cons_of_mem _ hy)
    obtain ⟨s1, b1, b3, b2⟩ := hb b List.mem_cons_self
    have eN : noX (evE T cl false e s1 h) = .ok (f b) h := by rw [b2]; rfl
    have eC : noX (evC T cl (.so c) s1 h) = .ok (.bl (p b)) h := by rw [evC, b3]; rfl
    show lcR .free _ _ _ _ (g b :: r.map g) _ = _
    rw [lcR, if_pos (show Src.free.Ok h from trivial), b1]
    cases hp : p b with
    | true =>
      rw [hp] at eC
      simp only [eC, eN, Res.bind, ih, List.filter_cons, hp, if_true, List.map_cons]
    | false =>
      rw [hp] at eC
      simp only [eC, Res.bind, ih, List.filter_cons, hp, Bool.false_eq_true, if_false]
theorem set_app {a : Hv} {c d : Cell} {m : Nat} (hm : m < a.length) : (a ++ [c]).set m d = a.set m d ++ [c] := by
  rw [List.set_append_left _ _ hm]
theorem set_last {a : Hv} {c d : Cell} : (a ++ [c]).set a.length d = a ++ [d] := by simp
theorem get_last {a : Hv} {c : Cell} : (a ++ [c])[a.length]? = some c := by simp
theorem set_last' {a : Hv} {c d : Cell} {k : Nat} (e : k = a.length) : (a ++ [c]).set k d = a ++ [d] := by subst e; simp
theorem get_last' {a : Hv} {c : Cell} {k : Nat} (e : k = a.length) : (a ++ [c])[k]? = some c := by subst e; simp
theorem get_app {a t : Hv} {c : Cell} {m : Nat} (hm : a[m]? = some c) : (a ++ t)[m]? = some c := by rw [List.getElem?_append_left (lt_of hm)]; exact hm
end
end K01
end

section
set_option Elab.async false
set_option linter.all false
set_option maxRecDepth 100000
set_option autoImplicit false
/-! bodies of functions -/
namespace K01
open PySem L2 Core
def b_name_place : CSs := (.cons (.set (.var 1) (.int 0)) (.cons (.for_ (.var 2) (.rng1 (.int 8)) (.cons (.ife (.cmp .lt (.var 2) (.blt .len true (.cons (.var 0) .nil))) (.cons (.set (.var 1) (.bin .add true (.bin .sub true (.bin .add true (.bin .mul true (.var 1) (.int 27)) (.blt .ord true (.cons (.sub (.var 0) (.var 2)) .nil))) (.blt .ord true (.cons (.str "a") .nil))) (.int 1))) .nil) (.cons (.set (.var 1) (.bin .mul true (.var 1) (.int 27))) .nil)) .nil)) (.cons (.ret (.neg (.var 1))) .nil)))
def f_name_place : FDef := ⟨1, [], 3, 2, b_name_place⟩
def b_order_key : CSs := (.cons (.set (.var 1) (.blt .sum true (.cons (.lc true [2] (.var 2) (.val (.var 0)) .no (.blt .abs true (.cons (.sub (.var 0) (.var 2)) .nil))) .nil))) (.cons (.set (.var 3) (.lc true [2] (.var 2) (.val (.blt .sorted true (.cons (.var 0) .nil))) .no (.tup (.cons (.call 0 (.cons (.var 2) .nil)) (.cons (.blt .abs true (.cons (.sub (.var 0) (.var 2)) .nil)) (.cons (.cmp .lt (.sub (.var 0) (.var 2)) (.int 0)) .nil)))))) (.cons (.ret (.tup (.cons (.var 1) (.cons (.blt .tuple true (.cons (.var 3) .nil)) .nil)))) .nil)))
def f_order_key : FDef := ⟨1, [], 4, 2, b_order_key⟩
def b_changed : CSs := (.cons (.set (.var 2) (.blt .dict false (.cons (.lc true [3] (.var 3) (.val (.var 0)) .no (.tup (.cons (.var 3) (.cons (.sub (.var 0) (.var 3)) .nil)))) .nil))) (.cons (.for_ (.tup (.cons (.var 3) (.cons (.var 4) (.cons (.var 5) .nil)))) (.val (.var 1)) (.cons (.ife (.cmp .eq (.var 4) (.str "add")) (.cons (.setI (.var 2) (.var 3) (.bin .add true (.bm .get true (.var 2) (.cons (.var 3) (.cons (.int 0) .nil))) (.var 5))) .nil) (.cons (.setI (.var 2) (.var 3) (.var 5)) .nil)) .nil)) (.cons (.ret (.var 2)) .nil)))
def f_changed : FDef := ⟨2, [], 6, 2, b_changed⟩
def b_without_zeros : CSs := (.cons (.ret (.dc true [1] (.var 1) (.val (.var 0)) (.so (.cmp .ne (.sub (.var 0) (.var 1)) (.int 0))) (.var 1) (.sub (.var 0) (.var 1)))) .nil)
def f_without_zeros : FDef := ⟨1, [], 2, 2, b_without_zeros⟩
def b_joined : CSs := (.cons (.ife (.and_ (.cmp .eq (.var 1) (.str "add")) (.cmp .isnot (.var 0) .non)) (.cons (.ret (.tup (.cons (.sub (.var 0) (.int 0)) (.cons (.bin .add true (.sub (.var 0) (.int 1)) (.var 2)) .nil)))) .nil) .nil) (.cons (.ret (.tup (.cons (.var 1) (.cons (.var 2) .nil)))) .nil))
def f_joined : FDef := ⟨3, [], 3, 2, b_joined⟩
def b_Changeu_initu : CSs := (.cons (.set (.var 2) (.dct false .nil)) (.cons (.ife (.cmp .isnot (.var 1) .non) (.cons (.for_ (.var 3) (.val (.var 1)) (.cons (.set (.tup (.cons (.var 4) (.cons (.var 5) .nil))) (.sub (.var 1) (.var 3))) (.cons (.ife (.or_ (.cmp .eq (.var 4) (.str "set")) (.cmp .ne (.var 5) (.int 0))) (.cons (.setI (.var 2) (.var 3) (.tup (.cons (.var 4) (.cons (.var 5) .nil)))) .nil) .nil) .nil))) .nil) .nil) (.cons (.setA (.var 0) 2 (.blt .tuple true (.cons (.lc true [3] (.var 3) (.val (.blt .sorted true (.cons (.var 2) .nil))) .no (.tup (.cons (.var 3) (.cons (.sub (.sub (.var 2) (.var 3)) (.int 0)) (.cons (.sub (.sub (.var 2) (.var 3)) (.int 1)) .nil))))) .nil))) .nil)))
def f_Changeu_initu : FDef := ⟨2, [.non], 6, 0, b_Changeu_initu⟩
def b_Change_parts : CSs := (.cons (.ret (.blt .list true (.cons (.attr (.var 0) 2) .nil))) .nil)
def f_Change_parts : FDef := ⟨1, [], 1, 2, b_Change_parts⟩
def b_Changeu_lenu : CSs := (.cons (.ret (.blt .len true (.cons (.attr (.var 0) 2) .nil))) .nil)
def f_Changeu_lenu : FDef := ⟨1, [], 1, 2, b_Changeu_lenu⟩
def b_Changeu_equ : CSs := (.cons (.ife (.not_ (.isin (.var 1) (.cls 1))) (.cons (.ret (.bl false)) .nil) .nil) (.cons (.ret (.cmp .eq (.attr (.var 0) 2) (.attr (.var 1) 2))) .nil))
def f_Changeu_equ : FDef := ⟨2, [], 2, 2, b_Changeu_equ⟩
def b_Changeu_rshiftu : CSs := (.cons (.ife (.not_ (.isin (.var 1) (.cls 1))) (.cons .never .nil) .nil) (.cons (.set (.var 2) (.blt .dict false (.cons (.lc true [3, 4, 5] (.tup (.cons (.var 3) (.cons (.var 4) (.cons (.var 5) .nil)))) (.val (.attr (.var 0) 2)) .no (.tup (.cons (.var 3) (.cons (.tup (.cons (.var 4) (.cons (.var 5) .nil))) .nil)))) .nil))) (.cons (.for_ (.tup (.cons (.var 3) (.cons (.var 4) (.cons (.var 5) .nil)))) (.val (.attr (.var 1) 2)) (.cons (.setI (.var 2) (.var 3) (.call 4 (.cons (.bm .get true (.var 2) (.cons (.var 3) .nil)) (.cons (.var 4) (.cons (.var 5) .nil))))) .nil)) (.cons (.ret (.frz (.mk 1 (.cons (.var 2) .nil)))) .nil))))
def f_Changeu_rshiftu : FDef := ⟨2, [], 6, 2, b_Changeu_rshiftu⟩
def b_Changeu_callu : CSs := (.cons (.ret (.frz (.mk 0 (.cons (.call 2 (.cons (.attr (.var 1) 1) (.cons (.attr (.var 0) 2) .nil))) .nil)))) .nil)
def f_Changeu_callu : FDef := ⟨2, [], 2, 2, b_Changeu_callu⟩
def b_Notesu_initu : CSs := (.cons (.setA (.var 0) 1 (.dct true .nil)) (.cons (.ife (.cmp .isnot (.var 1) .non) (.cons (.setA (.var 0) 1 (.call 3 (.cons (.var 1) .nil))) .nil) .nil) (.cons (.setA (.var 0) 0 (.call 1 (.cons (.attr (.var 0) 1) .nil))) .nil)))
def f_Notesu_initu : FDef := ⟨2, [.non], 2, 0, b_Notesu_initu⟩
def b_Notesu_getitemu : CSs := (.cons (.ret (.bm .get true (.attr (.var 0) 1) (.cons (.var 1) (.cons (.int 0) .nil)))) .nil)
def f_Notesu_getitemu : FDef := ⟨2, [], 2, 2, b_Notesu_getitemu⟩
def b_Notesu_setitemu : CSs := (.cons (.setI (.attr (.var 0) 1) (.var 1) (.var 2)) (.cons (.setA (.var 0) 1 (.call 3 (.cons (.attr (.var 0) 1) .nil))) (.cons (.setA (.var 0) 0 (.call 1 (.cons (.attr (.var 0) 1) .nil))) .nil)))
def f_Notesu_setitemu : FDef := ⟨3, [], 3, 0, b_Notesu_setitemu⟩
def b_Notesu_containsu : CSs := (.cons (.ret (.cmp .in_ (.var 1) (.attr (.var 0) 1))) .nil)
def f_Notesu_containsu : FDef := ⟨2, [], 2, 2, b_Notesu_containsu⟩
def b_Notesu_lenu : CSs := (.cons (.ret (.blt .len true (.cons (.attr (.var 0) 1) .nil))) .nil)
def f_Notesu_lenu : FDef := ⟨1, [], 1, 2, b_Notesu_lenu⟩
def b_Notes_pairs : CSs := (.cons (.ret (.lc true [1] (.var 1) (.val (.blt .sorted true (.cons (.attr (.var 0) 1) .nil))) .no (.tup (.cons (.var 1) (.cons (.sub (.attr (.var 0) 1) (.var 1)) .nil))))) .nil)
def f_Notes_pairs : FDef := ⟨1, [], 2, 2, b_Notes_pairs⟩
def b_Notesu_addu : CSs := (.cons (.ife (.not_ (.isin (.var 1) (.cls 1))) (.cons .never .nil) .nil) (.cons (.ret (.frz (.mk 0 (.cons (.call 2 (.cons (.attr (.var 0) 1) (.cons (.attr (.var 1) 2) .nil))) .nil)))) .nil))
def f_Notesu_addu : FDef := ⟨2, [], 2, 2, b_Notesu_addu⟩
def b_Notesu_iaddu : CSs := (.cons (.ife (.not_ (.isin (.var 1) (.cls 1))) (.cons .never .nil) .nil) (.cons (.setA (.var 0) 1 (.call 3 (.cons (.call 2 (.cons (.attr (.var 0) 1) (.cons (.attr (.var 1) 2) .nil))) .nil))) (.cons (.setA (.var 0) 0 (.call 1 (.cons (.attr (.var 0) 1) .nil))) (.cons (.ret (.var 0)) .nil))))
def f_Notesu_iaddu : FDef := ⟨2, [], 2, 0, b_Notesu_iaddu⟩
def b_Notesu_equ : CSs := (.cons (.ife (.not_ (.isin (.var 1) (.cls 0))) (.cons (.ret (.bl false)) .nil) .nil) (.cons (.ret (.cmp .eq (.attr (.var 0) 0) (.attr (.var 1) 0))) .nil))
def f_Notesu_equ : FDef := ⟨2, [], 2, 2, b_Notesu_equ⟩
def b_Notesu_ltu : CSs := (.cons (.ife (.not_ (.isin (.var 1) (.cls 0))) (.cons .never .nil) .nil) (.cons (.ret (.cmp .lt (.attr (.var 0) 0) (.attr (.var 1) 0))) .nil))
def f_Notesu_ltu : FDef := ⟨2, [], 2, 2, b_Notesu_ltu⟩
def b_Notesu_leu : CSs := (.cons (.ife (.not_ (.isin (.var 1) (.cls 0))) (.cons .never .nil) .nil) (.cons (.ret (.cmp .le (.attr (.var 0) 0) (.attr (.var 1) 0))) .nil))
def f_Notesu_leu : FDef := ⟨2, [], 2, 2, b_Notesu_leu⟩
def b_Notesu_gtu : CSs := (.cons (.ife (.not_ (.isin (.var 1) (.cls 0))) (.cons .never .nil) .nil) (.cons (.ret (.cmp .gt (.attr (.var 0) 0) (.attr (.var 1) 0))) .nil))
def f_Notesu_gtu : FDef := ⟨2, [], 2, 2, b_Notesu_gtu⟩
def b_Notesu_geu : CSs := (.cons (.ife (.not_ (.isin (.var 1) (.cls 0))) (.cons .never .nil) .nil) (.cons (.ret (.cmp .ge (.attr (.var 0) 0) (.attr (.var 1) 0))) .nil))
def f_Notesu_geu : FDef := ⟨2, [], 2, 2, b_Notesu_geu⟩
def b_within : CSs := (.cons (.ret (.and_ (.or_ (.cmp .is_ (.var 1) .non) (.cmp .le (.var 1) (.var 0))) (.or_ (.cmp .is_ (.var 2) .non) (.cmp .le (.var 0) (.var 2))))) .nil)
def f_within : FDef := ⟨3, [], 3, 2, b_within⟩
def b_common : CSs := (.cons (.set (.tup (.cons (.var 2) (.cons (.var 3) .nil))) (.var 0)) (.cons (.ife (.or_ (.cmp .is_ (.var 2) .non) (.and_ (.cmp .isnot (.sub (.var 1) (.int 0)) .non) (.cmp .gt (.sub (.var 1) (.int 0)) (.var 2)))) (.cons (.set (.var 2) (.sub (.var 1) (.int 0))) .nil) .nil) (.cons (.ife (.or_ (.cmp .is_ (.var 3) .non) (.and_ (.cmp .isnot (.sub (.var 1) (.int 1)) .non) (.cmp .lt (.sub (.var 1) (.int 1)) (.var 3)))) (.cons (.set (.var 3) (.sub (.var 1) (.int 1))) .nil) .nil) (.cons (.ife (.and_ (.cmp .isnot (.var 2) .non) (.and_ (.cmp .isnot (.var 3) .non) (.cmp .gt (.var 2) (.var 3)))) (.cons (.ret .non) .nil) .nil) (.cons (.ret (.tup (.cons (.var 2) (.cons (.var 3) .nil)))) .nil)))))
def f_common : FDef := ⟨2, [], 4, 2, b_common⟩
def b_sides : CSs := (.cons (.set (.var 2) (.lst false .nil)) (.cons (.ife (.cmp .isnot (.var 0) .non) (.cons (.expr (.bm .append true (.var 2) (.cons (.tup (.cons .non (.cons (.bin .sub true (.var 0) (.int 1)) .nil))) .nil))) .nil) .nil) (.cons (.ife (.cmp .isnot (.var 1) .non) (.cons (.expr (.bm .append true (.var 2) (.cons (.tup (.cons (.bin .add true (.var 1) (.int 1)) (.cons .non .nil))) .nil))) .nil) .nil) (.cons (.ret (.var 2)) .nil))))
def f_sides : FDef := ⟨2, [], 3, 2, b_sides⟩
def b_nearest : CSs := (.cons (.ife (.and_ (.cmp .isnot (.var 0) .non) (.cmp .gt (.var 0) (.int 0))) (.cons (.ret (.var 0)) .nil) .nil) (.cons (.ife (.and_ (.cmp .isnot (.var 1) .non) (.cmp .lt (.var 1) (.int 0))) (.cons (.ret (.var 1)) .nil) .nil) (.cons (.ret (.int 0)) .nil)))
def f_nearest : FDef := ⟨2, [], 2, 2, b_nearest⟩
def b_moved : CSs := (.cons (.ife (.cmp .is_ (.var 0) .non) (.cons (.ret .non) .nil) .nil) (.cons (.ret (.bin .sub true (.var 0) (.var 1))) .nil))
def f_moved : FDef := ⟨2, [], 2, 2, b_moved⟩
def b_Patternu_initu : CSs := (.cons (.setA (.var 0) 3 (.dct true .nil)) (.cons (.ife (.cmp .isnot (.var 1) .non) (.cons (.setA (.var 0) 3 (.dc true [2] (.var 2) (.val (.var 1)) (.so (.cmp .ne (.sub (.var 1) (.var 2)) (.tup (.cons .non (.cons .non .nil))))) (.var 2) (.sub (.var 1) (.var 2)))) .nil) .nil) (.cons (.setA (.var 0) 2 (.blt .tuple true (.cons (.lc true [2] (.var 2) (.val (.blt .sorted true (.cons (.attr (.var 0) 3) .nil))) .no (.tup (.cons (.var 2) (.cons (.sub (.sub (.attr (.var 0) 3) (.var 2)) (.int 0)) (.cons (.sub (.sub (.attr (.var 0) 3) (.var 2)) (.int 1)) .nil))))) .nil))) .nil)))
def f_Patternu_initu : FDef := ⟨2, [.non], 3, 0, b_Patternu_initu⟩
def b_Pattern_limits : CSs := (.cons (.ret (.blt .list true (.cons (.attr (.var 0) 2) .nil))) .nil)
def f_Pattern_limits : FDef := ⟨1, [], 1, 2, b_Pattern_limits⟩
def b_Patternu_containsu : CSs := (.cons (.for_ (.tup (.cons (.var 2) (.cons (.var 3) (.cons (.var 4) .nil)))) (.val (.attr (.var 0) 2)) (.cons (.ife (.not_ (.call 24 (.cons (.sub (.var 1) (.var 2)) (.cons (.var 3) (.cons (.var 4) .nil))))) (.cons (.ret (.bl false)) .nil) .nil) .nil)) (.cons (.ret (.bl true)) .nil))
def f_Patternu_containsu : FDef := ⟨2, [], 5, 2, b_Patternu_containsu⟩
def b_Patternu_equ : CSs := (.cons (.ife (.not_ (.isin (.var 1) (.cls 2))) (.cons (.ret (.bl false)) .nil) .nil) (.cons (.ret (.cmp .eq (.attr (.var 0) 2) (.attr (.var 1) 2))) .nil))
def f_Patternu_equ : FDef := ⟨2, [], 2, 2, b_Patternu_equ⟩
def b_Patternu_andu : CSs := (.cons (.ife (.not_ (.isin (.var 1) (.cls 2))) (.cons .never .nil) .nil) (.cons (.set (.var 2) (.blt .dict false (.cons (.attr (.var 0) 3) .nil))) (.cons (.for_ (.tup (.cons (.var 3) (.cons (.var 4) (.cons (.var 5) .nil)))) (.val (.attr (.var 1) 2)) (.cons (.set (.var 6) (.call 25 (.cons (.bm .get true (.var 2) (.cons (.var 3) (.cons (.tup (.cons .non (.cons .non .nil))) .nil))) (.cons (.tup (.cons (.var 4) (.cons (.var 5) .nil))) .nil)))) (.cons (.ife (.cmp .is_ (.var 6) .non) (.cons (.raise_ 101) .nil) .nil) (.cons (.setI (.var 2) (.var 3) (.var 6)) .nil)))) (.cons (.ret (.frz (.mk 2 (.cons (.var 2) .nil)))) .nil))))
def f_Patternu_andu : FDef := ⟨2, [], 7, 2, b_Patternu_andu⟩
def b_Patternu_leu : CSs := (.cons (.ife (.not_ (.isin (.var 1) (.cls 2))) (.cons .never .nil) .nil) (.cons (.for_ (.tup (.cons (.var 2) (.cons (.var 3) (.cons (.var 4) .nil)))) (.val (.attr (.var 1) 2)) (.cons (.set (.var 5) (.bm .get true (.attr (.var 0) 3) (.cons (.var 2) (.cons (.tup (.cons .non (.cons .non .nil))) .nil)))) (.cons (.ife (.cmp .ne (.call 25 (.cons (.var 5) (.cons (.tup (.cons (.var 3) (.cons (.var 4) .nil))) .nil))) (.var 5)) (.cons (.ret (.bl false)) .nil) .nil) .nil))) (.cons (.ret (.bl true)) .nil)))
def f_Patternu_leu : FDef := ⟨2, [], 6, 2, b_Patternu_leu⟩
def b_Patternu_subu : CSs := (.cons (.ife (.not_ (.isin (.var 1) (.cls 2))) (.cons .never .nil) .nil) (.cons (.set (.var 2) (.blt .dict false (.cons (.attr (.var 0) 3) .nil))) (.cons (.set (.var 3) (.lst false .nil)) (.cons (.for_ (.tup (.cons (.var 4) (.cons (.var 5) (.cons (.var 6) .nil)))) (.val (.attr (.var 1) 2)) (.cons (.set (.var 7) (.bm .get true (.var 2) (.cons (.var 4) (.cons (.tup (.cons .non (.cons .non .nil))) .nil)))) (.cons (.for_ (.var 8) (.val (.call 26 (.cons (.var 5) (.cons (.var 6) .nil)))) (.cons (.set (.var 9) (.call 25 (.cons (.var 7) (.cons (.var 8) .nil)))) (.cons (.ife (.cmp .isnot (.var 9) .non) (.cons (.set (.var 10) (.blt .dict false (.cons (.var 2) .nil))) (.cons (.setI (.var 10) (.var 4) (.var 9)) (.cons (.expr (.bm .append true (.var 3) (.cons (.frz (.mk 2 (.cons (.var 10) .nil))) .nil))) .nil))) .nil) .nil))) (.cons (.set (.var 11) (.call 25 (.cons (.var 7) (.cons (.tup (.cons (.var 5) (.cons (.var 6) .nil))) .nil)))) (.cons (.ife (.cmp .is_ (.var 11) .non) (.cons (.ret (.lst true (.cons (.frz (.mk 2 (.cons (.attr (.var 0) 3) .nil))) .nil))) .nil) .nil) (.cons (.setI (.var 2) (.var 4) (.var 11)) .nil)))))) (.cons (.ret (.var 3)) .nil)))))
def f_Patternu_subu : FDef := ⟨2, [], 12, 2, b_Patternu_subu⟩
def b_Pattern_least : CSs := (.cons (.ret (.frz (.mk 0 (.cons (.dc true [1, 2, 3] (.tup (.cons (.var 1) (.cons (.var 2) (.cons (.var 3) .nil)))) (.val (.attr (.var 0) 2)) .no (.var 1) (.call 27 (.cons (.var 2) (.cons (.var 3) .nil)))) .nil)))) .nil)
def f_Pattern_least : FDef := ⟨1, [], 4, 2, b_Pattern_least⟩
def b_Pattern_before : CSs := (.cons (.set (.var 2) (.blt .dict false (.cons (.attr (.var 0) 3) .nil))) (.cons (.for_ (.tup (.cons (.var 3) (.cons (.var 4) (.cons (.var 5) .nil)))) (.val (.meth (.var 1) 1 .nil)) (.cons (.set (.tup (.cons (.var 6) (.cons (.var 7) .nil))) (.bm .get true (.var 2) (.cons (.var 3) (.cons (.tup (.cons .non (.cons .non .nil))) .nil)))) (.cons (.ife (.cmp .eq (.var 4) (.str "add")) (.cons (.setI (.var 2) (.var 3) (.tup (.cons (.call 28 (.cons (.var 6) (.cons (.var 5) .nil))) (.cons (.call 28 (.cons (.var 7) (.cons (.var 5) .nil))) .nil)))) .nil) (.cons (.ife (.call 24 (.cons (.var 5) (.cons (.var 6) (.cons (.var 7) .nil)))) (.cons (.setI (.var 2) (.var 3) (.tup (.cons .non (.cons .non .nil)))) .nil) (.cons (.raise_ 101) .nil)) .nil)) .nil))) (.cons (.ret (.frz (.mk 2 (.cons (.var 2) .nil)))) .nil)))
def f_Pattern_before : FDef := ⟨2, [], 8, 2, b_Pattern_before⟩
def b_first_around : CSs := (.cons (.for_ (.var 2) (.val (.var 1)) (.cons (.ife (.cmp .in_ (.var 0) (.var 2)) (.cons (.ret (.var 2)) .nil) .nil) .nil)) (.cons (.ret .non) .nil))
def f_first_around : FDef := ⟨2, [], 3, 2, b_first_around⟩
def b_insert_piece : CSs := (.cons (.set (.var 2) (.meth (.var 1) 3 .nil)) (.cons (.set (.var 3) (.int 0)) (.cons (.set (.var 4) (.blt .len true (.cons (.var 0) .nil))) (.cons (.while_ (.cmp .lt (.var 3) (.var 4)) (.cons (.set (.var 5) (.bin .fdiv true (.bin .add true (.var 3) (.var 4)) (.int 2))) (.cons (.ife (.cmp .lt (.var 2) (.sub (.sub (.var 0) (.var 5)) (.int 0))) (.cons (.set (.var 3) (.bin .add true (.var 5) (.int 1))) .nil) (.cons (.set (.var 4) (.var 5)) .nil)) .nil))) (.cons (.expr (.bm .insert true (.var 0) (.cons (.var 3) (.cons (.tup (.cons (.var 2) (.cons (.var 1) .nil))) .nil)))) .nil)))))
def f_insert_piece : FDef := ⟨2, [], 6, 0, b_insert_piece⟩
def b_least_outside : CSs := (.cons (.set (.var 2) (.lst false (.cons (.tup (.cons (.meth (.var 0) 3 .nil) (.cons (.var 0) .nil))) .nil))) (.cons (.while_ (.cmp .gt (.blt .len true (.cons (.var 2) .nil)) (.int 0)) (.cons (.set (.tup (.cons (.var 3) (.cons (.var 4) .nil))) (.bm .pop true (.var 2) .nil)) (.cons (.set (.var 5) (.call 38 (.cons (.var 3) (.cons (.var 1) .nil)))) (.cons (.ife (.cmp .is_ (.var 5) .non) (.cons (.ret (.var 3)) .nil) .nil) (.cons (.for_ (.var 6) (.val (.bin .sub true (.var 4) (.var 5))) (.cons (.expr (.call 39 (.cons (.var 2) (.cons (.var 6) .nil)))) .nil)) .nil))))) (.cons (.ret .non) .nil)))
def f_least_outside : FDef := ⟨2, [], 7, 2, b_least_outside⟩
end K01
end

section
set_option Elab.async false
set_option linter.all false
set_option maxRecDepth 100000
set_option autoImplicit false
/-! bodies of functions -/
namespace K01
open PySem L2 Core
def b__law_pool : CSs := (.cons (.ife (.cmp .ge (.var 0) (.bin .pow true (.int 10) (.int 18))) (.cons (.ret (.lst false (.cons (.bin .sub true (.var 0) (.bin .pow true (.int 10) (.int 18))) .nil))) .nil) .nil) (.cons (.set (.var 1) (.bin .add true (.bin .mod true (.blt .int true (.cons (.var 0) .nil)) (.bin .add true (.bin .pow true (.int 10) (.int 18)) (.int 9))) (.int 1))) (.cons (.set (.var 2) (.bin .mod true (.bin .fdiv true (.bin .pow true (.bin .mul true (.var 1) (.int 7240983651908273645109283746501928374650192837465019283746501)) (.int 2)) (.bin .pow true (.int 10) (.int 21))) (.bin .pow true (.int 10) (.int 60)))) (.cons (.set (.var 3) (.bin .mod true (.bin .fdiv true (.bin .pow true (.bin .add true (.var 2) (.var 1)) (.int 2)) (.bin .pow true (.int 10) (.int 33))) (.bin .pow true (.int 10) (.int 60)))) (.cons (.set (.var 4) (.bin .mod true (.bin .fdiv true (.bin .pow true (.bin .add true (.var 3) (.bin .mul true (.int 3) (.var 1))) (.int 2)) (.bin .pow true (.int 10) (.int 31))) (.bin .pow true (.int 10) (.int 60)))) (.cons (.set (.var 5) (.bin .mod true (.bin .fdiv true (.bin .pow true (.bin .add true (.var 4) (.bin .mul true (.int 7) (.var 1))) (.int 2)) (.bin .pow true (.int 10) (.int 29))) (.bin .pow true (.int 10) (.int 60)))) (.cons (.ret (.lst false (.cons (.bin .add true (.bin .mul true (.bin .add true (.bin .mul true (.bin .add true (.bin .mul true (.var 5) (.bin .pow true (.int 10) (.int 60))) (.var 4)) (.bin .pow true (.int 10) (.int 60))) (.var 3)) (.bin .pow true (.int 10) (.int 60))) (.var 2)) .nil))) .nil)))))))
def f__law_pool : FDef := ⟨1, [], 6, 0, b__law_pool⟩
def b__law_draw : CSs := (.cons (.set (.var 2) (.bin .mod true (.blt .int true (.cons (.sub (.var 0) (.int 0)) .nil)) (.var 1))) (.cons (.setI (.var 0) (.int 0) (.bin .fdiv true (.sub (.var 0) (.int 0)) (.var 1))) (.cons (.ret (.var 2)) .nil)))
def f__law_draw : FDef := ⟨2, [], 3, 0, b__law_draw⟩
def b__law_names : CSs := (.cons (.set (.var 2) (.lst false .nil)) (.cons (.for_ (.var 3) (.rng1 (.var 1)) (.cons (.set (.var 4) (.call 301 (.cons (.var 0) (.cons (.int 4) .nil)))) (.cons (.set (.var 5) (.bin .add true (.int 1) (.call 301 (.cons (.var 0) (.cons (.int 8) .nil))))) (.cons (.set (.var 6) (.bm .join true (.str "") (.cons (.lc true [7] (.var 7) (.rng1 (.var 5)) .no (.sub (.str "abcdefghijklmnopqrstuvwxyz") (.call 301 (.cons (.var 0) (.cons (.int 26) .nil))))) .nil))) (.cons (.ife (.and_ (.cmp .eq (.var 4) (.int 1)) (.cmp .gt (.var 3) (.int 0))) (.cons (.set (.var 6) (.slc true (.bin .add true (.sub (.var 2) (.bin .sub true (.var 3) (.int 1))) (.var 6)) .no (.so (.int 8)))) .nil) .nil) (.cons (.ife (.and_ (.cmp .eq (.var 4) (.int 2)) (.cmp .gt (.var 3) (.int 0))) (.cons (.set (.var 6) (.slc true (.sub (.var 2) (.bin .sub true (.var 3) (.int 1))) .no (.so (.var 5)))) .nil) .nil) (.cons (.ife (.and_ (.cmp .eq (.var 4) (.int 3)) (.cmp .gt (.var 3) (.int 0))) (.cons (.set (.var 6) (.bin .add true (.slc true (.sub (.var 2) (.bin .sub true (.var 3) (.int 1))) .no (.so (.neg (.int 1)))) (.slc true (.var 6) .no (.so (.int 1))))) .nil) .nil) (.cons (.expr (.bm .append true (.var 2) (.cons (.var 6) .nil))) .nil)))))))) (.cons (.ret (.var 2)) .nil)))
def f__law_names : FDef := ⟨2, [], 8, 2, b__law_names⟩
def b__law_is_integer : CSs := (.cons (.ret (.and_ (.isin (.var 0) .int) (.not_ (.isin (.var 0) .bool)))) .nil)
def f__law_is_integer : FDef := ⟨1, [], 1, 2, b__law_is_integer⟩
def b__law_far : CSs := (.cons (.ret (.sub (.lst true (.cons (.int 0) (.cons (.int 0) (.cons (.int 0) (.cons (.int 3) (.cons (.neg (.int 5)) (.cons (.bin .pow true (.int 10) (.int 39)) (.cons (.neg (.bin .pow true (.int 10) (.int 38))) .nil)))))))) (.call 301 (.cons (.var 0) (.cons (.int 7) .nil))))) .nil)
def f__law_far : FDef := ⟨1, [], 1, 2, b__law_far⟩
def b__law_limits : CSs := (.cons (.set (.var 3) (.dct false .nil)) (.cons (.for_ (.var 4) (.val (.var 1)) (.cons (.set (.var 5) (.call 301 (.cons (.var 0) (.cons (.int 8) .nil)))) (.cons (.set (.var 6) (.bin .sub true (.bin .add true (.bin .mul true (.var 2) (.blt .int true (.cons (.cmp .lt (.call 301 (.cons (.var 0) (.cons (.int 4) .nil))) (.int 3)) .nil))) (.call 301 (.cons (.var 0) (.cons (.int 9) .nil)))) (.int 4))) (.cons (.set (.var 7) (.call 301 (.cons (.var 0) (.cons (.int 6) .nil)))) (.cons (.ife (.cmp .eq (.var 5) (.int 1)) (.cons (.setI (.var 3) (.var 4) (.tup (.cons (.var 6) (.cons .non .nil)))) .nil) .nil) (.cons (.ife (.cmp .eq (.var 5) (.int 2)) (.cons (.setI (.var 3) (.var 4) (.tup (.cons .non (.cons (.var 6) .nil)))) .nil) .nil) (.cons (.ife (.cmp .eq (.var 5) (.int 3)) (.cons (.setI (.var 3) (.var 4) (.tup (.cons (.var 6) (.cons (.var 6) .nil)))) .nil) .nil) (.cons (.ife (.or_ (.cmp .eq (.var 5) (.int 4)) (.cmp .eq (.var 5) (.int 5))) (.cons (.setI (.var 3) (.var 4) (.tup (.cons (.var 6) (.cons (.bin .add true (.var 6) (.var 7)) .nil)))) .nil) .nil) (.cons (.ife (.cmp .eq (.var 5) (.int 6)) (.cons (.setI (.var 3) (.var 4) (.tup (.cons .non (.cons .non .nil)))) .nil) .nil) (.cons (.ife (.cmp .eq (.var 5) (.int 7)) (.cons (.setI (.var 3) (.var 4) (.tup (.cons (.bin .sub true (.var 6) (.bin .mul true (.bin .pow true (.int 10) (.int 37)) (.call 301 (.cons (.var 0) (.cons (.int 9) .nil))))) (.cons (.bin .add true (.var 6) (.bin .mul true (.bin .pow true (.int 10) (.int 37)) (.call 301 (.cons (.var 0) (.cons (.int 9) .nil))))) .nil)))) .nil) .nil) .nil)))))))))) (.cons (.ret (.var 3)) .nil)))
def f__law_limits : FDef := ⟨3, [], 8, 2, b__law_limits⟩
def b__law_listed : CSs := (.cons (.set (.var 1) (.lc true [2] (.var 2) (.val (.blt .sorted true (.cons (.lc true [3] (.var 3) (.val (.var 0)) .no (.blt .str true (.cons (.var 3) .nil))) .nil))) .no (.tup (.cons (.var 2) (.cons (.sub (.sub (.var 0) (.var 2)) (.int 0)) (.cons (.sub (.sub (.var 0) (.var 2)) (.int 1)) .nil)))))) (.cons (.ret (.lc true [4] (.var 4) (.val (.var 1)) (.so (.or_ (.cmp .isnot (.sub (.var 4) (.int 1)) .non) (.cmp .isnot (.sub (.var 4) (.int 2)) .non))) (.var 4))) .nil))
def f__law_listed : FDef := ⟨1, [], 5, 2, b__law_listed⟩
def b__law_is_limit : CSs := (.cons (.ret (.or_ (.and_ (.cmp .is_ (.var 0) .non) (.cmp .is_ (.var 1) .non)) (.and_ (.cmp .isnot (.var 1) .non) (.and_ (.call 303 (.cons (.var 0) .nil)) (.cmp .eq (.var 0) (.var 1)))))) .nil)
def f__law_is_limit : FDef := ⟨2, [], 2, 2, b__law_is_limit⟩
def b__law_same_limits : CSs := (.cons (.ife (.or_ (.not_ (.isin (.var 0) .list)) (.cmp .ne (.blt .len true (.cons (.var 0) .nil)) (.blt .len true (.cons (.var 1) .nil)))) (.cons (.ret (.bl false)) .nil) .nil) (.cons (.for_ (.var 2) (.rng1 (.blt .len true (.cons (.var 1) .nil))) (.cons (.set (.var 3) (.sub (.var 0) (.var 2))) (.cons (.ife (.or_ (.not_ (.isin (.var 3) .tuple)) (.or_ (.cmp .ne (.blt .len true (.cons (.var 3) .nil)) (.int 3)) (.not_ (.isin (.sub (.var 3) (.int 0)) .str)))) (.cons (.ret (.bl false)) .nil) .nil) (.cons (.ife (.or_ (.cmp .ne (.sub (.var 3) (.int 0)) (.sub (.sub (.var 1) (.var 2)) (.int 0))) (.or_ (.not_ (.call 307 (.cons (.sub (.var 3) (.int 1)) (.cons (.sub (.sub (.var 1) (.var 2)) (.int 1)) .nil)))) (.not_ (.call 307 (.cons (.sub (.var 3) (.int 2)) (.cons (.sub (.sub (.var 1) (.var 2)) (.int 2)) .nil)))))) (.cons (.ret (.bl false)) .nil) .nil) .nil)))) (.cons (.ret (.bl true)) .nil)))
def f__law_same_limits : FDef := ⟨2, [], 4, 2, b__law_same_limits⟩
end K01
end

section
set_option Elab.async false
set_option linter.all false
set_option maxRecDepth 100000
set_option maxHeartbeats 4000000
set_option autoImplicit false
/-! DL: calls of the functions, whatever the table. -/
namespace K01
open PySem L2 Core
theorem callD {T : Tab} {n f : Nat} {d : FDef} {as : List Vl} {h : Hv} (e : T.defs f = some d) : callN T (n + 1) f as h = if as.length + d.dfl.length < d.np ∨ d.np < as.length then .st else finR d.mode h (retOf (evSs T (callN T n) d.body (startL d.nl (as ++ d.dfl.drop (d.dfl.length + as.length - d.np))) h)) := by rw [callN, e]
class D0 (T : Tab) : Prop where
  e : T.defs 0 = some f_name_place
theorem c0 {T : Tab} [D0 T] (n : Nat) (a : Vl) (h : Hv) : callN T (n + 1) 0 [a] h = finR 2 h (retOf (evSs T (callN T n) b_name_place [some a, none, none] h)) := (callD D0.e).trans rfl
class D1 (T : Tab) : Prop where
  e : T.defs 1 = some f_order_key
theorem c1 {T : Tab} [D1 T] (n : Nat) (a : Vl) (h : Hv) : callN T (n + 1) 1 [a] h = finR 2 h (retOf (evSs T (callN T n) b_order_key [some a, none, none, none] h)) := (callD D1.e).trans rfl
class D2 (T : Tab) : Prop where
  e : T.defs 2 = some f_changed
theorem c2 {T : Tab} [D2 T] (n : Nat) (a b : Vl) (h : Hv) : callN T (n + 1) 2 [a, b] h = finR 2 h (retOf (evSs T (callN T n) b_changed [some a, some b, none, none, none, none] h)) := (callD D2.e).trans rfl
class D3 (T : Tab) : Prop where
  e : T.defs 3 = some f_without_zeros
theorem c3 {T : Tab} [D3 T] (n : Nat) (a : Vl) (h : Hv) : callN T (n + 1) 3 [a] h = finR 2 h (retOf (evSs T (callN T n) b_without_zeros [some a, none] h)) := (callD D3.e).trans rfl
class D4 (T : Tab) : Prop where
  e : T.defs 4 = some f_joined
theorem c4 {T : Tab} [D4 T] (n : Nat) (a b c : Vl) (h : Hv) : callN T (n + 1) 4 [a, b, c] h = finR 2 h (retOf (evSs T (callN T n) b_joined [some a, some b, some c] h)) := (callD D4.e).trans rfl
class D5 (T : Tab) : Prop where
  e : T.defs 5 = some f_Changeu_initu
theorem c5 {T : Tab} [D5 T] (n : Nat) (a b : Vl) (h : Hv) : callN T (n + 1) 5 [a, b] h = retOf (evSs T (callN T n) b_Changeu_initu [some a, some b, none, none, none, none] h) := (callD D5.e).trans rfl
theorem c5_1 {T : Tab} [D5 T] (n : Nat) (a : Vl) (h : Hv) : callN T (n + 1) 5 [a] h = retOf (evSs T (callN T n) b_Changeu_initu [some a, some (.non), none, none, none, none] h) := (callD D5.e).trans rfl
class D6 (T : Tab) : Prop where
  e : T.defs 6 = some f_Change_parts
theorem c6 {T : Tab} [D6 T] (n : Nat) (a : Vl) (h : Hv) : callN T (n + 1) 6 [a] h = finR 2 h (retOf (evSs T (callN T n) b_Change_parts [some a] h)) := (callD D6.e).trans rfl
class D7 (T : Tab) : Prop where
  e : T.defs 7 = some f_Changeu_lenu
theorem c7 {T : Tab} [D7 T] (n : Nat) (a : Vl) (h : Hv) : callN T (n + 1) 7 [a] h = finR 2 h (retOf (evSs T (callN T n) b_Changeu_lenu [some a] h)) := (callD D7.e).trans rfl
class D8 (T : Tab) : Prop where
  e : T.defs 8 = some f_Changeu_equ
theorem c8 {T : Tab} [D8 T] (n : Nat) (a b : Vl) (h : Hv) : callN T (n + 1) 8 [a, b] h = finR 2 h (retOf (evSs T (callN T n) b_Changeu_equ [some a, some b] h)) := (callD D8.e).trans rfl
class D9 (T : Tab) : Prop where
  e : T.defs 9 = some f_Changeu_rshiftu
theorem c9 {T : Tab} [D9 T] (n : Nat) (a b : Vl) (h : Hv) : callN T (n + 1) 9 [a, b] h = finR 2 h (retOf (evSs T (callN T n) b_Changeu_rshiftu [some a, some b, none, none, none, none] h)) := (callD D9.e).trans rfl
class D10 (T : Tab) : Prop where
  e : T.defs 10 = some f_Changeu_callu
theorem c10 {T : Tab} [D10 T] (n : Nat) (a b : Vl) (h : Hv) : callN T (n + 1) 10 [a, b] h = finR 2 h (retOf (evSs T (callN T n) b_Changeu_callu [some a, some b] h)) := (callD D10.e).trans rfl
class D11 (T : Tab) : Prop where
  e : T.defs 11 = some f_Notesu_initu
theorem c11 {T : Tab} [D11 T] (n : Nat) (a b : Vl) (h : Hv) : callN T (n + 1) 11 [a, b] h = retOf (evSs T (callN T n) b_Notesu_initu [some a, some b] h) := (callD D11.e).trans rfl
theorem c11_1 {T : Tab} [D11 T] (n : Nat) (a : Vl) (h : Hv) : callN T (n + 1) 11 [a] h = retOf (evSs T (callN T n) b_Notesu_initu [some a, some (.non)] h) := (callD D11.e).trans rfl
class D12 (T : Tab) : Prop where
  e : T.defs 12 = some f_Notesu_getitemu
theorem c12 {T : Tab} [D12 T] (n : Nat) (a b : Vl) (h : Hv) : callN T (n + 1) 12 [a, b] h = finR 2 h (retOf (evSs T (callN T n) b_Notesu_getitemu [some a, some b] h)) := (callD D12.e).trans rfl
class D13 (T : Tab) : Prop where
  e : T.defs 13 = some f_Notesu_setitemu
theorem c13 {T : Tab} [D13 T] (n : Nat) (a b c : Vl) (h : Hv) : callN T (n + 1) 13 [a, b, c] h = retOf (evSs T (callN T n) b_Notesu_setitemu [some a, some b, some c] h) := (callD D13.e).trans rfl
class D14 (T : Tab) : Prop where
  e : T.defs 14 = some f_Notesu_containsu
theorem c14 {T : Tab} [D14 T] (n : Nat) (a b : Vl) (h : Hv) : callN T (n + 1) 14 [a, b] h = finR 2 h (retOf (evSs T (callN T n) b_Notesu_containsu [some a, some b] h)) := (callD D14.e).trans rfl
class D15 (T : Tab) : Prop where
  e : T.defs 15 = some f_Notesu_lenu
theorem c15 {T : Tab} [D15 T] (n : Nat) (a : Vl) (h : Hv) : callN T (n + 1) 15 [a] h = finR 2 h (retOf (evSs T (callN T n) b_Notesu_lenu [some a] h)) := (callD D15.e).trans rfl
class D16 (T : Tab) : Prop where
  e : T.defs 16 = some f_Notes_pairs
theorem c16 {T : Tab} [D16 T] (n : Nat) (a : Vl) (h : Hv) : callN T (n + 1) 16 [a] h = finR 2 h (retOf (evSs T (callN T n) b_Notes_pairs [some a, none] h)) := (callD D16.e).trans rfl
class D17 (T : Tab) : Prop where
  e : T.defs 17 = some f_Notesu_addu
theorem c17 {T : Tab} [D17 T] (n : Nat) (a b : Vl) (h : Hv) : callN T (n + 1) 17 [a, b] h = finR 2 h (retOf (evSs T (callN T n) b_Notesu_addu [some a, some b] h)) := (callD D17.e).trans rfl
class D18 (T : Tab) : Prop where
  e : T.defs 18 = some f_Notesu_iaddu
theorem c18 {T : Tab} [D18 T] (n : Nat) (a b : Vl) (h : Hv) : callN T (n + 1) 18 [a, b] h = retOf (evSs T (callN T n) b_Notesu_iaddu [some a, some b] h) := (callD D18.e).trans rfl
class D19 (T : Tab) : Prop where
  e : T.defs 19 = some f_Notesu_equ
theorem c19 {T : Tab} [D19 T] (n : Nat) (a b : Vl) (h : Hv) : callN T (n + 1) 19 [a, b] h = finR 2 h (retOf (evSs T (callN T n) b_Notesu_equ [some a, some b] h)) := (callD D19.e).trans rfl
class D20 (T : Tab) : Prop where
  e : T.defs 20 = some f_Notesu_ltu
theorem c20 {T : Tab} [D20 T] (n : Nat) (a b : Vl) (h : Hv) : callN T (n + 1) 20 [a, b] h = finR 2 h (retOf (evSs T (callN T n) b_Notesu_ltu [some a, some b] h)) := (callD D20.e).trans rfl
class D21 (T : Tab) : Prop where
  e : T.defs 21 = some f_Notesu_leu
theorem c21 {T : Tab} [D21 T] (n : Nat) (a b : Vl) (h : Hv) : callN T (n + 1) 21 [a, b] h = finR 2 h (retOf (evSs T (callN T n) b_Notesu_leu [some a, some b] h)) := (callD D21.e).trans rfl
class D22 (T : Tab) : Prop where
  e : T.defs 22 = some f_Notesu_gtu
theorem c22 {T : Tab} [D22 T] (n : Nat) (a b : Vl) (h : Hv) : callN T (n + 1) 22 [a, b] h = finR 2 h (retOf (evSs T (callN T n) b_Notesu_gtu [some a, some b] h)) := (callD D22.e).trans rfl
class D23 (T : Tab) : Prop where
  e : T.defs 23 = some f_Notesu_geu
theorem c23 {T : Tab} [D23 T] (n : Nat) (a b : Vl) (h : Hv) : callN T (n + 1) 23 [a, b] h = finR 2 h (retOf (evSs T (callN T n) b_Notesu_geu [some a, some b] h)) := (callD D23.e).trans rfl
class D24 (T : Tab) : Prop where
  e : T.defs 24 = some f_within
theorem c24 {T : Tab} [D24 T] (n : Nat) (a b c : Vl) (h : Hv) : callN T (n + 1) 24 [a, b, c] h = finR 2 h (retOf (evSs T (callN T n) b_within [some a, some b, some c] h)) := (callD D24.e).trans rfl
class D25 (T : Tab) : Prop where
  e : T.defs 25 = some f_common
theorem c25 {T : Tab} [D25 T] (n : Nat) (a b : Vl) (h : Hv) : callN T (n + 1) 25 [a, b] h = finR 2 h (retOf (evSs T (callN T n) b_common [some a, some b, none, none] h)) := (callD D25.e).trans rfl
class D26 (T : Tab) : Prop where
  e : T.defs 26 = some f_sides
theorem c26 {T : Tab} [D26 T] (n : Nat) (a b : Vl) (h : Hv) : callN T (n + 1) 26 [a, b] h = finR 2 h (retOf (evSs T (callN T n) b_sides [some a, some b, none] h)) := (callD D26.e).trans rfl
class D27 (T : Tab) : Prop where
  e : T.defs 27 = some f_nearest
theorem c27 {T : Tab} [D27 T] (n : Nat) (a b : Vl) (h : Hv) : callN T (n + 1) 27 [a, b] h = finR 2 h (retOf (evSs T (callN T n) b_nearest [some a, some b] h)) := (callD D27.e).trans rfl
class D28 (T : Tab) : Prop where
  e : T.defs 28 = some f_moved
theorem c28 {T : Tab} [D28 T] (n : Nat) (a b : Vl) (h : Hv) : callN T (n + 1) 28 [a, b] h = finR 2 h (retOf (evSs T (callN T n) b_moved [some a, some b] h)) := (callD D28.e).trans rfl
class D29 (T : Tab) : Prop where
  e : T.defs 29 = some f_Patternu_initu
theorem c29 {T : Tab} [D29 T] (n : Nat) (a b : Vl) (h : Hv) : callN T (n + 1) 29 [a, b] h = retOf (evSs T (callN T n) b_Patternu_initu [some a, some b, none] h) := (callD D29.e).trans rfl
theorem c29_1 {T : Tab} [D29 T] (n : Nat) (a : Vl) (h : Hv) : callN T (n + 1) 29 [a] h = retOf (evSs T (callN T n) b_Patternu_initu [some a, some (.non), none] h) := (callD D29.e).trans rfl
class D30 (T : Tab) : Prop where
  e : T.defs 30 = some f_Pattern_limits
theorem c30 {T : Tab} [D30 T] (n : Nat) (a : Vl) (h : Hv) : callN T (n + 1) 30 [a] h = finR 2 h (retOf (evSs T (callN T n) b_Pattern_limits [some a] h)) := (callD D30.e).trans rfl
class D31 (T : Tab) : Prop where
  e : T.defs 31 = some f_Patternu_containsu
theorem c31 {T : Tab} [D31 T] (n : Nat) (a b : Vl) (h : Hv) : callN T (n + 1) 31 [a, b] h = finR 2 h (retOf (evSs T (callN T n) b_Patternu_containsu [some a, some b, none, none, none] h)) := (callD D31.e).trans rfl
class D32 (T : Tab) : Prop where
  e : T.defs 32 = some f_Patternu_equ
theorem c32 {T : Tab} [D32 T] (n : Nat) (a b : Vl) (h : Hv) : callN T (n + 1) 32 [a, b] h = finR 2 h (retOf (evSs T (callN T n) b_Patternu_equ [some a, some b] h)) := (callD D32.e).trans rfl
class D33 (T : Tab) : Prop where
  e : T.defs 33 = some f_Patternu_andu
theorem c33 {T : Tab} [D33 T] (n : Nat) (a b : Vl) (h : Hv) : callN T (n + 1) 33 [a, b] h = finR 2 h (retOf (evSs T (callN T n) b_Patternu_andu [some a, some b, none, none, none, none, none] h)) := (callD D33.e).trans rfl
class D34 (T : Tab) : Prop where
  e : T.defs 34 = some f_Patternu_leu
theorem c34 {T : Tab} [D34 T] (n : Nat) (a b : Vl) (h : Hv) : callN T (n + 1) 34 [a, b] h = finR 2 h (retOf (evSs T (callN T n) b_Patternu_leu [some a, some b, none, none, none, none] h)) := (callD D34.e).trans rfl
class D35 (T : Tab) : Prop where
  e : T.defs 35 = some f_Patternu_subu
theorem c35 {T : Tab} [D35 T] (n : Nat) (a b : Vl) (h : Hv) : callN T (n + 1) 35 [a, b] h = finR 2 h (retOf (evSs T (callN T n) b_Patternu_subu [some a, some b, none, none, none, none, none, none, none, none, none, none] h)) := (callD D35.e).trans rfl
class D36 (T : Tab) : Prop where
  e : T.defs 36 = some f_Pattern_least
theorem c36 {T : Tab} [D36 T] (n : Nat) (a : Vl) (h : Hv) : callN T (n + 1) 36 [a] h = finR 2 h (retOf (evSs T (callN T n) b_Pattern_least [some a, none, none, none] h)) := (callD D36.e).trans rfl
class D37 (T : Tab) : Prop where
  e : T.defs 37 = some f_Pattern_before
theorem c37 {T : Tab} [D37 T] (n : Nat) (a b : Vl) (h : Hv) : callN T (n + 1) 37 [a, b] h = finR 2 h (retOf (evSs T (callN T n) b_Pattern_before [some a, some b, none, none, none, none, none, none] h)) := (callD D37.e).trans rfl
class D38 (T : Tab) : Prop where
  e : T.defs 38 = some f_first_around
theorem c38 {T : Tab} [D38 T] (n : Nat) (a b : Vl) (h : Hv) : callN T (n + 1) 38 [a, b] h = finR 2 h (retOf (evSs T (callN T n) b_first_around [some a, some b, none] h)) := (callD D38.e).trans rfl
class D39 (T : Tab) : Prop where
  e : T.defs 39 = some f_insert_piece
theorem c39 {T : Tab} [D39 T] (n : Nat) (a b : Vl) (h : Hv) : callN T (n + 1) 39 [a, b] h = retOf (evSs T (callN T n) b_insert_piece [some a, some b, none, none, none, none] h) := (callD D39.e).trans rfl
class D40 (T : Tab) : Prop where
  e : T.defs 40 = some f_least_outside
theorem c40 {T : Tab} [D40 T] (n : Nat) (a b : Vl) (h : Hv) : callN T (n + 1) 40 [a, b] h = finR 2 h (retOf (evSs T (callN T n) b_least_outside [some a, some b, none, none, none, none, none] h)) := (callD D40.e).trans rfl
class D300 (T : Tab) : Prop where
  e : T.defs 300 = some f__law_pool
theorem c300 {T : Tab} [D300 T] (n : Nat) (a : Vl) (h : Hv) : callN T (n + 1) 300 [a] h = retOf (evSs T (callN T n) b__law_pool [some a, none, none, none, none, none] h) := (callD D300.e).trans rfl
class D301 (T : Tab) : Prop where
  e : T.defs 301 = some f__law_draw
theorem c301 {T : Tab} [D301 T] (n : Nat) (a b : Vl) (h : Hv) : callN T (n + 1) 301 [a, b] h = retOf (evSs T (callN T n) b__law_draw [some a, some b, none] h) := (callD D301.e).trans rfl
class D302 (T : Tab) : Prop where
  e : T.defs 302 = some f__law_names
theorem c302 {T : Tab} [D302 T] (n : Nat) (a b : Vl) (h : Hv) : callN T (n + 1) 302 [a, b] h = finR 2 h (retOf (evSs T (callN T n) b__law_names [some a, some b, none, none, none, none, none, none] h)) := (callD D302.e).trans rfl
class D303 (T : Tab) : Prop where
  e : T.defs 303 = some f__law_is_integer
theorem c303 {T : Tab} [D303 T] (n : Nat) (a : Vl) (h : Hv) : callN T (n + 1) 303 [a] h = finR 2 h (retOf (evSs T (callN T n) b__law_is_integer [some a] h)) := (callD D303.e).trans rfl
class D304 (T : Tab) : Prop where
  e : T.defs 304 = some f__law_far
theorem c304 {T : Tab} [D304 T] (n : Nat) (a : Vl) (h : Hv) : callN T (n + 1) 304 [a] h = finR 2 h (retOf (evSs T (callN T n) b__law_far [some a] h)) := (callD D304.e).trans rfl
class D305 (T : Tab) : Prop where
  e : T.defs 305 = some f__law_limits
theorem c305 {T : Tab} [D305 T] (n : Nat) (a b c : Vl) (h : Hv) : callN T (n + 1) 305 [a, b, c] h = finR 2 h (retOf (evSs T (callN T n) b__law_limits [some a, some b, some c, none, none, none, none, none] h)) := (callD D305.e).trans rfl
class D306 (T : Tab) : Prop where
  e : T.defs 306 = some f__law_listed
theorem c306 {T : Tab} [D306 T] (n : Nat) (a : Vl) (h : Hv) : callN T (n + 1) 306 [a] h = finR 2 h (retOf (evSs T (callN T n) b__law_listed [some a, none, none, none, none] h)) := (callD D306.e).trans rfl
class D307 (T : Tab) : Prop where
  e : T.defs 307 = some f__law_is_limit
theorem c307 {T : Tab} [D307 T] (n : Nat) (a b : Vl) (h : Hv) : callN T (n + 1) 307 [a, b] h = finR 2 h (retOf (evSs T (callN T n) b__law_is_limit [some a, some b] h)) := (callD D307.e).trans rfl
class D308 (T : Tab) : Prop where
  e : T.defs 308 = some f__law_same_limits
theorem c308 {T : Tab} [D308 T] (n : Nat) (a b : Vl) (h : Hv) : callN T (n + 1) 308 [a, b] h = finR 2 h (retOf (evSs T (callN T n) b__law_same_limits [some a, some b, none, none] h)) := (callD D308.e).trans rfl
end K01
end

section
set_option Elab.async false
set_option linter.all false
set_option maxRecDepth 100000
set_option maxHeartbeats 4000000
set_option autoImplicit false
/-! E3: what is frozen at the end of a call. -/
namespace K01
open PySem L2 Core
mutual
theorem below_le {m n : Nat} (h : m ≤ n) : ∀ v : Vl, below m v = true → below n v = true
  | .tup l, b => by rw [below] at b ⊢; exact belows_le h l b
  | .fl l, b => by rw [below] at b ⊢; exact belows_le h l b
  | .fd l, b => by rw [below] at b ⊢; exact belowK_le h l b
  | .fo _ l, b => by rw [below] at b ⊢; exact belowF_le h l b
  | .ref k, b => by rw [below, decide_eq_true_eq] at b ⊢; omega
  | .non, _ => rfl
  | .bl _, _ => rfl
  | .int _, _ => rfl
  | .str _, _ => rfl
theorem belows_le {m n : Nat} (h : m ≤ n) : ∀ l : List Vl, belows m l = true → belows n l = true
  | [], _ => rfl
  | v :: r, b => by
    rw [belows, Bool.and_eq_true] at b ⊢
    exact ⟨below_le h v b.1, belows_le h r b.2⟩
theorem belowK_le {m n : Nat} (h : m ≤ n) : ∀ l : List (Key × Vl), belowK m l = true → belowK n l = true
  | [], _ => rfl
  | (_, v) :: r, b => by
    rw [belowK, Bool.and_eq_true] at b ⊢
    exact ⟨below_le h v b.1, belowK_le h r b.2⟩
theorem belowF_le {m n : Nat} (h : m ≤ n) : ∀ l : List (Nat × Vl), belowF m l = true → belowF n l = true
  | [], _ => rfl
  | (_, v) :: r, b => by
    rw [belowF, Bool.and_eq_true] at b ⊢
    exact ⟨below_le h v b.1, belowF_le h r b.2⟩
end
abbrev pu (v : Vl) : Prop := below 0 v = true
theorem pu_KG {α : Type} {e : α → Vl} (he : ∀ a, pu (e a)) : ∀ D : List (Str × α), belowK 0 (KG e D) = true
  | [] => rfl
  | p :: r => by
    show belowK 0 ((.inr p.1, e p.2) :: KG e r) = true
    rw [belowK, he, pu_KG he r]; rfl
theorem pu_map {α : Type} {g : α → Vl} (hg : ∀ a, pu (g a)) : ∀ l : List α, belows 0 (l.map g) = true
  | [] => rfl
  | a :: r => by rw [List.map_cons, belows, hg, pu_map hg r]; rfl
theorem pu_fd {α : Type} {e : α → Vl} (he : ∀ a, pu (e a)) (D : List (Str × α)) : pu (.fd (KG e D)) := by
  show below 0 _ = true
  rw [below]; exact pu_KG he D
theorem pu_fl {α : Type} {g : α → Vl} (hg : ∀ a, pu (g a)) (l : List α) : pu (.fl (l.map g)) := by
  show below 0 _ = true
  rw [below]; exact pu_map hg l
theorem pu_tup {α : Type} {g : α → Vl} (hg : ∀ a, pu (g a)) (l : List α) : pu (.tup (l.map g)) := by
  show below 0 _ = true
  rw [below]; exact pu_map hg l
/-! ### dropping -/
theorem take_fr {h0 h : Hv} (F : Fr [] h0 h) : h.take h0.length = h0 := by
  apply List.ext_getElem?
  intro i
  rw [List.getElem?_take]
  split
  · rename_i c; exact F.2 i c (by simp)
  · rename_i c; exact (List.getElem?_eq_none (by omega)).symm
theorem take_frS {h0 h : Hv} {k : Nat} {c : Cell} (F : Fr [k] h0 h) (hk : h[k]? = some c) (l : k < h0.length) : h.take h0.length = h0.set k c := by
  apply List.ext_getElem?
  intro i
  rw [List.getElem?_take]
  by_cases e : k = i
  · subst e
    rw [if_pos l, List.getElem?_set_self l]; exact hk
  · rw [List.getElem?_set_ne e]
    split
    · rename_i c; exact F.2 i c (by simp; omega)
    · rename_i c; exact (List.getElem?_eq_none (by omega)).symm
theorem ctP {h0 h : Hv} {v : Vl} (F : Fr [] h0 h) (p : pu v) : cutR h0 (.ok v h) = .ok v h0 := by
  unfold cutR
  simp only
  rw [if_pos ⟨⟨below_le (Nat.zero_le _) v p, fun i c l e => .inl ((F.2 i l (by simp)).symm.trans e)⟩, F.1⟩, take_fr F]
theorem ctX {h0 h : Hv} {c : Nat} {fs : List (Nat × Vl)} (F : Fr [] h0 h) (p : belowF 0 fs = true) : cutR h0 (.ex c fs h) = .ex c fs h0 := by
  unfold cutR
  simp only
  rw [if_pos ⟨⟨by rw [below]; exact belowF_le (Nat.zero_le _) fs p, fun i c l e => .inl ((F.2 i l (by simp)).symm.trans e)⟩, F.1⟩, take_fr F]
theorem ctS {h0 h : Hv} {v : Vl} {k : Nat} {q : Int} (F : Fr [k] h0 h) (hk : h[k]? = some (.lst [.int q])) (l : k < h0.length) (p : pu v) : cutR h0 (.ok v h) = .ok v (h0.set k (.lst [.int q])) := by
  unfold cutR
  simp only
  have ok : CutOk h0 v h := ⟨below_le (Nat.zero_le _) v p, fun i c l e => by
    by_cases z : i = k
    · subst z
      rw [hk] at e; cases e
      exact .inr (by simp [belowC, belows, below])
    · exact .inl ((F.2 i l (by simp; exact z)).symm.trans e)⟩
  rw [if_pos ⟨ok, F.1⟩, take_frS F hk l]
/-! ### freezing -/
theorem fz_p {n : Nat} {v : Vl} {h : Hv} (p : pu v) : fzF (n + 1) v h = some (v, h) := by
  unfold fzF
  rw [if_pos p]
theorem fzL_p {n : Nat} {h : Hv} : ∀ {l : List Vl}, belows 0 l = true → fzF.fzL (fzF (n + 1)) l h = some (l, h)
  | [], _ => rfl
  | v :: r, b => by
    rw [belows, Bool.and_eq_true] at b
    rw [fzF.fzL, fz_p b.1]
    simp only [fzL_p b.2]
theorem bK_vals : ∀ {l : List (Key × Vl)}, belowK 0 l = true → belows 0 (l.map (·.2)) = true
  | [], _ => rfl
  | (k, v) :: r, b => by
    rw [belowK, Bool.and_eq_true] at b
    rw [List.map_cons, belows, b.1, bK_vals b.2]; rfl
theorem bF_vals : ∀ {l : List (Nat × Vl)}, belowF 0 l = true → belows 0 (l.map (·.2)) = true
  | [], _ => rfl
  | (k, v) :: r, b => by
    rw [belowF, Bool.and_eq_true] at b
    rw [List.map_cons, belows, b.1, bF_vals b.2]; rfl
theorem zip_same {α β : Type} : ∀ l : List (α × β), (l.map (·.1)).zip (l.map (·.2)) = l
  | [] => rfl
  | a :: r => by rw [List.map_cons, List.map_cons, List.zip_cons_cons, zip_same r]
theorem nb_ref (m : Nat) : ¬ below 0 (.ref m) = true := by
  rw [below]; simp
theorem fz_d {n m : Nat} {l : List (Key × Vl)} {h : Hv} (hm : h[m]? = some (.dct l)) (p : belowK 0 l = true) : fzF (n + 2) (.ref m) h = some (.fd l, h.set m .dead) := by
  unfold fzF
  rw [if_neg (nb_ref m)]
  simp only [hm, fzL_p (bK_vals p), zip_same]
theorem fz_l {n m : Nat} {l : List Vl} {h : Hv} (hm : h[m]? = some (.lst l)) (p : belows 0 l = true) : fzF (n + 2) (.ref m) h = some (.fl l, h.set m .dead) := by
  unfold fzF
  rw [if_neg (nb_ref m)]
  simp only [hm, fzL_p p, if_true]
theorem fz_o {n m c : Nat} {l : List (Nat × Vl)} {h : Hv} (hm : h[m]? = some (.obj c l)) (p : belowF 0 l = true) : fzF (n + 2) (.ref m) h = some (.fo c l, h.set m .dead) := by
  unfold fzF
  rw [if_neg (nb_ref m)]
  simp only [hm, fzL_p (bF_vals p), zip_same]
theorem fr_dead {X : List Nat} {h0 h : Hv} {m : Nat} {c : Cell} (F : Fr X h0 h) (l : h0.length ≤ m) : Fr X h0 (h.set m c) := ⟨by rw [List.length_set]; exact F.1, fun j hj n => by rw [List.getElem?_set_ne (by omega)]; exact F.2 j hj n⟩
theorem fin2_p {h0 h : Hv} {v : Vl} (F : Fr [] h0 h) (p : pu v) : finR 2 h0 (.ok v h) = .ok v h0 := by
  show (match fzF 60 v h with
    | some (v', h2) => cutR h0 (.ok v' h2)
    | none => .st) = _
  rw [fz_p p]
  exact ctP F p
theorem fin2_0 {h : Hv} {v : Vl} (p : pu v) : finR 2 h (.ok v h) = .ok v h := fin2_p (.refl _ _) p
theorem fin2_d {h0 h : Hv} {m : Nat} {l : List (Key × Vl)} (F : Fr [] h0 h) (hm : h[m]? = some (.dct l)) (g : h0.length ≤ m) (p : belowK 0 l = true) : finR 2 h0 (.ok (.ref m) h) = .ok (.fd l) h0 := by
  show (match fzF 60 (.ref m) h with
    | some (v', h2) => cutR h0 (.ok v' h2)
    | none => .st) = _
  rw [fz_d hm p]
  exact ctP (fr_dead F g) (by show below 0 _ = true; rw [below]; exact p)
theorem fin2_l {h0 h : Hv} {m : Nat} {l : List Vl} (F : Fr [] h0 h) (hm : h[m]? = some (.lst l)) (g : h0.length ≤ m) (p : belows 0 l = true) : finR 2 h0 (.ok (.ref m) h) = .ok (.fl l) h0 := by
  show (match fzF 60 (.ref m) h with
    | some (v', h2) => cutR h0 (.ok v' h2)
    | none => .st) = _
  rw [fz_l hm p]
  exact ctP (fr_dead F g) (by show below 0 _ = true; rw [below]; exact p)
theorem fin2_x {h0 h : Hv} {c : Nat} {fs : List (Nat × Vl)} (F : Fr [] h0 h) (p : belowF 0 fs = true) : finR 2 h0 (.ex c fs h) = .ex c fs h0 := ctX F p
theorem fin2_pS {h0 h : Hv} {v : Vl} {k : Nat} {q : Int} (F : Fr [k] h0 h) (hk : h[k]? = some (.lst [.int q])) (l : k < h0.length) (p : pu v) : finR 2 h0 (.ok v h) = .ok v (h0.set k (.lst [.int q])) := by
  show (match fzF 60 v h with
    | some (v', h2) => cutR h0 (.ok v' h2)
    | none => .st) = _
  rw [fz_p p]
  exact ctS F hk l p
theorem fin2_dS {h0 h : Hv} {m k : Nat} {q : Int} {l : List (Key × Vl)} (F : Fr [k] h0 h) (hk : h[k]? = some (.lst [.int q])) (lk : k < h0.length) (hm : h[m]? = some (.dct l)) (g : h0.length ≤ m) (p : belowK 0 l = true) : finR 2 h0 (.ok (.ref m) h) = .ok (.fd l) (h0.set k (.lst [.int q])) := by
  show (match fzF 60 (.ref m) h with
    | some (v', h2) => cutR h0 (.ok v' h2)
    | none => .st) = _
  rw [fz_d hm p]
  exact ctS (fr_dead F g) (by rw [List.getElem?_set_ne (by omega)]; exact hk) lk (by show below 0 _ = true; rw [below]; exact p)
theorem fin2_lS {h0 h : Hv} {m k : Nat} {q : Int} {l : List Vl} (F : Fr [k] h0 h) (hk : h[k]? = some (.lst [.int q])) (lk : k < h0.length) (hm : h[m]? = some (.lst l)) (g : h0.length ≤ m) (p : belows 0 l = true) : finR 2 h0 (.ok (.ref m) h) = .ok (.fl l) (h0.set k (.lst [.int q])) := by
  show (match fzF 60 (.ref m) h with
    | some (v', h2) => cutR h0 (.ok v' h2)
    | none => .st) = _
  rw [fz_l hm p]
  exact ctS (fr_dead F g) (by rw [List.getElem?_set_ne (by omega)]; exact hk) lk (by show below 0 _ = true; rw [below]; exact p)
section
variable {T : Tab} {cl : Cl} {s : Lo} {h h1 h2 : Hv}
theorem frz_o {e : CE} {m c : Nat} {fs : List (Nat × Vl)} (he : evE T cl false e s h = .ok (.ref m) h1) (hm : h1[m]? = some (.obj c fs)) (g : h.length ≤ m) (F : Fr [] h h1) (p : belowF 0 fs = true) : evE T cl false (.frz e) s h = .ok (.fo c fs) h := by
  rw [evE, he]
  show tw false (match fzF 60 (.ref m) h1 with
    | some (v', h2) => cutR h (.ok v' h2)
    | none => .st) = _
  rw [fz_o hm p]
  exact ctP (fr_dead F g) (by show below 0 _ = true; rw [below]; exact p)
theorem frz_x {e : CE} {c : Nat} {fs : List (Nat × Vl)} (he : evE T cl false e s h = .ex c fs h1) : evE T cl false (.frz e) s h = .ex c fs h1 := by
  rw [evE, he]; rfl
theorem mk1 {e : CE} {v : Vl} {c f : Nat} (hs : T.sp c .init = some f) (he : evE T cl false e s h = .ok v h1) (hi : cl f [.ref h1.length, v] (h1 ++ [.obj c []]) = .ok .non h2) : evE T cl false (.mk c (.cons e .nil)) s h = .ok (.ref h1.length) h2 := by
  rw [evE, evEs, he]
  simp only [rb, evEs, tw0, mkD', spC, hs, hi]
theorem mk0 {c f : Nat} (hs : T.sp c .init = some f) (hi : cl f [.ref h.length] (h ++ [.obj c []]) = .ok .non h2) : evE T cl false (.mk c .nil) s h = .ok (.ref h.length) h2 := by
  rw [evE, evEs]
  simp only [rb, evEs, tw0, mkD', spC, hs, hi]
/-- a class object that is frozen, by its __init__ -/
theorem frz_mk1 {e : CE} {v : Vl} {c f : Nat} {fs : List (Nat × Vl)} (hs : T.sp c .init = some f) (he : evE T cl false e s h = .ok v h1) (F1 : Fr [] h h1) (hi : cl f [.ref h1.length, v] (h1 ++ [.obj c []]) = .ok .non h2) (hm : h2[h1.length]? = some (.obj c fs)) (F : Fr [h1.length] (h1 ++ [.obj c []]) h2) (p : belowF 0 fs = true) :
    evE T cl false (.frz (.mk c (.cons e .nil))) s h = .ok (.fo c fs) h := by
  have F2 : Fr [] h1 h2 := ((fr_app [h1.length] h1 [.obj c []]).trans F).mono fun j hj hl => by rw [List.mem_singleton] at hj; omega
  exact frz_o (mk1 hs he hi) hm F1.1 (F1.trans F2) p
end
end K01
end

section
set_option Elab.async false
set_option linter.all false
set_option maxRecDepth 100000
set_option maxHeartbeats 4000000
set_option autoImplicit false
/-! PL1: what the laws draw. -/
namespace K01
open PySem L2 Core
section
variable (T : Tab) [D300 T] [D301 T] [D302 T] [D303 T] [D304 T]
theorem draw_ok (n m : Nat) (p : Int) (k : Nat) (h : Hv) (hk : h[k]? = some (.lst [.int p])) (hm : 0 < m) (hb : natBits (m : Int) < 9000) : callN T (n + 1) 301 [.ref k, .int m] h = .ok (.int (p % m)) (h.set k (.lst [.int (p / m)])) := by
  rw [c301]
  simp [b__law_draw, evSs, evS, evE, evEs, evO, evC, evI, tw, Res.bind, bltD, bltF, asO, asS, asL, asD, cmpD, cmpO, cmpF, ltV, ltF, vw, scLt, ofO, tru1, notV, retOf, subD, subF, L2.ixN, binD, binF, setD, chk, asgT, noX, truV, mkL, mkD, hk, hm, hb]
/-- bits -/
theorem bits_le {i : Int} {k : Nat} (h : i.natAbs < 2 ^ (k + 1)) : natBits i ≤ k := by
  unfold natBits
  by_cases z : i.natAbs = 0
  · rw [z]; exact Nat.zero_le _
  · have := (Nat.log2_lt z).mpr h
    omega
theorem mod_bits {i m : Int} {k : Nat} (hm : 0 < m) (hk : m.natAbs ≤ 2 ^ (k + 1)) : natBits (i % m) ≤ k := by
  apply bits_le
  have h1 := Int.emod_nonneg i (Int.ne_of_gt hm)
  have h2 := Int.emod_lt_of_pos i hm
  omega
def PoolR (h : Hv) (r : Res Fl) : Prop := ∃ p : Int, r = .ok (.rt (.ref h.length)) (h ++ [.lst [.int p]])
theorem PoolR.of {h : Hv} {r r' : Res Fl} (e : r = r') (p : PoolR h r') : PoolR h r := e ▸ p
theorem pool_ok (n : Nat) (c : Int) (h : Hv) : ∃ p : Int, callN T (n + 1) 300 [.int c] h = .ok (.ref h.length) (h ++ [.lst [.int p]]) := by
  rw [c300]
  suffices z : PoolR h (evSs T (callN T n) b__law_pool [some (.int c), none, none, none, none, none] h) by
    obtain ⟨p, hp⟩ := z
    exact ⟨p, by rw [hp]; rfl⟩
  have e18 : ∀ (s : Lo), evE T (callN T n) false (.bin .pow true (.int 10) (.int 18)) s h = .ok (.int (10 ^ 18)) h := fun s => by
    rw [ev_bin ev_int ev_int]
    simp only [binF, chk]
    rw [if_pos ⟨by decide, by decide +kernel⟩]
    rfl
  unfold b__law_pool
  by_cases hc : 10 ^ 18 ≤ c
  · have e2 : evE T (callN T n) true (.cmp .ge (.var 0) (.bin .pow true (.int 10) (.int 18))) [some (.int c), none, none, none, none, none] h = .ok (.bl true) h :=
      (ev_cmp (ev_var rfl) (e18 _)).trans (cmp_ii (by simp only [cmpF, decide_eq_true hc]) (by decide))
    refine .of (st_if1 e2 (st_ret (ev_lst1 (ev_bin (ev_var rfl) (e18 _))))) ⟨c - 10 ^ 18, rfl⟩
  · have e2 : evE T (callN T n) true (.cmp .ge (.var 0) (.bin .pow true (.int 10) (.int 18))) [some (.int c), none, none, none, none, none] h = .ok (.bl false) h :=
      (ev_cmp (ev_var rfl) (e18 _)).trans (cmp_ii (by simp only [cmpF, decide_eq_false hc]) (by decide))
    refine .of (st_if0 e2) ?_
    obtain ⟨sd, q1, z1⟩ : Sm T (callN T n) [some (.int c), none, none, none, none, none] h (.bin .add true (.bin .mod true (.blt .int true (.cons (.var 0) .nil)) (.bin .add true (.bin .pow true (.int 10) (.int 18)) (.int 9))) (.int 1)) 74 :=
      sm_add (sm_mod ⟨c, by simp [evE, evEs, tw, Res.bind, bltD, bltF]⟩ (sp_add9 (by decide) (sp_ten 18 (by decide)) (by decide +kernel))) (sm_int (by decide +kernel))
    refine .of (st_set q1) ?_
    obtain ⟨v1, q2, z2⟩ : Sm T (callN T n) [some (.int c), some (.int sd), none, none, none, none] h (.bin .mod true (.bin .fdiv true (.bin .pow true (.bin .mul true (.var 1) (.int 7240983651908273645109283746501928374650192837465019283746501)) (.int 2)) (.bin .pow true (.int 10) (.int 21))) (.bin .pow true (.int 10) (.int 60))) 240 :=
      sm_mod (sm_fdiv (sm_sq (sm_mul (sm_var (x := 1) rfl z1) (sm_int (k := 210) (by decide +kernel)) (by decide)) (by decide)) (sp_ten (fz := true) 21 (by decide)) (by decide)).ex (sp_ten 60 (by decide))
    refine .of (st_set q2) ?_
    obtain ⟨v2, q3, z3⟩ : Sm T (callN T n) [some (.int c), some (.int sd), some (.int v1), none, none, none] h (.bin .mod true (.bin .fdiv true (.bin .pow true (.bin .add true (.var 2) (.var 1)) (.int 2)) (.bin .pow true (.int 10) (.int 33))) (.bin .pow true (.int 10) (.int 60))) 240 :=
      sm_mod (sm_fdiv (sm_sq (sm_add (k := 240) (sm_var (x := 2) rfl z2) (sm_var (x := 1) rfl (Nat.le_trans z1 (by decide)))) (by decide)) (sp_ten (fz := true) 33 (by decide)) (by decide)).ex (sp_ten 60 (by decide))
    refine .of (st_set q3) ?_
    obtain ⟨v3, q4, z4⟩ : Sm T (callN T n) [some (.int c), some (.int sd), some (.int v1), some (.int v2), none, none] h (.bin .mod true (.bin .fdiv true (.bin .pow true (.bin .add true (.var 3) (.bin .mul true (.int 3) (.var 1))) (.int 2)) (.bin .pow true (.int 10) (.int 31))) (.bin .pow true (.int 10) (.int 60))) 240 :=
      sm_mod (sm_fdiv (sm_sq (sm_add (k := 240) (sm_var (x := 3) rfl z3) ((sm_mul (sm_int (i := 3) (k := 2) (by decide +kernel)) (sm_var (x := 1) rfl z1) (by decide)).up (by decide))) (by decide)) (sp_ten (fz := true) 31 (by decide)) (by decide)).ex (sp_ten 60 (by decide))
    refine .of (st_set q4) ?_
    obtain ⟨v4, q5, z5⟩ : Sm T (callN T n) [some (.int c), some (.int sd), some (.int v1), some (.int v2), some (.int v3), none] h (.bin .mod true (.bin .fdiv true (.bin .pow true (.bin .add true (.var 4) (.bin .mul true (.int 7) (.var 1))) (.int 2)) (.bin .pow true (.int 10) (.int 29))) (.bin .pow true (.int 10) (.int 60))) 240 :=
      sm_mod (sm_fdiv (sm_sq (sm_add (k := 240) (sm_var (x := 4) rfl z4) ((sm_mul (sm_int (i := 7) (k := 3) (by decide +kernel)) (sm_var (x := 1) rfl z1) (by decide)).up (by decide))) (by decide)) (sp_ten (fz := true) 29 (by decide)) (by decide)).ex (sp_ten 60 (by decide))
    refine .of (st_set q5) ?_
    obtain ⟨p, q6, _⟩ : Sm T (callN T n) [some (.int c), some (.int sd), some (.int v1), some (.int v2), some (.int v3), some (.int v4)] h (.bin .add true (.bin .mul true (.bin .add true (.bin .mul true (.bin .add true (.bin .mul true (.var 5) (.bin .pow true (.int 10) (.int 60))) (.var 4)) (.bin .pow true (.int 10) (.int 60))) (.var 3)) (.bin .pow true (.int 10) (.int 60))) (.var 2)) 1002 :=
      sm_add (k := 1001) ((sm_mul (sm_add (k := 740) ((sm_mul (sm_add (k := 490) ((sm_mul (sm_var (x := 5) rfl z5) (sp_ten (fz := true) 60 (by decide)).sm (by decide)).up (by decide)) (sm_var (x := 4) rfl (Nat.le_trans z4 (by decide)))) (sp_ten (fz := true) 60 (by decide)).sm (by decide)).up (by decide)) (sm_var (x := 3) rfl (Nat.le_trans z3 (by decide)))) (sp_ten (fz := true) 60 (by decide)).sm (by decide)).up (by decide)) (sm_var (x := 2) rfl (Nat.le_trans z2 (by decide)))
    exact .of (st_ret (ev_lst1 q6)) ⟨p, rfl⟩
theorem draw2 (n : Nat) (m : Int) {p : Int} {k : Nat} {h : Hv} (hk : h[k]? = some (.lst [.int p])) (hm : 0 < m) (hb : natBits m < 9000) :
    ∃ d q, callN T (n + 1) 301 [.ref k, .int m] h = .ok (.int d) (h.set k (.lst [.int q])) ∧ 0 ≤ d ∧ d < m ∧ (h.set k (.lst [.int q]))[k]? = some (.lst [.int q]) := by
  obtain ⟨j, rfl⟩ := Int.eq_ofNat_of_zero_le (Int.le_of_lt hm)
  have hk' : k < h.length := (List.getElem?_eq_some_iff.mp hk).1
  exact ⟨_, _, draw_ok T n j p k h hk (by exact_mod_cast hm) hb, Int.emod_nonneg _ (Int.ne_of_gt hm), Int.emod_lt_of_pos _ hm, by simp [hk']⟩
theorem nb_small {d m : Int} {k : Nat} (h0 : 0 ≤ d) (h1 : d < m) (hm : natBits m ≤ k) : natBits d ≤ k := by
  apply nb_le
  have := nb_lt hm
  omega
theorem ev_ten {cl : Cl} {s : Lo} {h : Hv} (n : Nat) (hn : n < 1000) : evE T cl false (.bin .pow true (.int 10) (.int n)) s h = .ok (.int (10 ^ n)) h := by
  rw [ev_bin ev_int ev_int]
  simp only [binF, chk]
  have : natBits 10 = 3 := by decide +kernel
  rw [if_pos ⟨by omega, by rw [this]; omega⟩]
  simp
theorem mul_ok {fz : Bool} {i j : Int} {h : Hv} (z : natBits i + natBits j < 1000000) : binF .mul fz (.int i) (.int j) h = .ok (.int (i * j)) h := by
  simp only [binF, chk]
  rw [if_pos z]
/-- the pool's cell -/
def PAt (h : Hv) (k : Nat) : Prop := ∃ p : Int, h[k]? = some (.lst [.int p])
/-- the heap but for the pool -/
def Same (k : Nat) (h h' : Hv) : Prop := ∃ q : Int, h' = h.set k (.lst [.int q])
theorem Same.refl {k : Nat} {h : Hv} (hk : PAt h k) : Same k h h := by
  obtain ⟨p, e⟩ := hk
  refine ⟨p, ?_⟩
  apply List.ext_getElem?
  intro j
  by_cases z : k = j
  · subst z; rw [e]; simp [(List.getElem?_eq_some_iff.mp e).1]
  · rw [List.getElem?_set_ne z]
theorem Same.trans {k : Nat} {a b c : Hv} (x : Same k a b) (y : Same k b c) : Same k a c := by
  obtain ⟨p, rfl⟩ := x
  obtain ⟨q, rfl⟩ := y
  exact ⟨q, by rw [List.set_set]⟩
theorem Same.at {k : Nat} {h h' : Hv} (p : PAt h k) (x : Same k h h') : PAt h' k := by
  obtain ⟨p, e⟩ := p
  obtain ⟨q, rfl⟩ := x
  exact ⟨q, by simp [(List.getElem?_eq_some_iff.mp e).1]⟩
theorem Same.ne {k j : Nat} {h h' : Hv} (x : Same k h h') (n : j ≠ k) : h'[j]? = h[j]? := by
  obtain ⟨q, rfl⟩ := x
  rw [List.getElem?_set_ne (Ne.symm n)]
theorem Same.len {k : Nat} {h h' : Hv} (x : Same k h h') : h'.length = h.length := by
  obtain ⟨q, rfl⟩ := x
  simp
theorem draw3 (n : Nat) (m : Int) {k : Nat} {h : Hv} (hk : PAt h k) (hm : 0 < m) (hb : natBits m < 9000) {s : Lo} {x : Nat} (hs : s[x]? = some (some (.ref k))) :
    ∃ d h', evE T (callN T (n + 1)) false (.call 301 (.cons (.var x) (.cons (.int m) .nil))) s h = .ok (.int d) h' ∧ 0 ≤ d ∧ d < m ∧ Same k h h' := by
  obtain ⟨p, e⟩ := hk
  obtain ⟨d, q, h1, h2, h3, _⟩ := draw2 T n m e hm hb
  exact ⟨d, _, (ev_call2 (ev_var hs) ev_int).trans h1, h2, h3, q, rfl⟩
/-- a letter of the alphabet -/
theorem letter_ok (n : Nat) {k : Nat} {h : Hv} (hk : PAt h k) {s : Lo} (hs : s[0]? = some (some (.ref k))) :
    ∃ (c : Nat) (h' : Hv), evE T (callN T (n + 1)) false (.sub (.str "abcdefghijklmnopqrstuvwxyz") (.call 301 (.cons (.var 0) (.cons (.int 26) .nil)))) s h = .ok (.str ⟨#[c]⟩) h' ∧ (97 ≤ c ∧ c < 123) ∧ Same k h h' := by
  obtain ⟨d, h', e, d0, d1, sm⟩ := draw3 T n 26 hk (by decide) (by decide +kernel) hs
  obtain ⟨j, rfl⟩ := Int.eq_ofNat_of_zero_le d0
  have hj : j < 26 := by omega
  have e26 : ("abcdefghijklmnopqrstuvwxyz" : Str).cps.toList.length = 26 := by decide +kernel
  have all : ∀ c ∈ ("abcdefghijklmnopqrstuvwxyz" : Str).cps.toList, (97 ≤ c ∧ c < 123) := by decide +kernel
  obtain ⟨c, hc⟩ : ∃ c, ("abcdefghijklmnopqrstuvwxyz" : Str).cps.toList[j]? = some c := ⟨_, List.getElem?_eq_getElem (by rw [e26]; exact hj)⟩
  refine ⟨c, h', ?_, all c (List.mem_of_getElem? hc), sm⟩
  rw [evE, show evE T (callN T (n + 1)) false (.str "abcdefghijklmnopqrstuvwxyz") s h = .ok (.str "abcdefghijklmnopqrstuvwxyz") h by simp [evE, tw]]
  simp only [tw, Res.bind, e, subD, asO, Bool.false_eq_true, if_false, subF, chk]
  rw [if_pos (show ("abcdefghijklmnopqrstuvwxyz" : Str).length ≤ LIM by decide +kernel)]
  simp only [L2.ixN, e26]
  rw [if_pos (by omega), if_pos (by omega)]
  simp only [Option.bind_some, Int.toNat_natCast, hc, Option.map_some, ofO]
/-- a new name -/
theorem fresh_ok (n : Nat) {k : Nat} {h : Hv} (hk : PAt h k) {s : Lo} (hs : s[0]? = some (some (.ref k))) {z : Nat} (hz : s[5]? = some (some (.int z))) (z8 : z ≤ 8) :
    ∃ (x : Str) (h' : Hv), evE T (callN T (n + 1)) false (.bm .join true (.str "") (.cons (.lc true [7] (.var 7) (.rng1 (.var 5)) .no (.sub (.str "abcdefghijklmnopqrstuvwxyz") (.call 301 (.cons (.var 0) (.cons (.int 26) .nil))))) .nil)) s h = .ok (.str x) h' ∧ Gd x ∧ Same k h h' := by
  have it : evI T (callN T (n + 1)) (.rng1 (.var 5)) s h = .ok (.free (rngL 0 z)) h := by
    rw [evI, ev_var hz]
    simp only [Res.bind, chk]
    rw [if_pos (by omega)]
    simp
  obtain ⟨vs, h', e, hP⟩ := lcR_run (src := .free) (t := .var 7) (cond := fun s h => noX (evC T (callN T (n + 1)) .no s h)) (elt := fun s h => noX (evE T (callN T (n + 1)) false (.sub (.str "abcdefghijklmnopqrstuvwxyz") (.call 301 (.cons (.var 0) (.cons (.int 26) .nil)))) s h)) (s := wipeL s [7])
    (fun r acc h2 => Same k h h2 ∧ ∃ cs : List Nat, acc = cs.map (fun c => Vl.str ⟨#[c]⟩) ∧ (∀ c ∈ cs, (97 ≤ c ∧ c < 123)) ∧ cs.length + r.length = z) (fun _ _ _ _ => trivial)
    (fun v r acc h2 ⟨sm, cs, e1, e2, e3⟩ => by
      have hs' : ((wipeL s [7]).set 7 (some v))[0]? = some (some (.ref k)) := by simp [wipeL, hs]
      obtain ⟨c, h3, e4, c2, sm2⟩ := letter_ok T n (sm.at hk) hs'
      exact ⟨_, h2, true, rfl, by simp [evC, noX], .inl ⟨rfl, .str ⟨#[c]⟩, h3, by simp only [e4, noX], sm.trans sm2, cs ++ [c], by simp [e1], by
        intro y hy
        rcases List.mem_append.mp hy with hy | hy
        · exact e2 y hy
        · rw [List.mem_singleton.mp hy]; exact c2, by simp at e3 ⊢; omega⟩⟩) (rngL 0 z) [] h ⟨Same.refl hk, [], rfl, by simp, by simp [rngL]⟩
  · obtain ⟨sm, cs, e1, e2, e3⟩ := hP
    simp only [List.nil_append] at e1
    subst e1
    have hst : strs? (cs.map (fun c => Vl.str ⟨#[c]⟩)) = some (cs.map fun c => ⟨#[c]⟩) := by
      clear e e2 e3 it
      induction cs with
      | nil => rfl
      | cons c r ih => simp [strs?, ih]
    have hl : cs.length ≤ 8 := by simp at e3; omega
    have hcd : cds (Txt.join "" (cs.map fun c => (⟨#[c]⟩ : Str))) = cs := by
      rw [cds_join]
      clear e e2 e3 it hst hl
      induction cs with
      | nil => rfl
      | cons c r ih => simp [cds] at ih ⊢; exact ih
    refine ⟨Txt.join "" (cs.map fun c => ⟨#[c]⟩), h', ?_, ⟨by rw [hcd]; exact hl, by rw [hcd]; exact e2⟩, sm⟩
    have elc : evE T (callN T (n + 1)) false (.lc true [7] (.var 7) (.rng1 (.var 5)) .no (.sub (.str "abcdefghijklmnopqrstuvwxyz") (.call 301 (.cons (.var 0) (.cons (.int 26) .nil))))) s h = .ok (.fl (cs.map (fun c => Vl.str ⟨#[c]⟩))) h' := by
      exact ev_lc it (by simp [Walk.free, rngL, LIM]; omega) ((unlock_free rfl).trans e)
    rw [evE, show evE T (callN T (n + 1)) false (.str "") s h = .ok (.str "") h by simp [evE, tw]]
    simp only [Res.bind, tw, Bool.false_eq_true, if_false, bmK, if_true, evEs, elc, bmF, joinF, asL, Option.bind_some, hst, chk]
    rw [if_pos]
    have : ((cs.map fun c => (⟨#[c]⟩ : Str)).map (·.length)).sum = cs.length := by
      clear e e2 e3 it hst hl hcd elc
      induction cs with
      | nil => rfl
      | cons c r ih => simp only [List.map_cons, List.sum_cons, ih, List.length_cons]; show 1 + r.length = _; omega
    rw [this]
    have : ("" : Str).length = 0 := by decide +kernel
    rw [this]
    simp [LIM]
    omega
section
variable {T : Tab} {cl : Cl} {s : Lo} {h : Hv}
theorem st_append {x y m : Nat} {l : List Vl} {v : Vl} {r : CSs} {fz : Bool} (hx : s[x]? = some (some (.ref m))) (hy : s[y]? = some (some v)) (hm : h[m]? = some (.lst l)) (hl : l.length < LIM) :
    evSs T cl (.cons (.expr (.bm .append fz (.var x) (.cons (.var y) .nil))) r) s h = evSs T cl r s (h.set m (.lst (l ++ [v]))) := by
  rw [evSs, evS, evE, ev_var hx]
  simp [Res.bind, tw, bmK, bmK.isLst, hm, evEs, ev_var hy, bmF, appF, chk, hl]
/-- a name is told anew, or stays -/
theorem if_name {c e : CE} {r : CSs} {b : Bool} {x : Str} {s : Lo} (hx : s[6]? = some (some (.str x))) (gx : Gd x) (hc : evE T cl true c s h = .ok (.bl b) h) (he : b = true → ∃ y, evE T cl false e s h = .ok (.str y) h ∧ Gd y) :
    ∃ y, evSs T cl (.cons (.ife c (.cons (.set (.var 6) e) .nil) .nil) r) s h = evSs T cl r (s.set 6 (some (.str y))) h ∧ Gd y := by
  cases b with
  | false =>
    refine ⟨x, ?_, gx⟩
    rw [st_if0 hc]
    congr 1
    apply List.ext_getElem?
    intro j
    by_cases z : 6 = j
    · subst z; rw [hx]; simp [(List.getElem?_eq_some_iff.mp hx).1]
    · rw [List.getElem?_set_ne z]
  | true =>
    obtain ⟨y, e1, gy⟩ := he rfl
    refine ⟨y, ?_, gy⟩
    rw [st_if hc]
    simp only [if_true]
    rw [st_set e1, evSs]
end
theorem Same.split {k : Nat} {a t b : Hv} (x : Same k (a ++ t) b) (hk : k < a.length) : ∃ a', b = a' ++ t ∧ Same k a a' := by
  obtain ⟨q, rfl⟩ := x
  exact ⟨a.set k (.lst [.int q]), by rw [List.set_append_left _ _ hk], q, rfl⟩
theorem PAt.app {k : Nat} {a t : Hv} (p : PAt a k) : PAt (a ++ t) k := by
  obtain ⟨q, e⟩ := p
  exact ⟨q, by rw [List.getElem?_append_left (List.getElem?_eq_some_iff.mp e).1]; exact e⟩
theorem PAt.lt {k : Nat} {a : Hv} (p : PAt a k) : k < a.length := let ⟨_, e⟩ := p; (List.getElem?_eq_some_iff.mp e).1
/-- the name before -/
theorem prev_ok {T : Tab} {cl : Cl} {s : Lo} {h : Hv} {m i : Nat} {ns : List Str} (hm : s[2]? = some (some (.ref m))) (hi : s[3]? = some (some (.int i))) (hh : h[m]? = some (.lst (ns.map .str))) (hl : ns.length = i) (h0 : 0 < i) :
    ∃ y, ns[i - 1]? = some y ∧ evE T cl false (.sub (.var 2) (.bin .sub true (.var 3) (.int 1))) s h = .ok (.str y) h := by
  have hlt : i - 1 < ns.length := by omega
  refine ⟨ns[i - 1], List.getElem?_eq_getElem hlt, ?_⟩
  rw [evE, ev_var hm]
  have e2 : evE T cl false (.bin .sub true (.var 3) (.int 1)) s h = .ok (.int ((i : Int) - 1)) h := (ev_bin (ev_var hi) ev_int).trans rfl
  simp only [Res.bind, e2, tw, Bool.false_eq_true, if_false, subD, asO, hh, subF, asS, asL, L2.ixN, List.length_map]
  rw [if_pos (by omega), if_pos (by omega)]
  have e3 : ((i : Int) - 1).toNat = i - 1 := by omega
  simp [e3, List.getElem?_eq_getElem hlt, ofO]
theorem slice_ok {T : Tab} {cl : Cl} {s : Lo} {h : Hv} {e : CE} {hi : CO} {x : Str} {o : Option Int} (he : evE T cl false e s h = .ok (.str x) h) (ho : evO T cl hi s h = .ok o h) (hl : (cds x).length ≤ 100) : evE T cl false (.slc true e .no hi) s h = .ok (.str (cutS x none o)) h := by
  rw [evE, he]
  simp only [Res.bind, evO, ho, tw, Bool.false_eq_true, if_false, slcF, chk]
  rw [if_pos (by rw [cds_len]; unfold LIM; omega)]
theorem addS_ok {T : Tab} {cl : Cl} {s : Lo} {h : Hv} {e f : CE} {x y : Str} (he : evE T cl false e s h = .ok (.str x) h) (hf : evE T cl false f s h = .ok (.str y) h) (hl : (cds x).length + (cds y).length ≤ 100) : evE T cl false (.bin .add true e f) s h = .ok (.str (x ++ y)) h := by
  rw [evE, he]
  simp only [Res.bind, hf, tw, Bool.false_eq_true, if_false, binD, asO, binF, chk]
  rw [if_pos (by rw [cds_len, cds_len]; unfold LIM; omega)]
theorem sIx_lit (n d j : Nat) {v : Int} (hv : v = j) : HT.sIx n d (some v) = min j n := hv ▸ HT.sIx_nat n d j
theorem Gd_app {x y : Str} (gx : Gd x) (gy : Gd y) : ∀ c ∈ cds (x ++ y), 97 ≤ c ∧ c < 123 := fun c hc => by
  rw [cds_app] at hc
  exact (List.mem_append.mp hc).elim (gx.2 c) (gy.2 c)
/-- one turn -/
theorem turn_ok (n : Nat) {k : Nat} {a : Hv} (hk : PAt a k) {ns : List Str} {i : Nat} (hl : ns.length = i) (g : ∀ x ∈ ns, Gd x) (hi : i < 6) (x4 x5 x6 x7 : Option Vl) {b : CSs}
    (hb : b = .cons (.set (.var 4) (.call 301 (.cons (.var 0) (.cons (.int 4) .nil)))) (.cons (.set (.var 5) (.bin .add true (.int 1) (.call 301 (.cons (.var 0) (.cons (.int 8) .nil))))) (.cons (.set (.var 6) (.bm .join true (.str "") (.cons (.lc true [7] (.var 7) (.rng1 (.var 5)) .no (.sub (.str "abcdefghijklmnopqrstuvwxyz") (.call 301 (.cons (.var 0) (.cons (.int 26) .nil))))) .nil))) (.cons (.ife (.and_ (.cmp .eq (.var 4) (.int 1)) (.cmp .gt (.var 3) (.int 0))) (.cons (.set (.var 6) (.slc true (.bin .add true (.sub (.var 2) (.bin .sub true (.var 3) (.int 1))) (.var 6)) .no (.so (.int 8)))) .nil) .nil) (.cons (.ife (.and_ (.cmp .eq (.var 4) (.int 2)) (.cmp .gt (.var 3) (.int 0))) (.cons (.set (.var 6) (.slc true (.sub (.var 2) (.bin .sub true (.var 3) (.int 1))) .no (.so (.var 5)))) .nil) .nil) (.cons (.ife (.and_ (.cmp .eq (.var 4) (.int 3)) (.cmp .gt (.var 3) (.int 0))) (.cons (.set (.var 6) (.bin .add true (.slc true (.sub (.var 2) (.bin .sub true (.var 3) (.int 1))) .no (.so (.neg (.int 1)))) (.slc true (.var 6) .no (.so (.int 1))))) .nil) .nil) (.cons (.expr (.bm .append true (.var 2) (.cons (.var 6) .nil))) .nil))))))) :
    ∃ (y4 y5 y6 : Option Vl) (a' : Hv) (x : Str), evSs T (callN T (n + 1)) b [some (.ref k), some (.int 6), some (.ref a.length), some (.int i), x4, x5, x6, x7] (a ++ [.lst (ns.map .str)]) =
      .ok (.nx [some (.ref k), some (.int 6), some (.ref a.length), some (.int i), y4, y5, y6, x7]) (a' ++ [.lst ((ns ++ [x]).map .str)]) ∧ Same k a a' ∧ Gd x := by
  subst hb
  obtain ⟨w, h1, e1, w0, w1, s1⟩ := draw3 T n 4 (s := [some (.ref k), some (.int 6), some (.ref a.length), some (.int i), x4, x5, x6, x7]) (x := 0) (hk.app (t := [.lst (ns.map .str)])) (by decide) (by decide +kernel) rfl
  obtain ⟨a1, rfl, t1⟩ := s1.split hk.lt
  have k1 := t1.at hk
  have l1 := t1.len
  obtain ⟨d, h2, e2, d0, d1, s2⟩ := draw3 T n 8 (s := [some (.ref k), some (.int 6), some (.ref a.length), some (.int i), some (.int w), x5, x6, x7]) (x := 0) (k1.app (t := [.lst (ns.map .str)])) (by decide) (by decide +kernel) rfl
  obtain ⟨a2, rfl, t2⟩ := s2.split k1.lt
  have k2 := t2.at k1
  have l2 := t2.len
  obtain ⟨z, rfl⟩ := Int.eq_ofNat_of_zero_le d0
  have e2' : evE T (callN T (n + 1)) false (.bin .add true (.int 1) (.call 301 (.cons (.var 0) (.cons (.int 8) .nil)))) [some (.ref k), some (.int 6), some (.ref a.length), some (.int i), some (.int w), x5, x6, x7] (a1 ++ [.lst (ns.map .str)]) = .ok (.int ((z + 1 : Nat) : Int)) (a2 ++ [.lst (ns.map .str)]) := by
    rw [ev_binH ev_int e2]
    simp only [binF]
    congr 2
    push_cast
    omega
  obtain ⟨x, h3, e3, gx, s3⟩ := fresh_ok T n (s := [some (.ref k), some (.int 6), some (.ref a.length), some (.int i), some (.int w), some (.int ((z + 1 : Nat) : Int)), x6, x7]) (z := z + 1) (k2.app (t := [.lst (ns.map .str)])) rfl rfl (by omega)
  obtain ⟨a3, rfl, t3⟩ := s3.split k2.lt
  have l3 := t3.len
  have hm : (a3 ++ [Cell.lst (ns.map .str)])[a.length]? = some (.lst (ns.map .str)) := by
    rw [← l1, ← l2, ← l3]; simp
  have cnd : ∀ (j : Int) (x : Option Vl), evE T (callN T (n + 1)) true (.and_ (.cmp .eq (.var 4) (.int j)) (.cmp .gt (.var 3) (.int 0))) [some (.ref k), some (.int 6), some (.ref a.length), some (.int i), some (.int w), some (.int ((z + 1 : Nat) : Int)), x, x7] (a3 ++ [.lst (ns.map .str)]) =
      .ok (.bl (decide (w = j) && decide ((0 : Int) < i))) (a3 ++ [.lst (ns.map .str)]) := fun j x => and_ev (cmp_ev (ev_var rfl) ev_int (eq_ii _ _) (by decide)) (cmp_ev (ev_var rfl) ev_int (gt_ii _ _) (by decide))
  have prv : ∀ (j : Int) (x : Option Vl), (decide (w = j) && decide ((0 : Int) < i)) = true → ∃ y, Gd y ∧ evE T (callN T (n + 1)) false (.sub (.var 2) (.bin .sub true (.var 3) (.int 1))) [some (.ref k), some (.int 6), some (.ref a.length), some (.int i), some (.int w), some (.int ((z + 1 : Nat) : Int)), x, x7] (a3 ++ [.lst (ns.map .str)]) = .ok (.str y) (a3 ++ [.lst (ns.map .str)]) := fun j x hb => by
    simp at hb
    obtain ⟨y, h1, h2⟩ := prev_ok (cl := callN T (n + 1)) (s := [some (.ref k), some (.int 6), some (.ref a.length), some (.int i), some (.int w), some (.int ((z + 1 : Nat) : Int)), x, x7]) rfl rfl hm hl (by omega)
    exact ⟨y, g y (List.mem_of_getElem? h1), h2⟩
  obtain ⟨x1, e4, g1⟩ := if_name (r := _) (s := [some (.ref k), some (.int 6), some (.ref a.length), some (.int i), some (.int w), some (.int ((z + 1 : Nat) : Int)), some (.str x), x7]) rfl gx (cnd 1 _) (e := .slc true (.bin .add true (.sub (.var 2) (.bin .sub true (.var 3) (.int 1))) (.var 6)) .no (.so (.int 8))) fun hb => by
    obtain ⟨y, gy, ey⟩ := prv 1 (some (.str x)) hb
    have g0 := gx.1
    have g0' := gy.1
    refine ⟨_, slice_ok (addS_ok ey (ev_var rfl) (by omega)) (o := some 8) (by simp [evO, evE, tw, Res.bind]) (by rw [cds_app, List.length_append]; omega), Gd.cut (Gd_app gy gx) ?_⟩
    rw [cds_cut, List.length_take, sIx_lit _ _ 8 (v := 8) rfl]
    omega
  obtain ⟨x2, e5, g2⟩ := if_name (r := _) (s := [some (.ref k), some (.int 6), some (.ref a.length), some (.int i), some (.int w), some (.int ((z + 1 : Nat) : Int)), some (.str x1), x7]) rfl g1 (cnd 2 _) (e := .slc true (.sub (.var 2) (.bin .sub true (.var 3) (.int 1))) .no (.so (.var 5))) fun hb => by
    obtain ⟨y, gy, ey⟩ := prv 2 (some (.str x1)) hb
    have g0' := gy.1
    refine ⟨_, slice_ok ey (o := some ((z + 1 : Nat) : Int)) (by simp [evO, evE, tw, Res.bind]) (by omega), Gd.cut gy.2 ?_⟩
    rw [cds_cut, List.length_take, sIx_lit _ _ (z + 1) (v := ((z + 1 : Nat) : Int)) rfl]
    omega
  obtain ⟨x3, e6, g3⟩ := if_name (r := _) (s := [some (.ref k), some (.int 6), some (.ref a.length), some (.int i), some (.int w), some (.int ((z + 1 : Nat) : Int)), some (.str x2), x7]) rfl g2 (cnd 3 _) (e := .bin .add true (.slc true (.sub (.var 2) (.bin .sub true (.var 3) (.int 1))) .no (.so (.neg (.int 1)))) (.slc true (.var 6) .no (.so (.int 1)))) fun hb => by
    obtain ⟨y, gy, ey⟩ := prv 3 (some (.str x2)) hb
    have g0' := gy.1
    have g0 := g2.1
    have c1 : (cds (cutS y none (some (-1)))).length ≤ 7 := by
      rw [cds_cut, List.length_take, List.length_drop]
      have : HT.sIx y.length y.length (some (-1)) ≤ y.length - 1 := by
        show (if (-1 : Int) < 0 then ((-1 : Int) + (y.length : Int)).toNat else min (-1 : Int).toNat y.length) ≤ _
        rw [if_pos (by decide)]; omega
      rw [cds_len] at this ⊢
      omega
    have c2 : (cds (cutS x2 none (some 1))).length ≤ 1 := by
      rw [cds_cut, List.length_take, sIx_lit _ _ 1 (v := 1) rfl]; omega
    have q1 : Gd (cutS y none (some (-1))) := Gd.cut gy.2 (by omega)
    have q2 : Gd (cutS x2 none (some 1)) := Gd.cut g2.2 (by omega)
    exact ⟨_, addS_ok (slice_ok ey (o := some (-1)) (by simp [evO, evE, tw, Res.bind]) (by omega)) (slice_ok (ev_var rfl) (o := some 1) (by simp [evO, evE, tw, Res.bind]) (by omega)) (by omega), by rw [cds_app, List.length_append]; omega, Gd_app q1 q2⟩
  refine ⟨some (.int w), some (.int ((z + 1 : Nat) : Int)), some (.str x3), a3, x3, ?_, (t1.trans t2).trans t3, g3⟩
  rw [st_set e1]
  refine (st_set e2').trans ?_
  refine (st_set e3).trans ?_
  refine e4.trans ?_
  refine e5.trans ?_
  refine e6.trans ?_
  have l4 : (ns.map Vl.str).length < LIM := by simp; unfold LIM; omega
  have l5 : a3.length = a.length := by omega
  refine (st_append (x := 2) (y := 6) rfl rfl hm l4).trans ?_
  rw [evSs, ← l5]
  simp
theorem names_ok (n : Nat) {k : Nat} {h : Hv} (hk : PAt h k) : ∃ (ns : List Str) (a : Hv), callN T (n + 2) 302 [.ref k, .int 6] h = .ok (.fl (ns.map .str)) a ∧ Same k h a ∧ ns.length = 6 ∧ ∀ x ∈ ns, Gd x := by
  rw [c302]
  unfold b__law_names
  have e0 : evE T (callN T (n + 1)) false (.lst false .nil) [some (.ref k), some (.int 6), none, none, none, none, none, none] h = .ok (.ref h.length) (h ++ [.lst []]) := by
    simp [evE, evEs, tw, Res.bind, chk, LIM, mkL]
  rw [st_set e0]
  have it : evI T (callN T (n + 1)) (.rng1 (.var 1)) [some (.ref k), some (.int 6), some (.ref h.length), none, none, none, none, none] (h ++ [.lst []]) = .ok (.free (rngL 0 6)) (h ++ [.lst []]) := it_rng (n := 6) (ev_var rfl) (by decide)
  obtain ⟨s', h', e1, i, ns, a, x3, x4, x5, x6, x7, sm, rfl, rfl, hl, g, hr, hi⟩ := forR_run (src := .free) (t := .var 3) (body := evSs T (callN T (n + 1)) (.cons (.set (.var 4) (.call 301 (.cons (.var 0) (.cons (.int 4) .nil)))) (.cons (.set (.var 5) (.bin .add true (.int 1) (.call 301 (.cons (.var 0) (.cons (.int 8) .nil))))) (.cons (.set (.var 6) (.bm .join true (.str "") (.cons (.lc true [7] (.var 7) (.rng1 (.var 5)) .no (.sub (.str "abcdefghijklmnopqrstuvwxyz") (.call 301 (.cons (.var 0) (.cons (.int 26) .nil))))) .nil))) (.cons (.ife (.and_ (.cmp .eq (.var 4) (.int 1)) (.cmp .gt (.var 3) (.int 0))) (.cons (.set (.var 6) (.slc true (.bin .add true (.sub (.var 2) (.bin .sub true (.var 3) (.int 1))) (.var 6)) .no (.so (.int 8)))) .nil) .nil) (.cons (.ife (.and_ (.cmp .eq (.var 4) (.int 2)) (.cmp .gt (.var 3) (.int 0))) (.cons (.set (.var 6) (.slc true (.sub (.var 2) (.bin .sub true (.var 3) (.int 1))) .no (.so (.var 5)))) .nil) .nil) (.cons (.ife (.and_ (.cmp .eq (.var 4) (.int 3)) (.cmp .gt (.var 3) (.int 0))) (.cons (.set (.var 6) (.bin .add true (.slc true (.sub (.var 2) (.bin .sub true (.var 3) (.int 1))) .no (.so (.neg (.int 1)))) (.slc true (.var 6) .no (.so (.int 1))))) .nil) .nil) (.cons (.expr (.bm .append true (.var 2) (.cons (.var 6) .nil))) .nil))))))))
    (fun r s h4 => ∃ (i : Nat) (ns : List Str) (a : Hv) (x3 x4 x5 x6 x7 : Option Vl), Same k h a ∧ s = [some (.ref k), some (.int 6), some (.ref h.length), x3, x4, x5, x6, x7] ∧ h4 = a ++ [.lst (ns.map .str)] ∧ ns.length = i ∧ (∀ x ∈ ns, Gd x) ∧ r = (rngL 0 6).drop i ∧ i ≤ 6)
    (fun _ _ _ _ => trivial) (fun v r s h4 ⟨i, ns, a, x3, x4, x5, x6, x7, sm, es, eh, hl, g, hr, hi⟩ => by
      subst es eh
      have hlt : i < 6 := by
        rcases Nat.lt_or_ge i 6 with h | h
        · exact h
        · have : i = 6 := by omega
          subst this
          cases hr
      have hd : (rngL 0 6).drop i = Vl.int i :: (rngL 0 6).drop (i + 1) := by
        rw [List.drop_eq_getElem_cons (by simpa [rngL] using hlt)]
        simp [rngL]
      rw [hd] at hr
      cases hr
      obtain ⟨y4, y5, y6, a', x, e, sm', gx⟩ := turn_ok T n (sm.at hk) hl g hlt x4 x5 x6 x7 rfl
      refine ⟨_, [some (.ref k), some (.int 6), some (.ref h.length), some (.int i), y4, y5, y6, x7], a' ++ [.lst ((ns ++ [x]).map .str)], rfl, .inl ?_, i + 1, ns ++ [x], a', some (.int i), y4, y5, y6, x7, sm.trans sm', rfl, rfl, by simp [hl], fun y hy => ?_, rfl, hlt⟩
      · rw [sm.len] at e
        exact e
      · rcases List.mem_append.mp hy with hy | hy
        · exact g y hy
        · rw [List.mem_singleton.mp hy]; exact gx) (rngL 0 6) [some (.ref k), some (.int 6), some (.ref h.length), none, none, none, none, none] (h ++ [.lst []]) ⟨0, [], h, _, _, _, _, _, Same.refl hk, rfl, rfl, rfl, by simp, rfl, by decide⟩
  have hi6 : i = 6 := by
    have := congrArg List.length hr
    simp [rngL] at this
    omega
  refine ⟨ns, a, ?_, sm, by omega, g⟩
  have := st_for (r := .cons (.ret (.var 2)) .nil) it ((unlock_free rfl).trans e1)
  have z : retOf (evSs T (callN T (n + 1)) _ _ _) = .ok (.ref h.length) (a ++ [.lst (ns.map .str)]) := (congrArg retOf this).trans (by rw [st_ret (ev_var rfl)]; rfl)
  refine (congrArg (finR 2 h) z).trans ?_
  obtain ⟨q, rfl⟩ := sm
  exact fin2_lS ((fr_set (by simp)).trans (fr_app _ _ _)) (get_app (by simp [hk.lt])) hk.lt (get_last' (by simp)) (Nat.le_refl _) (pu_map (fun _ => rfl) _)
theorem isint_ok (n : Nat) (i : Int) (h : Hv) : callN T (n + 1) 303 [.int i] h = .ok (.bl true) h := by
  rw [c303]
  refine Eq.trans (congrArg (finR 2 h) ?_) (fin2_0 (show pu (.bl true) from rfl))
  unfold b__law_is_integer
  have e1 := isin_ev (T := T) (cl := callN T n) (s := [some (.int i)]) (h := h) (t := false) (y := .int) (ev_var (x := 0) rfl) (show tyF T h (.int i) .int = some true from ii)
  have e2 := isin_ev (T := T) (cl := callN T n) (s := [some (.int i)]) (h := h) (t := false) (y := .bool) (ev_var (x := 0) rfl) (show tyF T h (.int i) .bool = some false from ib)
  rw [st_ret (v := .bl true) (h1 := h)]
  · rfl
  · rw [evE, e1]
    simp only [Res.bind]
    rw [evE, e2]
    simp [tw, Res.bind, truV]
theorem drawC (n : Nat) (m : Int) {k : Nat} {h : Hv} (hk : PAt h k) (hm : 0 < m) (hb : natBits m < 9000) :
    ∃ d h', callN T (n + 1) 301 [.ref k, .int m] h = .ok (.int d) h' ∧ 0 ≤ d ∧ d < m ∧ Same k h h' := by
  obtain ⟨p, e⟩ := hk
  obtain ⟨d, q, h1, h2, h3, _⟩ := draw2 T n m e hm hb
  exact ⟨d, _, h1, h2, h3, q, rfl⟩
theorem mem_ptG {α : Type} {D : List (Str × α)} {x : Str} {v : α} {q : Str × α} (h : q ∈ ptG D x v) : q ∈ D ∨ q = (x, v) := by
  unfold ptG at h
  split at h
  · obtain ⟨p, hp, e⟩ := List.mem_map.mp h
    split at e
    · rename_i hx; subst e; exact .inr (by rw [hx])
    · subst e; exact .inl hp
  · rcases List.mem_append.mp h with h | h
    · exact .inl h
    · exact .inr (List.mem_singleton.mp h)
theorem ixS {ns : List Str} {d : Int} (h0 : 0 ≤ d) (h1 : d < ns.length) : ∃ x ∈ ns, (L2.ixN (ns.map Vl.str).length d).bind (fun j => (ns.map Vl.str)[j]?) = some (.str x) := by
  obtain ⟨j, rfl⟩ := Int.eq_ofNat_of_zero_le h0
  have hj : j < ns.length := by simpa using h1
  refine ⟨ns[j], List.getElem_mem hj, ?_⟩
  simp [L2.ixN, hj]
end
end K01
end

section
set_option Elab.async false
set_option linter.all false
set_option maxRecDepth 100000
set_option maxHeartbeats 4000000
set_option autoImplicit false
/-! PL2: limits. -/
namespace K01
open PySem L2 Core
/-- names of the drawn ones, each once -/
def Kn {α : Type} (ns : List Str) (D : List (Str × α)) : Prop := (ksG D).Nodup ∧ ∀ x ∈ ksG D, x ∈ ns
theorem Kn.len {α : Type} {ns : List Str} {D : List (Str × α)} (k : Kn ns D) : D.length ≤ ns.length := by
  have := sub_len k.1 k.2
  simpa [ksG] using this
theorem Kn.filter {α : Type} {ns : List Str} {D : List (Str × α)} (k : Kn ns D) (f : α → Bool) : Kn ns (D.filter fun q => f q.2) := ⟨ndG_filter k.1 f, fun x hx => k.2 x ((ksG_filter D f).subset hx)⟩
theorem Kn.pt {α : Type} {ns : List Str} {D : List (Str × α)} (k : Kn ns D) {x : Str} (hx : x ∈ ns) (v : α) : Kn ns (ptG D x v) := ⟨ndG_ptG k.1 x v, fun y hy => by
  rw [ksG_ptG] at hy
  split at hy
  · exact k.2 y hy
  · rcases List.mem_append.mp hy with hy | hy
    · exact k.2 y hy
    · rw [List.mem_singleton] at hy; subst hy; exact hx⟩
/-- notes that agree with a dict -/
theorem keepC {h h' : Hv} {X : List Nat} {i : Nat} {c : Cell} (d : h[i]? = some c) (F : Fr X h h') (n : i ∉ X) : h'[i]? = some c := (F.2 i (lt_of d) n).trans d
theorem kn_nil {α : Type} {ns : List Str} : Kn ns ([] : List (Str × α)) := ⟨.nil, fun x hx => by cases hx⟩
theorem ne_cell {h : Hv} {a b : Nat} {c d : Cell} (ha : h[a]? = some c) (hb : h[b]? = some d) (n : c ≠ d) : a ≠ b := fun z => by
  subst z
  rw [ha] at hb
  exact n (Option.some.inj hb)
abbrev Lm := Option Int × Option Int
def ow : Option Int → Vl
  | none => .non
  | some i => .int i
def lv (l : Lm) : Vl := .tup [ow l.1, ow l.2]
def tv (q : Str × Lm) : Vl := .tup [.str q.1, ow q.2.1, ow q.2.2]
def PL (L : List (Str × Lm)) : List Vl := L.map tv
def la (l : Lm) : Bool := l.1.isSome || l.2.isSome
def duL (D : List (Str × Lm)) : List (Str × Lm) := lstG (D.filter fun q => la q.2)
def wi (k : Int) (l : Lm) : Bool := (match l.1 with | none => true | some i => decide (i ≤ k)) && (match l.2 with | none => true | some i => decide (k ≤ i))
theorem nd_duL {D : List (Str × Lm)} (nd : (ksG D).Nodup) : (ksG (duL D)).Nodup := nd_lstG (ndG_filter nd la)
theorem lk_duL {D : List (Str × Lm)} (nd : (ksG D).Nodup) (x : Str) : lkG (duL D) x = (lkG D x).filter la := by
  unfold duL
  rw [lk_lstG (ndG_filter nd la), lkG_filter nd]
theorem is_ow (o : Option Int) (h : Hv) : cmpF .is_ (ow o) .non h = some (!o.isSome) := by cases o <;> rfl
theorem isnot_ow (o : Option Int) (h : Hv) : cmpF .isnot (ow o) .non h = some o.isSome := by cases o <;> rfl
theorem eq_ow (a b : Option Int) (h : Hv) (m : Nat) : Core.eqF (m + 1) h (ow a) (ow b) = some (decide (a = b)) := by
  cases a <;> cases b <;> simp [Core.eqF, vw, ow, scEq]
theorem ne_lv (l : Lm) (h : Hv) : cmpF .ne (.tup [ow l.1, ow l.2]) (.tup [.non, .non]) h = some (la l) := by
  show (Core.eqF 60 h (.tup [ow l.1, ow l.2]) (.tup [ow none, ow none])).map (fun b => !b) = _
  rw [show (60 : Nat) = (58 + 1) + 1 from rfl, Core.eqF]
  show (allEqT (Core.eqF (58 + 1) h) [ow l.1, ow l.2] [ow none, ow none]).map (fun b => !b) = _
  simp only [allEqT, eq_ow]
  obtain ⟨a, b⟩ := l
  cases a <;> cases b <;> simp [la]
theorem eq_tv (a b : Str × Lm) (h : Hv) (m : Nat) : Core.eqF (m + 2) h (tv a) (tv b) = some (decide (a = b)) := by
  rw [Core.eqF]
  show allEqT (Core.eqF (m + 1) h) [.str a.1, ow a.2.1, ow a.2.2] [.str b.1, ow b.2.1, ow b.2.2] = _
  have e1 : Core.eqF (m + 1) h (.str a.1) (.str b.1) = some (decide (a.1 = b.1)) := by rw [Core.eqF]; rfl
  simp only [allEqT, eq_ow, e1]
  obtain ⟨x, c, d⟩ := a
  obtain ⟨y, c', d'⟩ := b
  simp only [Prod.mk.injEq, Bool.decide_and, Bool.and_true]
theorem eq_PLT (h : Hv) (m : Nat) : ∀ L M : List (Str × Lm), allEqT (Core.eqF (m + 2) h) (PL L) (PL M) = some (decide (L = M))
  | [], [] => rfl
  | [], _ :: _ => by simp [PL, allEqT]
  | _ :: _, [] => by simp [PL, allEqT]
  | a :: L, b :: M => by
    show (match Core.eqF (m + 2) h (tv a) (tv b), allEqT (Core.eqF (m + 2) h) (PL L) (PL M) with
      | some x, some y => some (x && y)
      | _, _ => none) = _
    rw [eq_tv, eq_PLT h m L M]
    simp
theorem cf_PLT (h : Hv) (L M : List (Str × Lm)) : cmpF .eq (.tup (PL L)) (.tup (PL M)) h = some (decide (L = M)) := by
  show Core.eqF 60 h (.tup (PL L)) (.tup (PL M)) = _
  rw [show (60 : Nat) = (57 + 2) + 1 from rfl, Core.eqF]
  exact eq_PLT h 57 L M
theorem eq_PLL (h : Hv) (m : Nat) : ∀ L M : List (Str × Lm), L.length = M.length → allEq (Core.eqF (m + 2) h) (PL L) (PL M) = some (decide (L = M))
  | [], [], _ => rfl
  | [], _ :: _, e => by cases e
  | _ :: _, [], e => by cases e
  | a :: L, b :: M, e => by
    show (match Core.eqF (m + 2) h (tv a) (tv b), allEq (Core.eqF (m + 2) h) (PL L) (PL M) with
      | some x, some y => some (x && y)
      | _, _ => none) = _
    rw [eq_tv, eq_PLL h m L M (by simpa using e)]
    simp
theorem cf_PLL (h : Hv) (L M : List (Str × Lm)) : cmpF .eq (.fl (PL L)) (.fl (PL M)) h = some (decide (L = M)) := by
  show Core.eqF 60 h (.fl (PL L)) (.fl (PL M)) = _
  rw [show (60 : Nat) = (57 + 2) + 1 from rfl, Core.eqF]
  show (if (PL L).length = (PL M).length then allEq (Core.eqF (57 + 2) h) (PL L) (PL M) else some false) = _
  by_cases e : L.length = M.length
  · rw [if_pos (by simpa [PL] using e)]
    exact eq_PLL h 57 L M e
  · rw [if_neg (by simpa [PL] using e), decide_eq_false fun z => e (by rw [z])]
/-- a dict made of a dict's items that pass -/
theorem dcG {α : Type} {T : Tab} {cl : Cl} {h : Hv} {pe : α → Vl} {D : List (Str × α)} (f : α → Bool) (nd : (ksG D).Nodup) {s0 : Lo} {x : Nat} {c ke e : CE} (st : ∀ z v, (z, v) ∈ D → evE T cl true c (s0.set x (some (.str z))) h = .ok (.bl (f v)) h ∧ evE T cl false ke (s0.set x (some (.str z))) h = .ok (.str z) h ∧ evE T cl false e (s0.set x (some (.str z))) h = .ok (pe v) h) : ∀ (D2 D1 : List (Str × α)), D = D1 ++ D2 →
    dcR .free (.var x) (fun s h => noX (evC T cl (.so c) s h)) (fun s h => noX (evE T cl false ke s h)) (fun s h => noX (evE T cl false e s h)) s0 ((ksG D2).map .str) (KG pe (D1.filter fun q => f q.2)) h = .ok (KG pe (D.filter fun q => f q.2)) h
  | [], D1, e => by
    rw [List.append_nil] at e
    subst e
    show dcR .free _ _ _ _ _ [] _ _ = _
    rw [dcR, if_pos (show Src.free.Ok h from trivial)]
  | (z, v) :: D2, D1, eD => by
    have hm : (z, v) ∈ D := by rw [eD]; simp
    obtain ⟨b1, b2, b3⟩ := st z v hm
    have ih := dcG (pe := pe) f nd st D2 (D1 ++ [(z, v)]) (by rw [eD]; simp)
    have ec : noX (evC T cl (.so c) (s0.set x (some (.str z))) h) = .ok (.bl (f v)) h := by rw [evC, b1]; rfl
    have ek : noX (evE T cl false ke (s0.set x (some (.str z))) h) = .ok (.str z) h := by rw [b2]; rfl
    have ee : noX (evE T cl false e (s0.set x (some (.str z))) h) = .ok (pe v) h := by rw [b3]; rfl
    show dcR .free _ _ _ _ _ (.str z :: (ksG D2).map .str) _ _ = _
    rw [dcR, if_pos (show Src.free.Ok h from trivial)]
    show Res.bind (noX (evC T cl (.so c) (s0.set x (some (.str z))) h)) _ = _
    rw [ec]
    cases hf : f v with
    | false =>
      have ez : (D1 ++ [(z, v)]).filter (fun q => f q.2) = D1.filter fun q => f q.2 := by simp [hf]
      rw [ez] at ih
      exact ih
    | true =>
      have nx : z ∉ ksG (D1.filter fun q => f q.2) := fun w => by
        have w2 := (ksG_filter D1 f).subset w
        rw [eD] at nd
        unfold ksG at nd w2
        rw [List.map_append, List.nodup_append] at nd
        exact nd.2.2 z w2 z (by simp) rfl
      have ez : (D1 ++ [(z, v)]).filter (fun q => f q.2) = D1.filter (fun q => f q.2) ++ [(z, v)] := by simp [hf]
      rw [ez] at ih
      show Res.bind (noX (evE T cl false ke (s0.set x (some (.str z))) h)) _ = _
      rw [ek]
      show Res.bind (noX (evE T cl false e (s0.set x (some (.str z))) h)) _ = _
      rw [ee]
      show dcR .free _ _ _ _ _ ((ksG D2).map .str) (put (KG pe (D1.filter fun q => f q.2)) (.inr z) (pe v)) h = _
      rw [put_KG, ptG_new nx]
      exact ih
/-- a loop that leaves with False at the first item that fails -/
theorem forR_all {β : Type} {src : Src} {t : CT} {body : Lo → Hv → Res Fl} {h : Hv} (g : β → Vl) (f : β → Bool) (P : Lo → Prop) (hs : src.Ok h) :
    ∀ (xs : List β), (∀ b ∈ xs, ∀ s, P s → ∃ s1, asgT t (g b) s = some s1 ∧ ((f b = true ∧ ∃ s2, body s1 h = .ok (.nx s2) h ∧ P s2) ∨ (f b = false ∧ body s1 h = .ok (.rt (.bl false)) h))) → ∀ s, P s →
      (xs.all f = true ∧ ∃ s', forR src t body (xs.map g) s h = .ok (.nx s') h ∧ P s') ∨ (xs.all f = false ∧ forR src t body (xs.map g) s h = .ok (.rt (.bl false)) h)
  | [], _, s, p => .inl ⟨rfl, s, by show forR src t body [] s h = _; rw [forR, if_pos hs], p⟩
  | b :: xs, st, s, p => by
    obtain ⟨s1, e1, e2⟩ := st b List.mem_cons_self s p
    have z : forR src t body ((b :: xs).map g) s h = match body s1 h with
      | .ok (.nx s2) h2 => forR src t body (xs.map g) s2 h2
      | .ok (.ct s2) h2 => forR src t body (xs.map g) s2 h2
      | .ok (.bk s2) h2 => .ok (.nx s2) h2
      | .ok (.rt v) h2 => .ok (.rt v) h2
      | .ex c fs h2 => .ex c fs h2
      | .st => .st := by
      show forR src t body (g b :: xs.map g) s h = _
      rw [forR, if_pos hs, e1]
      all_goals rfl
    rw [z]
    rcases e2 with ⟨f1, s2, e2, p2⟩ | ⟨f1, e2⟩
    · rw [e2]
      rcases forR_all g f P hs xs (fun b hb => st b (List.mem_cons_of_mem _ hb)) s2 p2 with ⟨a, s', e3, p3⟩ | ⟨a, e3⟩
      · exact .inl ⟨by simp [f1, a], s', e3, p3⟩
      · exact .inr ⟨by simp [f1, a], e3⟩
    · rw [e2]
      exact .inr ⟨by simp [f1], rfl⟩
theorem cf_isi (i : Int) (h : Hv) : cmpF .is_ (.int i) .non h = some false := rfl
theorem cf_isni (i : Int) (h : Hv) : cmpF .isnot (.int i) .non h = some true := rfl
theorem pu_ow (o : Option Int) : pu (ow o) := by cases o <;> rfl
theorem pu_lv (l : Lm) : pu (lv l) := by
  show below 0 (.tup [ow l.1, ow l.2]) = true
  rw [below, belows, belows, pu_ow, pu_ow]; rfl
theorem pu_tv (q : Str × Lm) : pu (tv q) := by
  show below 0 (.tup [.str q.1, ow q.2.1, ow q.2.2]) = true
  rw [below, belows, belows, belows, pu_ow, pu_ow]; rfl
theorem it_fdG {α : Type} {T : Tab} {cl : Cl} {s : Lo} {h : Hv} {e : CE} {pe : α → Vl} {D : List (Str × α)} (he : evE T cl false e s h = .ok (.fd (KG pe D)) h) : evI T cl (.val e) s h = .ok (.free ((ksG D).map .str)) h := by
  rw [evI, he]
  simp only [Res.bind, itD, ofO]
  congr 1
  simp [KG, ksG, kVl, Walk.free]
theorem sorted_fdG {α : Type} {T : Tab} {cl : Cl} {s : Lo} {h : Hv} {e : CE} {pe : α → Vl} {D : List (Str × α)} (he : evE T cl false e s h = .ok (.fd (KG pe D)) h) (hl : D.length < 60) : evE T cl false (.blt .sorted true (.cons e .nil)) s h = .ok (.fl ((sortS (ksG D)).map .str)) h := by
  rw [evE, evEs, he]
  simp only [Res.bind, evEs, tw, Bool.false_eq_true, if_false, bltD, bltF, asO, asD, keyS_KG, chk]
  rw [if_pos (by simp [ksG]; omega)]
  rfl
section
variable (T : Tab) [D300 T] [D301 T] [D302 T] [D303 T] [D304 T] [D305 T] [D306 T] [D307 T] [D308 T]
theorem pow_n (k : Nat) (hk : k < 1000) (fz : Bool) (h : Hv) : binF .pow fz (.int 10) (.int (k : Nat)) h = .ok (.int (10 ^ k)) h := by
  have e4 : natBits 10 = 3 := by decide +kernel
  simp only [binF, chk]
  rw [if_pos ⟨by omega, by rw [e4]; omega⟩]
  rfl
theorem p39 (fz : Bool) (h : Hv) : binF .pow fz (.int 10) (.int 39) h = .ok (.int (10 ^ 39)) h := pow_n 39 (by decide) fz h
theorem p38 (fz : Bool) (h : Hv) : binF .pow fz (.int 10) (.int 38) h = .ok (.int (10 ^ 38)) h := pow_n 38 (by decide) fz h
theorem p37 (fz : Bool) (h : Hv) : binF .pow fz (.int 10) (.int 37) h = .ok (.int (10 ^ 37)) h := pow_n 37 (by decide) fz h
theorem nb_neg {i : Int} {k : Nat} (h : natBits i ≤ k) : natBits (-i) ≤ k := nb_le (by rw [Int.natAbs_neg]; exact nb_lt h)
theorem ix7 {d : Int} (h0 : 0 ≤ d) (h1 : d < 7) {a b : Int} (ha : natBits a ≤ 200) (hb : natBits b ≤ 200) : ∃ f, (L2.ixN [Vl.int 0, .int 0, .int 0, .int 3, .int (-5), .int a, .int b].length d).bind (fun j => [Vl.int 0, .int 0, .int 0, .int 3, .int (-5), .int a, .int b][j]?) = some (.int f) ∧ natBits f ≤ 200 := by
  have : d = 0 ∨ d = 1 ∨ d = 2 ∨ d = 3 ∨ d = 4 ∨ d = 5 ∨ d = 6 := by omega
  rcases this with rfl | rfl | rfl | rfl | rfl | rfl | rfl
  · exact ⟨0, rfl, by decide +kernel⟩
  · exact ⟨0, rfl, by decide +kernel⟩
  · exact ⟨0, rfl, by decide +kernel⟩
  · exact ⟨3, rfl, by decide +kernel⟩
  · exact ⟨-5, rfl, by decide +kernel⟩
  · exact ⟨a, rfl, ha⟩
  · exact ⟨b, rfl, hb⟩
theorem lim7 (a b c d e f g : Vl) : ([a, b, c, d, e, f, g].length ≤ LIM) = True := by simp [LIM]
theorem far_ok (n : Nat) {k : Nat} {h : Hv} (hk : PAt h k) : ∃ f h', callN T (n + 2) 304 [.ref k] h = .ok (.int f) h' ∧ natBits f ≤ 200 ∧ Same k h h' := by
  rw [c304]
  obtain ⟨d, h', d1, d2, d3, s1⟩ := drawC T n 7 hk (by decide) (by decide +kernel)
  obtain ⟨f, e, b⟩ := ix7 d2 d3 (a := 10 ^ 39) (b := -(10 ^ 38)) (Nat.le_trans (nb_ten 39) (by decide)) (nb_neg (Nat.le_trans (nb_ten 38) (by decide)))
  refine ⟨f, h', ?_, b, s1⟩
  have z : retOf (evSs T (callN T (n + 1)) b__law_far [some (.ref k)] h) = .ok (.int f) h' := by
    unfold b__law_far
    simp only [↓rb, ↓tw0, ↓tw1, ↓evSs, ↓evS, ↓evE, ↓evEs, ↓evI, ↓evC, ↓evO, ↓evPs, ag1, ag2, ag3, ag4, chkT, ofO, List.getElem?_cons_zero, List.getElem?_cons_succ, List.set_cons_zero, List.set_cons_succ, Bool.false_eq_true, if_false, if_true, Option.bind_some, Option.map_some, tru1, subD, setD, cmpD, cmpO, binD, bltD, asS, asL, asD, asO, keyOf, truV, cf_eq_i, cf_ne_i, cf_eq_s, cf_ne_s, cf_eq_b, cf_ne_b, cf_lt_i, cf_gt_i, cf_le_i, cf_ge_i, cf_is0, cf_isr, cf_isnot0, cf_ist, kd_dec, kd_dec2, subF, ix10, ix20, ix21, ix30, ix31, ix32, ln1, ln2, ln3, lim0, lim1, lim2, lim3, lim4, lim5, lim6, decide_true, decide_false, decide_not, Bool.not_true, Bool.not_false, Bool.true_or, Bool.or_true, Bool.false_or, Bool.or_false, not_true, not_false_eq_true, eq_self, reduceCtorEq, Bool.and_true, Bool.true_and, Bool.and_false, Bool.false_and, p39, p38, mkL, lim7, d1, retOf, e]
  refine (congrArg (finR 2 h) z).trans ?_
  obtain ⟨q, rfl⟩ := s1
  exact fin2_pS (fr_set (by simp)) (by simp [hk.lt]) hk.lt rfl
theorem int_b (b : Bool) (fz : Bool) (h : Hv) : bltF .int fz [.bl b] h = .ok (.int (if b then 1 else 0)) h := rfl
theorem mulM {i j : Int} {fz : Bool} {h : Hv} (a : natBits i ≤ 200) (b : natBits j ≤ 200) : binF .mul fz (.int i) (.int j) h = .ok (.int (i * j)) h := mul_ok (by omega)
theorem put_lv (A : List (Str × Lm)) (x : Str) (a b : Option Int) : put (KG lv A) (.inr x) (.tup [ow a, ow b]) = KG lv (ptG A x (a, b)) := put_KG lv A x (a, b)
theorem b01 (b : Bool) : natBits (if b then 1 else 0) ≤ 200 := by cases b <;> decide +kernel
/-- the low limit is not above the high one -/
def vd (l : Lm) : Bool := match l.1, l.2 with
  | some a, some b => decide (a ≤ b)
  | _, _ => true
theorem vd_same (i : Int) : vd (some i, some i) = true := by simp [vd]
theorem vd_add {i j : Int} (h : 0 ≤ j) : vd (some i, some (i + j)) = true := by simp only [vd, decide_eq_true_eq]; omega
theorem vd_far {i a b c : Int} (h : 0 ≤ c) (ha : 0 ≤ a) (hb : 0 ≤ b) : vd (some (i - c * a), some (i + c * b)) = true := by
  have h1 := Int.mul_nonneg h ha
  have h2 := Int.mul_nonneg h hb
  simp only [vd, decide_eq_true_eq]
  omega
abbrev lbody : CSs := (.cons (.set (.var 5) (.call 301 (.cons (.var 0) (.cons (.int 8) .nil)))) (.cons (.set (.var 6) (.bin .sub true (.bin .add true (.bin .mul true (.var 2) (.blt .int true (.cons (.cmp .lt (.call 301 (.cons (.var 0) (.cons (.int 4) .nil))) (.int 3)) .nil))) (.call 301 (.cons (.var 0) (.cons (.int 9) .nil)))) (.int 4))) (.cons (.set (.var 7) (.call 301 (.cons (.var 0) (.cons (.int 6) .nil)))) (.cons (.ife (.cmp .eq (.var 5) (.int 1)) (.cons (.setI (.var 3) (.var 4) (.tup (.cons (.var 6) (.cons .non .nil)))) .nil) .nil) (.cons (.ife (.cmp .eq (.var 5) (.int 2)) (.cons (.setI (.var 3) (.var 4) (.tup (.cons .non (.cons (.var 6) .nil)))) .nil) .nil) (.cons (.ife (.cmp .eq (.var 5) (.int 3)) (.cons (.setI (.var 3) (.var 4) (.tup (.cons (.var 6) (.cons (.var 6) .nil)))) .nil) .nil) (.cons (.ife (.or_ (.cmp .eq (.var 5) (.int 4)) (.cmp .eq (.var 5) (.int 5))) (.cons (.setI (.var 3) (.var 4) (.tup (.cons (.var 6) (.cons (.bin .add true (.var 6) (.var 7)) .nil)))) .nil) .nil) (.cons (.ife (.cmp .eq (.var 5) (.int 6)) (.cons (.setI (.var 3) (.var 4) (.tup (.cons .non (.cons .non .nil)))) .nil) .nil) (.cons (.ife (.cmp .eq (.var 5) (.int 7)) (.cons (.setI (.var 3) (.var 4) (.tup (.cons (.bin .sub true (.var 6) (.bin .mul true (.bin .pow true (.int 10) (.int 37)) (.call 301 (.cons (.var 0) (.cons (.int 9) .nil))))) (.cons (.bin .add true (.var 6) (.bin .mul true (.bin .pow true (.int 10) (.int 37)) (.call 301 (.cons (.var 0) (.cons (.int 9) .nil))))) .nil)))) .nil) .nil) .nil)))))))))
/-- the limits of one name -/
theorem limits_step (n : Nat) {k q : Nat} {f : Int} {ns : Vl} {x : Str} {A : List (Str × Lm)} {x5 x6 x7 : Option Vl} {a : Hv} (hf : natBits f ≤ 200) (hk : PAt a k) (hq : q = a.length) (hl : A.length < 100) :
    ∃ (y5 y6 y7 : Option Vl) (A' : List (Str × Lm)) (a' : Hv), evSs T (callN T (n + 1)) lbody [some (.ref k), some ns, some (.int f), some (.ref q), some (.str x), x5, x6, x7] (a ++ [.dct (KG lv A)]) = .ok (.nx [some (.ref k), some ns, some (.int f), some (.ref q), some (.str x), y5, y6, y7]) (a' ++ [.dct (KG lv A')]) ∧ Same k a a' ∧ (A' = A ∨ ∃ l, vd l = true ∧ A' = ptG A x l) := by
  obtain ⟨d1, g1, u1, v1, w1, t1⟩ := drawC T n 8 (h := a ++ [.dct (KG lv A)]) hk.app (by decide) (by decide +kernel)
  obtain ⟨a1, rfl, s1⟩ := t1.split hk.lt
  have hk1 := s1.at hk
  obtain ⟨d2, g2, u2, v2, w2, t2⟩ := drawC T n 4 (h := a1 ++ [.dct (KG lv A)]) hk1.app (by decide) (by decide +kernel)
  obtain ⟨a2, rfl, s2⟩ := t2.split hk1.lt
  have hk2 := s2.at hk1
  obtain ⟨d3, g3, u3, v3, w3, t3⟩ := drawC T n 9 (h := a2 ++ [.dct (KG lv A)]) hk2.app (by decide) (by decide +kernel)
  obtain ⟨a3, rfl, s3⟩ := t3.split hk2.lt
  have hk3 := s3.at hk2
  obtain ⟨d4, g4, u4, v4, w4, t4⟩ := drawC T n 6 (h := a3 ++ [.dct (KG lv A)]) hk3.app (by decide) (by decide +kernel)
  obtain ⟨a4, rfl, s4⟩ := t4.split hk3.lt
  have hk4 := s4.at hk3
  obtain ⟨d5, g5, u5, v5, w5, t5⟩ := drawC T n 9 (h := a4 ++ [.dct (KG lv A)]) hk4.app (by decide) (by decide +kernel)
  obtain ⟨a5, rfl, s5⟩ := t5.split hk4.lt
  have hk5 := s5.at hk4
  obtain ⟨d6, g6, u6, v6, w6, t6⟩ := drawC T n 9 (h := a5 ++ [.dct (KG lv A)]) hk5.app (by decide) (by decide +kernel)
  obtain ⟨a6, rfl, s6⟩ := t6.split hk5.lt
  have S4 := ((s1.trans s2).trans s3).trans s4
  have S6 := (S4.trans s5).trans s6
  have hq4 : q = a4.length := hq.trans S4.len.symm
  have hq6 : q = a6.length := hq.trans S6.len.symm
  have q4 : (a4 ++ [Cell.dct (KG lv A)])[q]? = some (.dct (KG lv A)) := get_last' hq4
  have q6 : (a6 ++ [Cell.dct (KG lv A)])[q]? = some (.dct (KG lv A)) := get_last' hq6
  have z4 : ∀ c, (a4 ++ [Cell.dct (KG lv A)]).set q c = a4 ++ [c] := fun c => set_last' hq4
  have z6 : ∀ c, (a6 ++ [Cell.dct (KG lv A)]).set q c = a6 ++ [c] := fun c => set_last' hq6
  have e2 : (KG lv A).length < LIM := by simp [KG, LIM]; omega
  have m1 := fun (b : Bool) (h : Hv) => mulM (fz := true) (h := h) hf (b01 b)
  have m5 := fun (h : Hv) => mulM (fz := true) (h := h) (i := 10 ^ 37) (j := d5) (Nat.le_trans (nb_ten 37) (by decide)) (nb_small v5 w5 (by decide +kernel))
  have m6 := fun (h : Hv) => mulM (fz := true) (h := h) (i := 10 ^ 37) (j := d6) (Nat.le_trans (nb_ten 37) (by decide)) (nb_small v6 w6 (by decide +kernel))
  have ba : ∀ (i j : Int) (h : Hv), binF .add true (.int i) (.int j) h = .ok (.int (i + j)) h := fun _ _ _ => rfl
  have bs : ∀ (i j : Int) (h : Hv), binF .sub true (.int i) (.int j) h = .ok (.int (i - j)) h := fun _ _ _ => rfl
  have pA : ∀ i : Int, put (KG lv A) (.inr x) (.tup [.int i, .non]) = KG lv (ptG A x (some i, none)) := fun i => put_lv A x (some i) none
  have pB : ∀ i : Int, put (KG lv A) (.inr x) (.tup [.non, .int i]) = KG lv (ptG A x (none, some i)) := fun i => put_lv A x none (some i)
  have pC : ∀ i j : Int, put (KG lv A) (.inr x) (.tup [.int i, .int j]) = KG lv (ptG A x (some i, some j)) := fun i j => put_lv A x (some i) (some j)
  have pD : put (KG lv A) (.inr x) (.tup [.non, .non]) = KG lv (ptG A x (none, none)) := put_lv A x none none
  have n10 : ¬ (1 : Int) = 2 := by decide
  have D : d1 = 0 ∨ d1 = 1 ∨ d1 = 2 ∨ d1 = 3 ∨ d1 = 4 ∨ d1 = 5 ∨ d1 = 6 ∨ d1 = 7 := by omega
  rcases D with rfl | rfl | rfl | rfl | rfl | rfl | rfl | rfl
  · exact ⟨_, _, _, A, a4, by simp only [↓rb, ↓tw0, ↓tw1, ↓evSs, ↓evS, ↓evE, ↓evEs, ↓evI, ↓evC, ↓evO, ↓evPs, ag1, ag2, ag3, ag4, chkT, ofO, List.getElem?_cons_zero, List.getElem?_cons_succ, List.set_cons_zero, List.set_cons_succ, Bool.false_eq_true, if_false, if_true, Option.bind_some, Option.map_some, tru1, subD, setD, cmpD, cmpO, binD, bltD, asS, asL, asD, asO, keyOf, truV, cf_eq_i, cf_ne_i, cf_eq_s, cf_ne_s, cf_eq_b, cf_ne_b, cf_lt_i, cf_gt_i, cf_le_i, cf_ge_i, cf_is0, cf_isr, cf_isnot0, cf_ist, kd_dec, kd_dec2, subF, ix10, ix20, ix21, ix30, ix31, ix32, ln1, ln2, ln3, lim0, lim1, lim2, lim3, lim4, lim5, lim6, decide_true, decide_false, decide_not, Bool.not_true, Bool.not_false, Bool.true_or, Bool.or_true, Bool.false_or, Bool.or_false, not_true, not_false_eq_true, eq_self, reduceCtorEq, Bool.and_true, Bool.true_and, Bool.and_false, Bool.false_and, u1, u2, u3, u4, int_b, m1, ba, bs, q4, z4, chk, e2, pA, pB, pC, pD, Int.reduceEq]; rfl, S4, .inl rfl⟩
  · exact ⟨_, _, _, _, a4, by simp only [↓rb, ↓tw0, ↓tw1, ↓evSs, ↓evS, ↓evE, ↓evEs, ↓evI, ↓evC, ↓evO, ↓evPs, ag1, ag2, ag3, ag4, chkT, ofO, List.getElem?_cons_zero, List.getElem?_cons_succ, List.set_cons_zero, List.set_cons_succ, Bool.false_eq_true, if_false, if_true, Option.bind_some, Option.map_some, tru1, subD, setD, cmpD, cmpO, binD, bltD, asS, asL, asD, asO, keyOf, truV, cf_eq_i, cf_ne_i, cf_eq_s, cf_ne_s, cf_eq_b, cf_ne_b, cf_lt_i, cf_gt_i, cf_le_i, cf_ge_i, cf_is0, cf_isr, cf_isnot0, cf_ist, kd_dec, kd_dec2, subF, ix10, ix20, ix21, ix30, ix31, ix32, ln1, ln2, ln3, lim0, lim1, lim2, lim3, lim4, lim5, lim6, decide_true, decide_false, decide_not, Bool.not_true, Bool.not_false, Bool.true_or, Bool.or_true, Bool.false_or, Bool.or_false, not_true, not_false_eq_true, eq_self, reduceCtorEq, Bool.and_true, Bool.true_and, Bool.and_false, Bool.false_and, u1, u2, u3, u4, int_b, m1, ba, bs, q4, z4, chk, e2, pA, pB, pC, pD, Int.reduceEq]; rfl, S4, .inr ⟨_, rfl, rfl⟩⟩
  · exact ⟨_, _, _, _, a4, by simp only [↓rb, ↓tw0, ↓tw1, ↓evSs, ↓evS, ↓evE, ↓evEs, ↓evI, ↓evC, ↓evO, ↓evPs, ag1, ag2, ag3, ag4, chkT, ofO, List.getElem?_cons_zero, List.getElem?_cons_succ, List.set_cons_zero, List.set_cons_succ, Bool.false_eq_true, if_false, if_true, Option.bind_some, Option.map_some, tru1, subD, setD, cmpD, cmpO, binD, bltD, asS, asL, asD, asO, keyOf, truV, cf_eq_i, cf_ne_i, cf_eq_s, cf_ne_s, cf_eq_b, cf_ne_b, cf_lt_i, cf_gt_i, cf_le_i, cf_ge_i, cf_is0, cf_isr, cf_isnot0, cf_ist, kd_dec, kd_dec2, subF, ix10, ix20, ix21, ix30, ix31, ix32, ln1, ln2, ln3, lim0, lim1, lim2, lim3, lim4, lim5, lim6, decide_true, decide_false, decide_not, Bool.not_true, Bool.not_false, Bool.true_or, Bool.or_true, Bool.false_or, Bool.or_false, not_true, not_false_eq_true, eq_self, reduceCtorEq, Bool.and_true, Bool.true_and, Bool.and_false, Bool.false_and, u1, u2, u3, u4, int_b, m1, ba, bs, q4, z4, chk, e2, pA, pB, pC, pD, Int.reduceEq]; rfl, S4, .inr ⟨_, rfl, rfl⟩⟩
  · exact ⟨_, _, _, _, a4, by simp only [↓rb, ↓tw0, ↓tw1, ↓evSs, ↓evS, ↓evE, ↓evEs, ↓evI, ↓evC, ↓evO, ↓evPs, ag1, ag2, ag3, ag4, chkT, ofO, List.getElem?_cons_zero, List.getElem?_cons_succ, List.set_cons_zero, List.set_cons_succ, Bool.false_eq_true, if_false, if_true, Option.bind_some, Option.map_some, tru1, subD, setD, cmpD, cmpO, binD, bltD, asS, asL, asD, asO, keyOf, truV, cf_eq_i, cf_ne_i, cf_eq_s, cf_ne_s, cf_eq_b, cf_ne_b, cf_lt_i, cf_gt_i, cf_le_i, cf_ge_i, cf_is0, cf_isr, cf_isnot0, cf_ist, kd_dec, kd_dec2, subF, ix10, ix20, ix21, ix30, ix31, ix32, ln1, ln2, ln3, lim0, lim1, lim2, lim3, lim4, lim5, lim6, decide_true, decide_false, decide_not, Bool.not_true, Bool.not_false, Bool.true_or, Bool.or_true, Bool.false_or, Bool.or_false, not_true, not_false_eq_true, eq_self, reduceCtorEq, Bool.and_true, Bool.true_and, Bool.and_false, Bool.false_and, u1, u2, u3, u4, int_b, m1, ba, bs, q4, z4, chk, e2, pA, pB, pC, pD, Int.reduceEq]; rfl, S4, .inr ⟨_, vd_same _, rfl⟩⟩
  · exact ⟨_, _, _, _, a4, by simp only [↓rb, ↓tw0, ↓tw1, ↓evSs, ↓evS, ↓evE, ↓evEs, ↓evI, ↓evC, ↓evO, ↓evPs, ag1, ag2, ag3, ag4, chkT, ofO, List.getElem?_cons_zero, List.getElem?_cons_succ, List.set_cons_zero, List.set_cons_succ, Bool.false_eq_true, if_false, if_true, Option.bind_some, Option.map_some, tru1, subD, setD, cmpD, cmpO, binD, bltD, asS, asL, asD, asO, keyOf, truV, cf_eq_i, cf_ne_i, cf_eq_s, cf_ne_s, cf_eq_b, cf_ne_b, cf_lt_i, cf_gt_i, cf_le_i, cf_ge_i, cf_is0, cf_isr, cf_isnot0, cf_ist, kd_dec, kd_dec2, subF, ix10, ix20, ix21, ix30, ix31, ix32, ln1, ln2, ln3, lim0, lim1, lim2, lim3, lim4, lim5, lim6, decide_true, decide_false, decide_not, Bool.not_true, Bool.not_false, Bool.true_or, Bool.or_true, Bool.false_or, Bool.or_false, not_true, not_false_eq_true, eq_self, reduceCtorEq, Bool.and_true, Bool.true_and, Bool.and_false, Bool.false_and, u1, u2, u3, u4, int_b, m1, ba, bs, q4, z4, chk, e2, pA, pB, pC, pD, Int.reduceEq]; rfl, S4, .inr ⟨_, vd_add v4, rfl⟩⟩
  · exact ⟨_, _, _, _, a4, by simp only [↓rb, ↓tw0, ↓tw1, ↓evSs, ↓evS, ↓evE, ↓evEs, ↓evI, ↓evC, ↓evO, ↓evPs, ag1, ag2, ag3, ag4, chkT, ofO, List.getElem?_cons_zero, List.getElem?_cons_succ, List.set_cons_zero, List.set_cons_succ, Bool.false_eq_true, if_false, if_true, Option.bind_some, Option.map_some, tru1, subD, setD, cmpD, cmpO, binD, bltD, asS, asL, asD, asO, keyOf, truV, cf_eq_i, cf_ne_i, cf_eq_s, cf_ne_s, cf_eq_b, cf_ne_b, cf_lt_i, cf_gt_i, cf_le_i, cf_ge_i, cf_is0, cf_isr, cf_isnot0, cf_ist, kd_dec, kd_dec2, subF, ix10, ix20, ix21, ix30, ix31, ix32, ln1, ln2, ln3, lim0, lim1, lim2, lim3, lim4, lim5, lim6, decide_true, decide_false, decide_not, Bool.not_true, Bool.not_false, Bool.true_or, Bool.or_true, Bool.false_or, Bool.or_false, not_true, not_false_eq_true, eq_self, reduceCtorEq, Bool.and_true, Bool.true_and, Bool.and_false, Bool.false_and, u1, u2, u3, u4, int_b, m1, ba, bs, q4, z4, chk, e2, pA, pB, pC, pD, Int.reduceEq]; rfl, S4, .inr ⟨_, vd_add v4, rfl⟩⟩
  · exact ⟨_, _, _, _, a4, by simp only [↓rb, ↓tw0, ↓tw1, ↓evSs, ↓evS, ↓evE, ↓evEs, ↓evI, ↓evC, ↓evO, ↓evPs, ag1, ag2, ag3, ag4, chkT, ofO, List.getElem?_cons_zero, List.getElem?_cons_succ, List.set_cons_zero, List.set_cons_succ, Bool.false_eq_true, if_false, if_true, Option.bind_some, Option.map_some, tru1, subD, setD, cmpD, cmpO, binD, bltD, asS, asL, asD, asO, keyOf, truV, cf_eq_i, cf_ne_i, cf_eq_s, cf_ne_s, cf_eq_b, cf_ne_b, cf_lt_i, cf_gt_i, cf_le_i, cf_ge_i, cf_is0, cf_isr, cf_isnot0, cf_ist, kd_dec, kd_dec2, subF, ix10, ix20, ix21, ix30, ix31, ix32, ln1, ln2, ln3, lim0, lim1, lim2, lim3, lim4, lim5, lim6, decide_true, decide_false, decide_not, Bool.not_true, Bool.not_false, Bool.true_or, Bool.or_true, Bool.false_or, Bool.or_false, not_true, not_false_eq_true, eq_self, reduceCtorEq, Bool.and_true, Bool.true_and, Bool.and_false, Bool.false_and, u1, u2, u3, u4, int_b, m1, ba, bs, q4, z4, chk, e2, pA, pB, pC, pD, Int.reduceEq]; rfl, S4, .inr ⟨_, rfl, rfl⟩⟩
  · exact ⟨_, _, _, _, a6, by simp only [↓rb, ↓tw0, ↓tw1, ↓evSs, ↓evS, ↓evE, ↓evEs, ↓evI, ↓evC, ↓evO, ↓evPs, ag1, ag2, ag3, ag4, chkT, ofO, List.getElem?_cons_zero, List.getElem?_cons_succ, List.set_cons_zero, List.set_cons_succ, Bool.false_eq_true, if_false, if_true, Option.bind_some, Option.map_some, tru1, subD, setD, cmpD, cmpO, binD, bltD, asS, asL, asD, asO, keyOf, truV, cf_eq_i, cf_ne_i, cf_eq_s, cf_ne_s, cf_eq_b, cf_ne_b, cf_lt_i, cf_gt_i, cf_le_i, cf_ge_i, cf_is0, cf_isr, cf_isnot0, cf_ist, kd_dec, kd_dec2, subF, ix10, ix20, ix21, ix30, ix31, ix32, ln1, ln2, ln3, lim0, lim1, lim2, lim3, lim4, lim5, lim6, decide_true, decide_false, decide_not, Bool.not_true, Bool.not_false, Bool.true_or, Bool.or_true, Bool.false_or, Bool.or_false, not_true, not_false_eq_true, eq_self, reduceCtorEq, Bool.and_true, Bool.true_and, Bool.and_false, Bool.false_and, u1, u2, u3, u4, u5, u6, p37, m5, m6, int_b, m1, ba, bs, q6, z6, chk, e2, pA, pB, pC, pD, Int.reduceEq]; rfl, S6, .inr ⟨_, vd_far (Int.le_of_lt (Int.pow_pos (by decide))) v5 v6, rfl⟩⟩
theorem limits_ok (n : Nat) {k : Nat} {f : Int} {xs : List Str} {h : Hv} (hf : natBits f ≤ 200) (hk : PAt h k) (hx : xs.length ≤ 60) :
    ∃ (D : List (Str × Lm)) (a : Hv), callN T (n + 2) 305 [.ref k, .fl (xs.map .str), .int f] h = .ok (.fd (KG lv D)) a ∧ Same k h a ∧ Kn xs D ∧ ∀ q ∈ D, vd q.2 = true := by
  rw [c305]
  unfold b__law_limits
  have e0 : evE T (callN T (n + 1)) false (.dct false .nil) [some (.ref k), some (.fl (xs.map .str)), some (.int f), none, none, none, none, none] h = .ok (.ref h.length) (h ++ [.dct []]) := by simp only [↓rb, ↓tw0, ↓tw1, ↓evSs, ↓evS, ↓evE, ↓evEs, ↓evI, ↓evC, ↓evO, ↓evPs, ag1, ag2, ag3, ag4, chkT, ofO, List.getElem?_cons_zero, List.getElem?_cons_succ, List.set_cons_zero, List.set_cons_succ, Bool.false_eq_true, if_false, if_true, Option.bind_some, Option.map_some, tru1, subD, setD, cmpD, cmpO, binD, bltD, asS, asL, asD, asO, keyOf, truV, cf_eq_i, cf_ne_i, cf_eq_s, cf_ne_s, cf_eq_b, cf_ne_b, cf_lt_i, cf_gt_i, cf_le_i, cf_ge_i, cf_is0, cf_isr, cf_isnot0, cf_ist, kd_dec, kd_dec2, subF, ix10, ix20, ix21, ix30, ix31, ix32, ln1, ln2, ln3, lim0, lim1, lim2, lim3, lim4, lim5, lim6, decide_true, decide_false, decide_not, Bool.not_true, Bool.not_false, Bool.true_or, Bool.or_true, Bool.false_or, Bool.or_false, not_true, not_false_eq_true, eq_self, reduceCtorEq, Bool.and_true, Bool.true_and, Bool.and_false, Bool.false_and, chk, mkD, mergeD, List.foldl_nil]; rfl
  have it : evI T (callN T (n + 1)) (.val (.var 1)) [some (.ref k), some (.fl (xs.map .str)), some (.int f), some (.ref h.length), none, none, none, none] (h ++ [.dct []]) = .ok (.free (xs.map .str)) (h ++ [.dct []]) := by
    simp only [↓rb, ↓tw0, ↓tw1, ↓evSs, ↓evS, ↓evE, ↓evEs, ↓evI, ↓evC, ↓evO, ↓evPs, ag1, ag2, ag3, ag4, chkT, ofO, List.getElem?_cons_zero, List.getElem?_cons_succ, List.set_cons_zero, List.set_cons_succ, Bool.false_eq_true, if_false, if_true, Option.bind_some, Option.map_some, tru1, subD, setD, cmpD, cmpO, binD, bltD, asS, asL, asD, asO, keyOf, truV, cf_eq_i, cf_ne_i, cf_eq_s, cf_ne_s, cf_eq_b, cf_ne_b, cf_lt_i, cf_gt_i, cf_le_i, cf_ge_i, cf_is0, cf_isr, cf_isnot0, cf_ist, kd_dec, kd_dec2, subF, ix10, ix20, ix21, ix30, ix31, ix32, ln1, ln2, ln3, lim0, lim1, lim2, lim3, lim4, lim5, lim6, decide_true, decide_false, decide_not, Bool.not_true, Bool.not_false, Bool.true_or, Bool.or_true, Bool.false_or, Bool.or_false, not_true, not_false_eq_true, eq_self, reduceCtorEq, Bool.and_true, Bool.true_and, Bool.and_false, Bool.false_and, itD]
  obtain ⟨s', h', e1, x4, x5, x6, x7, X, A, a, rfl, rfl, sm, kn, va, hl, er⟩ := forR_run (src := .free) (t := .var 4) (body := evSs T (callN T (n + 1)) lbody)
    (fun r s h4 => ∃ (x4 x5 x6 x7 : Option Vl) (X : List Str) (A : List (Str × Lm)) (a : Hv), s = [some (.ref k), some (.fl (xs.map .str)), some (.int f), some (.ref h.length), x4, x5, x6, x7] ∧ h4 = a ++ [.dct (KG lv A)] ∧ Same k h a ∧ Kn xs A ∧ (∀ q ∈ A, vd q.2 = true) ∧ (∀ x ∈ X, x ∈ xs) ∧ r = X.map .str)
    (fun _ _ _ _ => trivial) (fun v r s h4 ⟨x4, x5, x6, x7, X, A, a, es, eh, sm, kn, va, hX, er⟩ => by
      subst es eh
      cases X with
      | nil => cases er
      | cons x X =>
        obtain ⟨rfl, rfl⟩ := List.cons.inj er
        have ln := kn.len
        obtain ⟨y5, y6, y7, A', a', e, S, c⟩ := limits_step T n (ns := .fl (xs.map .str)) (x := x) (A := A) (x5 := x5) (x6 := x6) (x7 := x7) hf (sm.at hk) sm.len.symm (by omega)
        refine ⟨_, _, _, rfl, .inl e, _, y5, y6, y7, X, A', a', rfl, rfl, sm.trans S, ?_, ?_, fun z hz => hX z (List.mem_cons_of_mem _ hz), rfl⟩
        · rcases c with rfl | ⟨l, _, rfl⟩
          · exact kn
          · exact kn.pt (hX x List.mem_cons_self) l
        · rcases c with rfl | ⟨l, vl, rfl⟩
          · exact va
          · intro q hq
            rcases mem_ptG hq with hq | rfl
            · exact va q hq
            · exact vl) (xs.map .str) [some (.ref k), some (.fl (xs.map .str)), some (.int f), some (.ref h.length), none, none, none, none] (h ++ [.dct []]) ⟨_, _, _, _, xs, [], h, rfl, rfl, Same.refl hk, kn_nil, fun q hq => (by cases hq), fun _ z => z, rfl⟩
  refine ⟨A, a, (congrArg (fun r => finR 2 h (retOf r)) ((st_set e0).trans ((st_for it ((unlock_free rfl).trans e1)).trans (st_ret (ev_var rfl))))).trans ?_, sm, kn, va⟩
  obtain ⟨q, rfl⟩ := sm
  exact fin2_dS ((fr_set (by simp)).trans (fr_app _ _ _)) (get_app (by simp [hk.lt])) hk.lt (get_last' (by simp)) (Nat.le_refl _) (pu_KG pu_lv _)
theorem listed_ok (n : Nat) {h : Hv} {D : List (Str × Lm)} (nd : (ksG D).Nodup) (hl : D.length < 60) : callN T (n + 1) 306 [.fd (KG lv D)] h = .ok (.fl (PL (duL D))) h := by
  rw [c306]
  unfold b__law_listed
  have it := it_fdG (T := T) (cl := callN T n) (e := .var 0) (h := h) (pe := lv) (D := D) (s := [some (.fd (KG lv D)), none, none, none, none]) (ev_var rfl)
  have l1 := lcG (T := T) (cl := callN T n) (h := h) (s0 := wipeL [some (.fd (KG lv D)), none, none, none, none] [3]) (t := .var 3) (e := .blt .str true (.cons (.var 3) .nil)) .str .str (ksG D) fun b _ => by
    refine ⟨_, by simp only [↓rb, ↓tw0, ↓tw1, ↓evSs, ↓evS, ↓evE, ↓evEs, ↓evI, ↓evC, ↓evO, ↓evPs, ag1, ag2, ag3, ag4, chkT, ofO, List.getElem?_cons_zero, List.getElem?_cons_succ, List.set_cons_zero, List.set_cons_succ, Bool.false_eq_true, if_false, if_true, Option.bind_some, Option.map_some, tru1, subD, setD, cmpD, cmpO, binD, bltD, asS, asL, asD, asO, keyOf, truV, cf_eq_i, cf_ne_i, cf_eq_s, cf_ne_s, cf_eq_b, cf_ne_b, cf_lt_i, cf_gt_i, cf_le_i, cf_ge_i, cf_is0, cf_isr, cf_isnot0, cf_ist, kd_dec, kd_dec2, subF, ix10, ix20, ix21, ix30, ix31, ix32, ln1, ln2, ln3, lim0, lim1, lim2, lim3, lim4, lim5, lim6, decide_true, decide_false, decide_not, Bool.not_true, Bool.not_false, Bool.true_or, Bool.or_true, Bool.false_or, Bool.or_false, not_true, not_false_eq_true, eq_self, reduceCtorEq, Bool.and_true, Bool.true_and, Bool.and_false, Bool.false_and, wipeL]; rfl, ?_⟩
    simp only [↓rb, ↓tw0, ↓tw1, ↓evSs, ↓evS, ↓evE, ↓evEs, ↓evI, ↓evC, ↓evO, ↓evPs, ag1, ag2, ag3, ag4, chkT, ofO, List.getElem?_cons_zero, List.getElem?_cons_succ, List.set_cons_zero, List.set_cons_succ, Bool.false_eq_true, if_false, if_true, Option.bind_some, Option.map_some, tru1, subD, setD, cmpD, cmpO, binD, bltD, asS, asL, asD, asO, keyOf, truV, cf_eq_i, cf_ne_i, cf_eq_s, cf_ne_s, cf_eq_b, cf_ne_b, cf_lt_i, cf_gt_i, cf_le_i, cf_ge_i, cf_is0, cf_isr, cf_isnot0, cf_ist, kd_dec, kd_dec2, subF, ix10, ix20, ix21, ix30, ix31, ix32, ln1, ln2, ln3, lim0, lim1, lim2, lim3, lim4, lim5, lim6, decide_true, decide_false, decide_not, Bool.not_true, Bool.not_false, Bool.true_or, Bool.or_true, Bool.false_or, Bool.or_false, not_true, not_false_eq_true, eq_self, reduceCtorEq, Bool.and_true, Bool.true_and, Bool.and_false, Bool.false_and, bltF]
  have e2 : evE T (callN T n) false (.lc true [3] (.var 3) (.val (.var 0)) .no (.blt .str true (.cons (.var 3) .nil))) [some (.fd (KG lv D)), none, none, none, none] h = .ok (.fl ((ksG D).map .str)) h := by
    rw [ev_lc it (by simp [Walk.free, ksG, LIM]; omega) ((unlock_free rfl).trans l1)]
    rfl
  have e3 : evE T (callN T n) false (.blt .sorted true (.cons (.lc true [3] (.var 3) (.val (.var 0)) .no (.blt .str true (.cons (.var 3) .nil))) .nil)) [some (.fd (KG lv D)), none, none, none, none] h = .ok (.fl ((sortS (ksG D)).map .str)) h := by
    have z : ((ksG D).length < 64) = True := by simp [ksG]; omega
    rw [evE, evEs, e2]
    simp only [rb, evEs, tw0, bltD, bltF, asD, asL, Option.bind_some, strs_map, chk, z, if_true, mkL]
  have it2 : evI T (callN T n) (.val (.blt .sorted true (.cons (.lc true [3] (.var 3) (.val (.var 0)) .no (.blt .str true (.cons (.var 3) .nil))) .nil))) [some (.fd (KG lv D)), none, none, none, none] h = .ok (.free ((sortS (ksG D)).map .str)) h := by
    rw [evI, e3]; rfl
  have l2 := lcG (T := T) (cl := callN T n) (h := h) (s0 := wipeL [some (.fd (KG lv D)), none, none, none, none] [2]) (t := .var 2) (e := .tup (.cons (.var 2) (.cons (.sub (.sub (.var 0) (.var 2)) (.int 0)) (.cons (.sub (.sub (.var 0) (.var 2)) (.int 1)) .nil)))) .str (fun x => tv (x, (lkG D x).getD (none, none))) (sortS (ksG D)) fun z hz => by
    obtain ⟨v, hv⟩ := mem_ksG.mp ((sortS_perm _).mem_iff.mp hz)
    have e1 : look (KG lv D) (.inr z) = some (lv v) := by rw [look_KG, hv]; rfl
    refine ⟨_, by simp only [↓rb, ↓tw0, ↓tw1, ↓evSs, ↓evS, ↓evE, ↓evEs, ↓evI, ↓evC, ↓evO, ↓evPs, ag1, ag2, ag3, ag4, chkT, ofO, List.getElem?_cons_zero, List.getElem?_cons_succ, List.set_cons_zero, List.set_cons_succ, Bool.false_eq_true, if_false, if_true, Option.bind_some, Option.map_some, tru1, subD, setD, cmpD, cmpO, binD, bltD, asS, asL, asD, asO, keyOf, truV, cf_eq_i, cf_ne_i, cf_eq_s, cf_ne_s, cf_eq_b, cf_ne_b, cf_lt_i, cf_gt_i, cf_le_i, cf_ge_i, cf_is0, cf_isr, cf_isnot0, cf_ist, kd_dec, kd_dec2, subF, ix10, ix20, ix21, ix30, ix31, ix32, ln1, ln2, ln3, lim0, lim1, lim2, lim3, lim4, lim5, lim6, decide_true, decide_false, decide_not, Bool.not_true, Bool.not_false, Bool.true_or, Bool.or_true, Bool.false_or, Bool.or_false, not_true, not_false_eq_true, eq_self, reduceCtorEq, Bool.and_true, Bool.true_and, Bool.and_false, Bool.false_and, wipeL]; rfl, ?_⟩
    simp only [↓rb, ↓tw0, ↓tw1, ↓evSs, ↓evS, ↓evE, ↓evEs, ↓evI, ↓evC, ↓evO, ↓evPs, ag1, ag2, ag3, ag4, chkT, ofO, List.getElem?_cons_zero, List.getElem?_cons_succ, List.set_cons_zero, List.set_cons_succ, Bool.false_eq_true, if_false, if_true, Option.bind_some, Option.map_some, tru1, subD, setD, cmpD, cmpO, binD, bltD, asS, asL, asD, asO, keyOf, truV, cf_eq_i, cf_ne_i, cf_eq_s, cf_ne_s, cf_eq_b, cf_ne_b, cf_lt_i, cf_gt_i, cf_le_i, cf_ge_i, cf_is0, cf_isr, cf_isnot0, cf_ist, kd_dec, kd_dec2, subF, ix10, ix20, ix21, ix30, ix31, ix32, ln1, ln2, ln3, lim0, lim1, lim2, lim3, lim4, lim5, lim6, decide_true, decide_false, decide_not, Bool.not_true, Bool.not_false, Bool.true_or, Bool.or_true, Bool.false_or, Bool.or_false, not_true, not_false_eq_true, eq_self, reduceCtorEq, Bool.and_true, Bool.true_and, Bool.and_false, Bool.false_and, e1, lv, hv, Option.getD_some, tv, chk]
  rw [map_lstG tv] at l2
  have e4 : evE T (callN T n) false (.lc true [2] (.var 2) (.val (.blt .sorted true (.cons (.lc true [3] (.var 3) (.val (.var 0)) .no (.blt .str true (.cons (.var 3) .nil))) .nil))) .no (.tup (.cons (.var 2) (.cons (.sub (.sub (.var 0) (.var 2)) (.int 0)) (.cons (.sub (.sub (.var 0) (.var 2)) (.int 1)) .nil))))) [some (.fd (KG lv D)), none, none, none, none] h = .ok (.fl ((lstG D).map tv)) h := by
    rw [ev_lc it2 (by simp only [Walk.free, List.length_map, (sortS_perm _).length_eq]; simp [ksG, LIM]; omega) ((unlock_free rfl).trans l2)]
    rfl
  have it3 : evI T (callN T n) (.val (.var 1)) [some (.fd (KG lv D)), some (.fl ((lstG D).map tv)), none, none, none] h = .ok (.free ((lstG D).map tv)) h := by
    simp only [↓rb, ↓tw0, ↓tw1, ↓evSs, ↓evS, ↓evE, ↓evEs, ↓evI, ↓evC, ↓evO, ↓evPs, ag1, ag2, ag3, ag4, chkT, ofO, List.getElem?_cons_zero, List.getElem?_cons_succ, List.set_cons_zero, List.set_cons_succ, Bool.false_eq_true, if_false, if_true, Option.bind_some, Option.map_some, tru1, subD, setD, cmpD, cmpO, binD, bltD, asS, asL, asD, asO, keyOf, truV, cf_eq_i, cf_ne_i, cf_eq_s, cf_ne_s, cf_eq_b, cf_ne_b, cf_lt_i, cf_gt_i, cf_le_i, cf_ge_i, cf_is0, cf_isr, cf_isnot0, cf_ist, kd_dec, kd_dec2, subF, ix10, ix20, ix21, ix30, ix31, ix32, ln1, ln2, ln3, lim0, lim1, lim2, lim3, lim4, lim5, lim6, decide_true, decide_false, decide_not, Bool.not_true, Bool.not_false, Bool.true_or, Bool.or_true, Bool.false_or, Bool.or_false, not_true, not_false_eq_true, eq_self, reduceCtorEq, Bool.and_true, Bool.true_and, Bool.and_false, Bool.false_and, itD]
  have l3 := lcG2 (T := T) (cl := callN T n) (h := h) (s0 := wipeL [some (.fd (KG lv D)), some (.fl ((lstG D).map tv)), none, none, none] [4]) (t := .var 4) (c := .or_ (.cmp .isnot (.sub (.var 4) (.int 1)) .non) (.cmp .isnot (.sub (.var 4) (.int 2)) .non)) (e := .var 4) tv tv (fun q => la q.2) (lstG D) fun q _ => by
    obtain ⟨x, a, b⟩ := q
    refine ⟨_, by simp only [↓rb, ↓tw0, ↓tw1, ↓evSs, ↓evS, ↓evE, ↓evEs, ↓evI, ↓evC, ↓evO, ↓evPs, ag1, ag2, ag3, ag4, chkT, ofO, List.getElem?_cons_zero, List.getElem?_cons_succ, List.set_cons_zero, List.set_cons_succ, Bool.false_eq_true, if_false, if_true, Option.bind_some, Option.map_some, tru1, subD, setD, cmpD, cmpO, binD, bltD, asS, asL, asD, asO, keyOf, truV, cf_eq_i, cf_ne_i, cf_eq_s, cf_ne_s, cf_eq_b, cf_ne_b, cf_lt_i, cf_gt_i, cf_le_i, cf_ge_i, cf_is0, cf_isr, cf_isnot0, cf_ist, kd_dec, kd_dec2, subF, ix10, ix20, ix21, ix30, ix31, ix32, ln1, ln2, ln3, lim0, lim1, lim2, lim3, lim4, lim5, lim6, decide_true, decide_false, decide_not, Bool.not_true, Bool.not_false, Bool.true_or, Bool.or_true, Bool.false_or, Bool.or_false, not_true, not_false_eq_true, eq_self, reduceCtorEq, Bool.and_true, Bool.true_and, Bool.and_false, Bool.false_and, wipeL]; rfl, ?_, by simp only [↓rb, ↓tw0, ↓tw1, ↓evSs, ↓evS, ↓evE, ↓evEs, ↓evI, ↓evC, ↓evO, ↓evPs, ag1, ag2, ag3, ag4, chkT, ofO, List.getElem?_cons_zero, List.getElem?_cons_succ, List.set_cons_zero, List.set_cons_succ, Bool.false_eq_true, if_false, if_true, Option.bind_some, Option.map_some, tru1, subD, setD, cmpD, cmpO, binD, bltD, asS, asL, asD, asO, keyOf, truV, cf_eq_i, cf_ne_i, cf_eq_s, cf_ne_s, cf_eq_b, cf_ne_b, cf_lt_i, cf_gt_i, cf_le_i, cf_ge_i, cf_is0, cf_isr, cf_isnot0, cf_ist, kd_dec, kd_dec2, subF, ix10, ix20, ix21, ix30, ix31, ix32, ln1, ln2, ln3, lim0, lim1, lim2, lim3, lim4, lim5, lim6, decide_true, decide_false, decide_not, Bool.not_true, Bool.not_false, Bool.true_or, Bool.or_true, Bool.false_or, Bool.or_false, not_true, not_false_eq_true, eq_self, reduceCtorEq, Bool.and_true, Bool.true_and, Bool.and_false, Bool.false_and]⟩
    cases a <;> cases b <;> simp only [↓rb, ↓tw0, ↓tw1, ↓evSs, ↓evS, ↓evE, ↓evEs, ↓evI, ↓evC, ↓evO, ↓evPs, ag1, ag2, ag3, ag4, chkT, ofO, List.getElem?_cons_zero, List.getElem?_cons_succ, List.set_cons_zero, List.set_cons_succ, Bool.false_eq_true, if_false, if_true, Option.bind_some, Option.map_some, tru1, subD, setD, cmpD, cmpO, binD, bltD, asS, asL, asD, asO, keyOf, truV, cf_eq_i, cf_ne_i, cf_eq_s, cf_ne_s, cf_eq_b, cf_ne_b, cf_lt_i, cf_gt_i, cf_le_i, cf_ge_i, cf_is0, cf_isr, cf_isnot0, cf_ist, kd_dec, kd_dec2, subF, ix10, ix20, ix21, ix30, ix31, ix32, ln1, ln2, ln3, lim0, lim1, lim2, lim3, lim4, lim5, lim6, decide_true, decide_false, decide_not, Bool.not_true, Bool.not_false, Bool.true_or, Bool.or_true, Bool.false_or, Bool.or_false, not_true, not_false_eq_true, eq_self, reduceCtorEq, Bool.and_true, Bool.true_and, Bool.and_false, Bool.false_and, tv, la, ow, cf_isni, Option.isSome_none, Option.isSome_some]
  rw [lstG_filter nd la] at l3
  have ll := len_lstG nd
  refine (congrArg (fun r => finR 2 h (retOf r)) ((st_set e4).trans (st_ret (v := .fl (PL (duL D))) (h1 := h) ?_))).trans (fin2_0 (pu_fl pu_tv _))
  show evE T (callN T n) false _ [some (.fd (KG lv D)), some (.fl ((lstG D).map tv)), none, none, none] h = _
  rw [ev_lc it3 (by simp only [Walk.free, List.length_map, ll]; simp [LIM]; omega) ((unlock_free rfl).trans l3)]
  rfl
theorem islim_ok (n : Nat) (o : Option Int) (h : Hv) : callN T (n + 2) 307 [ow o, ow o] h = .ok (.bl true) h := by
  rw [c307]
  refine Eq.trans (congrArg (finR 2 h) ?_) (fin2_0 (show pu (.bl true) from rfl))
  unfold b__law_is_limit
  cases o <;> simp only [↓rb, ↓tw0, ↓tw1, ↓evSs, ↓evS, ↓evE, ↓evEs, ↓evI, ↓evC, ↓evO, ↓evPs, ag1, ag2, ag3, ag4, chkT, ofO, List.getElem?_cons_zero, List.getElem?_cons_succ, List.set_cons_zero, List.set_cons_succ, Bool.false_eq_true, if_false, if_true, Option.bind_some, Option.map_some, tru1, subD, setD, cmpD, cmpO, binD, bltD, asS, asL, asD, asO, keyOf, truV, cf_eq_i, cf_ne_i, cf_eq_s, cf_ne_s, cf_eq_b, cf_ne_b, cf_lt_i, cf_gt_i, cf_le_i, cf_ge_i, cf_is0, cf_isr, cf_isnot0, cf_ist, kd_dec, kd_dec2, subF, ix10, ix20, ix21, ix30, ix31, ix32, ln1, ln2, ln3, lim0, lim1, lim2, lim3, lim4, lim5, lim6, decide_true, decide_false, decide_not, Bool.not_true, Bool.not_false, Bool.true_or, Bool.or_true, Bool.false_or, Bool.or_false, not_true, not_false_eq_true, eq_self, reduceCtorEq, Bool.and_true, Bool.true_and, Bool.and_false, Bool.false_and, ow, cf_isi, cf_isni, isint_ok T n, retOf]
theorem same_ok (n : Nat) {h : Hv} {L : List (Str × Lm)} (hl : L.length < 60) : callN T (n + 3) 308 [.fl (PL L), .fl (PL L)] h = .ok (.bl true) h := by
  rw [c308]
  unfold b__law_same_limits
  have ec : evE T (callN T (n + 2)) true (.or_ (.not_ (.isin (.var 0) .list)) (.cmp .ne (.blt .len true (.cons (.var 0) .nil)) (.blt .len true (.cons (.var 1) .nil)))) [some (.fl (PL L)), some (.fl (PL L)), none, none] h = .ok (.bl false) h := by
    simp only [↓rb, ↓tw0, ↓tw1, ↓evSs, ↓evS, ↓evE, ↓evEs, ↓evI, ↓evC, ↓evO, ↓evPs, ag1, ag2, ag3, ag4, chkT, ofO, List.getElem?_cons_zero, List.getElem?_cons_succ, List.set_cons_zero, List.set_cons_succ, Bool.false_eq_true, if_false, if_true, Option.bind_some, Option.map_some, tru1, subD, setD, cmpD, cmpO, binD, bltD, asS, asL, asD, asO, keyOf, truV, cf_eq_i, cf_ne_i, cf_eq_s, cf_ne_s, cf_eq_b, cf_ne_b, cf_lt_i, cf_gt_i, cf_le_i, cf_ge_i, cf_is0, cf_isr, cf_isnot0, cf_ist, kd_dec, kd_dec2, subF, ix10, ix20, ix21, ix30, ix31, ix32, ln1, ln2, ln3, lim0, lim1, lim2, lim3, lim4, lim5, lim6, decide_true, decide_false, decide_not, Bool.not_true, Bool.not_false, Bool.true_or, Bool.or_true, Bool.false_or, Bool.or_false, not_true, not_false_eq_true, eq_self, reduceCtorEq, Bool.and_true, Bool.true_and, Bool.and_false, Bool.false_and, tyF, ll', bltF]
  have it : evI T (callN T (n + 2)) (.rng1 (.blt .len true (.cons (.var 1) .nil))) [some (.fl (PL L)), some (.fl (PL L)), none, none] h = .ok (.free (rngL 0 (PL L).length)) h :=
    it_rng (by simp only [↓rb, ↓tw0, ↓tw1, ↓evSs, ↓evS, ↓evE, ↓evEs, ↓evI, ↓evC, ↓evO, ↓evPs, ag1, ag2, ag3, ag4, chkT, ofO, List.getElem?_cons_zero, List.getElem?_cons_succ, List.set_cons_zero, List.set_cons_succ, Bool.false_eq_true, if_false, if_true, Option.bind_some, Option.map_some, tru1, subD, setD, cmpD, cmpO, binD, bltD, asS, asL, asD, asO, keyOf, truV, cf_eq_i, cf_ne_i, cf_eq_s, cf_ne_s, cf_eq_b, cf_ne_b, cf_lt_i, cf_gt_i, cf_le_i, cf_ge_i, cf_is0, cf_isr, cf_isnot0, cf_ist, kd_dec, kd_dec2, subF, ix10, ix20, ix21, ix30, ix31, ix32, ln1, ln2, ln3, lim0, lim1, lim2, lim3, lim4, lim5, lim6, decide_true, decide_false, decide_not, Bool.not_true, Bool.not_false, Bool.true_or, Bool.or_true, Bool.false_or, Bool.or_false, not_true, not_false_eq_true, eq_self, reduceCtorEq, Bool.and_true, Bool.true_and, Bool.and_false, Bool.false_and, bltF]) (by simp [PL]; omega)
  obtain ⟨s', h', e1, i, x2, x3, es, eh, _⟩ := forR_run (src := .free) (t := .var 2) (body := evSs T (callN T (n + 2)) (.cons (.set (.var 3) (.sub (.var 0) (.var 2))) (.cons (.ife (.or_ (.not_ (.isin (.var 3) .tuple)) (.or_ (.cmp .ne (.blt .len true (.cons (.var 3) .nil)) (.int 3)) (.not_ (.isin (.sub (.var 3) (.int 0)) .str)))) (.cons (.ret (.bl false)) .nil) .nil) (.cons (.ife (.or_ (.cmp .ne (.sub (.var 3) (.int 0)) (.sub (.sub (.var 1) (.var 2)) (.int 0))) (.or_ (.not_ (.call 307 (.cons (.sub (.var 3) (.int 1)) (.cons (.sub (.sub (.var 1) (.var 2)) (.int 1)) .nil)))) (.not_ (.call 307 (.cons (.sub (.var 3) (.int 2)) (.cons (.sub (.sub (.var 1) (.var 2)) (.int 2)) .nil)))))) (.cons (.ret (.bl false)) .nil) .nil) .nil))))
    (fun r s h4 => ∃ (i : Nat) (x2 x3 : Option Vl), s = [some (.fl (PL L)), some (.fl (PL L)), x2, x3] ∧ h4 = h ∧ r = (rngL 0 (PL L).length).drop i)
    (fun _ _ _ _ => trivial) (fun v r s h4 ⟨i, x2, x3, es, eh, er⟩ => by
      subst es eh
      have hi : i < (PL L).length := by
        have := congrArg List.length er
        simp [rngL] at this
        omega
      have hr : (rngL 0 (PL L).length).drop i = Vl.int i :: (rngL 0 (PL L).length).drop (i + 1) := by
        rw [List.drop_eq_getElem_cons (by simp [rngL]; exact hi)]
        simp [rngL]
      rw [hr] at er
      obtain ⟨rfl, rfl⟩ := List.cons.inj er
      have hi2 : i < L.length := by simpa [PL] using hi
      have hb : (PL L)[i]? = some (tv L[i]) := by simp [PL, hi2]
      have ix : (L2.ixN (PL L).length (i : Int)).bind (fun k => (PL L)[k]?) = some (tv L[i]) := by
        simp only [L2.ixN]
        rw [if_pos (by omega), if_pos (by omega)]
        simp [hb]
      generalize L[i] = b at ix
      obtain ⟨x, c, k⟩ := b
      simp only [tv] at ix
      refine ⟨_, _, _, by simp only [↓rb, ↓tw0, ↓tw1, ↓evSs, ↓evS, ↓evE, ↓evEs, ↓evI, ↓evC, ↓evO, ↓evPs, ag1, ag2, ag3, ag4, chkT, ofO, List.getElem?_cons_zero, List.getElem?_cons_succ, List.set_cons_zero, List.set_cons_succ, Bool.false_eq_true, if_false, if_true, Option.bind_some, Option.map_some, tru1, subD, setD, cmpD, cmpO, binD, bltD, asS, asL, asD, asO, keyOf, truV, cf_eq_i, cf_ne_i, cf_eq_s, cf_ne_s, cf_eq_b, cf_ne_b, cf_lt_i, cf_gt_i, cf_le_i, cf_ge_i, cf_is0, cf_isr, cf_isnot0, cf_ist, kd_dec, kd_dec2, subF, ix10, ix20, ix21, ix30, ix31, ix32, ln1, ln2, ln3, lim0, lim1, lim2, lim3, lim4, lim5, lim6, decide_true, decide_false, decide_not, Bool.not_true, Bool.not_false, Bool.true_or, Bool.or_true, Bool.false_or, Bool.or_false, not_true, not_false_eq_true, eq_self, reduceCtorEq, Bool.and_true, Bool.true_and, Bool.and_false, Bool.false_and]; rfl, .inl (by
        simp only [↓rb, ↓tw0, ↓tw1, ↓evSs, ↓evS, ↓evE, ↓evEs, ↓evI, ↓evC, ↓evO, ↓evPs, ag1, ag2, ag3, ag4, chkT, ofO, List.getElem?_cons_zero, List.getElem?_cons_succ, List.set_cons_zero, List.set_cons_succ, Bool.false_eq_true, if_false, if_true, Option.bind_some, Option.map_some, tru1, subD, setD, cmpD, cmpO, binD, bltD, asS, asL, asD, asO, keyOf, truV, cf_eq_i, cf_ne_i, cf_eq_s, cf_ne_s, cf_eq_b, cf_ne_b, cf_lt_i, cf_gt_i, cf_le_i, cf_ge_i, cf_is0, cf_isr, cf_isnot0, cf_ist, kd_dec, kd_dec2, subF, ix10, ix20, ix21, ix30, ix31, ix32, ln1, ln2, ln3, lim0, lim1, lim2, lim3, lim4, lim5, lim6, decide_true, decide_false, decide_not, Bool.not_true, Bool.not_false, Bool.true_or, Bool.or_true, Bool.false_or, Bool.or_false, not_true, not_false_eq_true, eq_self, reduceCtorEq, Bool.and_true, Bool.true_and, Bool.and_false, Bool.false_and, ix, tyF, tt', ss', bltF, islim_ok T n]; rfl), i + 1, _, _, rfl, rfl, rfl⟩) (rngL 0 (PL L).length) [some (.fl (PL L)), some (.fl (PL L)), none, none] h ⟨0, _, _, rfl, rfl, rfl⟩
  subst es eh
  refine (congrArg (fun r => finR 2 h' (retOf r)) ((st_if0 ec).trans ((st_for it ((unlock_free rfl).trans e1)).trans (st_ret (v := .bl true) (h1 := _) (by simp only [↓rb, ↓tw0, ↓tw1, ↓evSs, ↓evS, ↓evE, ↓evEs, ↓evI, ↓evC, ↓evO, ↓evPs, ag1, ag2, ag3, ag4, chkT, ofO, List.getElem?_cons_zero, List.getElem?_cons_succ, List.set_cons_zero, List.set_cons_succ, Bool.false_eq_true, if_false, if_true, Option.bind_some, Option.map_some, tru1, subD, setD, cmpD, cmpO, binD, bltD, asS, asL, asD, asO, keyOf, truV, cf_eq_i, cf_ne_i, cf_eq_s, cf_ne_s, cf_eq_b, cf_ne_b, cf_lt_i, cf_gt_i, cf_le_i, cf_ge_i, cf_is0, cf_isr, cf_isnot0, cf_ist, kd_dec, kd_dec2, subF, ix10, ix20, ix21, ix30, ix31, ix32, ln1, ln2, ln3, lim0, lim1, lim2, lim3, lim4, lim5, lim6, decide_true, decide_false, decide_not, Bool.not_true, Bool.not_false, Bool.true_or, Bool.or_true, Bool.false_or, Bool.or_false, not_true, not_false_eq_true, eq_self, reduceCtorEq, Bool.and_true, Bool.true_and, Bool.and_false, Bool.false_and]))))).trans (fin2_0 (show pu (.bl true) from rfl))
end
end K01
end

section
set_option Elab.async false
set_option linter.all false
set_option maxRecDepth 100000
set_option maxHeartbeats 4000000
set_option autoImplicit false
/-! PL3: limits, laws of them. -/
namespace K01
open PySem L2 Core
theorem cut_map {ns : List Str} {lo hi : Option Int} : ∃ xs : List Str, cut (ns.map Vl.str) lo hi = xs.map .str ∧ (∀ x ∈ xs, x ∈ ns) ∧ xs.length ≤ ns.length := by
  refine ⟨cut ns lo hi, by unfold cut; simp [List.map_drop, List.map_take], fun x hx => ?_, ?_⟩
  · unfold cut at hx
    exact List.mem_of_mem_drop (List.mem_of_mem_take hx)
  · unfold cut
    simp
    omega
theorem slc_ok {h : Hv} {nm : Nat} {ns : List Str} {lo hi : Option Int} (hn : h[nm]? = some (.lst (ns.map .str))) : ∃ xs : List Str, slcF true (.ref nm) lo hi h = .ok (.fl (xs.map .str)) h ∧ (∀ x ∈ xs, x ∈ ns) ∧ xs.length ≤ ns.length := by
  obtain ⟨xs, e, m⟩ := cut_map (ns := ns) (lo := lo) (hi := hi)
  refine ⟨xs, ?_, m⟩
  simp only [slcF, asL, hn, mkL, if_true, e]
theorem slc_fl {h : Hv} {ns : List Str} {lo hi : Option Int} : ∃ xs : List Str, slcF true (.fl (ns.map .str)) lo hi h = .ok (.fl (xs.map .str)) h ∧ (∀ x ∈ xs, x ∈ ns) ∧ xs.length ≤ ns.length := by
  obtain ⟨xs, e, m⟩ := cut_map (ns := ns) (lo := lo) (hi := hi)
  refine ⟨xs, ?_, m⟩
  simp only [slcF, asL, mkL, if_true, e]
theorem all_filter {L : List (Str × Lm)} {f : Str × Lm → Bool} (hf : ∀ q, la q.2 = false → f q = true) : (L.filter fun q => la q.2).all f = L.all f := by
  induction L with
  | nil => rfl
  | cons q L ih =>
    cases e : la q.2 with
    | true => simp [e, ih]
    | false => simp [e, ih, hf q e]
theorem mem_lstG {L : List (Str × Lm)} (nd : (ksG L).Nodup) (q : Str × Lm) : q ∈ lstG L ↔ q ∈ L := by
  obtain ⟨x, l⟩ := q
  rw [← lkG_iff (nd_lstG nd), ← lkG_iff nd, lk_lstG nd]
theorem all_ext {α : Type} {a b : List α} (p : ∀ q, q ∈ a ↔ q ∈ b) (f : α → Bool) : a.all f = b.all f := by
  rw [Bool.eq_iff_iff, List.all_eq_true, List.all_eq_true]
  exact ⟨fun h x hx => h x ((p x).mpr hx), fun h x hx => h x ((p x).mp hx)⟩
/-- the limits of a name -/
def gt (D : List (Str × Lm)) (x : Str) : Lm := (lkG D x).getD (none, none)
def mxl : Option Int → Option Int → Option Int
  | none, b => b
  | some a, none => some a
  | some a, some b => if a < b then some b else some a
def mnh : Option Int → Option Int → Option Int
  | none, b => b
  | some a, none => some a
  | some a, some b => if b < a then some b else some a
def cm (a b : Lm) : Option Lm := match mxl a.1 b.1, mnh a.2 b.2 with
  | some l, some h => if h < l then none else some (some l, some h)
  | l, h => some (l, h)
def cv : Option Lm → Vl
  | none => .non
  | some l => lv l
def loL : Option Int → Option Int → Bool
  | _, none => true
  | none, some _ => false
  | some a, some b => decide (b ≤ a)
def hiL : Option Int → Option Int → Bool
  | _, none => true
  | none, some _ => false
  | some a, some b => decide (a ≤ b)
def leL (m l : Lm) : Bool := loL m.1 l.1 && hiL m.2 l.2
def leD (D E : List (Str × Lm)) : Bool := E.all fun q => leL (gt D q.1) q.2
theorem mxl_le (a b : Option Int) : mxl a b = a ↔ loL a b = true := by
  cases a <;> cases b <;> simp [mxl, loL] <;> omega
theorem mnh_le (a b : Option Int) : mnh a b = a ↔ hiL a b = true := by
  cases a <;> cases b <;> simp [mnh, hiL] <;> omega
theorem cm_some {a b l : Lm} (e : cm a b = some l) : l = (mxl a.1 b.1, mnh a.2 b.2) := by
  unfold cm at e
  split at e
  · rename_i x y e1 e2
    split at e
    · cases e
    · cases e; rw [e1, e2]
  · rename_i x y e1
    exact (Option.some.inj e).symm
theorem cm_vd {a b : Lm} (v : vd (mxl a.1 b.1, mnh a.2 b.2) = true) : cm a b = some (mxl a.1 b.1, mnh a.2 b.2) := by
  unfold cm
  cases e1 : mxl a.1 b.1 <;> cases e2 : mnh a.2 b.2 <;> simp only []
  rename_i x y
  rw [e1, e2] at v
  simp only [vd, decide_eq_true_eq] at v
  rw [if_neg (by omega)]
theorem cm_eq {a b : Lm} (v : vd a = true) : decide (cm a b = some a) = leL a b := by
  rw [Bool.eq_iff_iff, decide_eq_true_eq]
  unfold leL
  rw [Bool.and_eq_true, ← mxl_le, ← mnh_le]
  constructor
  · intro e
    have := cm_some e
    exact ⟨(congrArg Prod.fst this).symm, (congrArg Prod.snd this).symm⟩
  · intro ⟨e1, e2⟩
    have e3 : (mxl a.1 b.1, mnh a.2 b.2) = a := by rw [e1, e2]
    rw [cm_vd (by rw [e3]; exact v), e3]
theorem leL_none (m : Lm) : leL m (none, none) = true := by
  obtain ⟨a, b⟩ := m
  cases a <;> cases b <;> rfl
theorem leL_refl (m : Lm) : leL m m = true := by
  obtain ⟨a, b⟩ := m
  cases a <;> cases b <;> simp [leL, loL, hiL]
theorem leL_anti {m l : Lm} (h : leL m l = true) (h' : leL l m = true) : m = l := by
  obtain ⟨a, b⟩ := m
  obtain ⟨c, d⟩ := l
  cases a <;> cases b <;> cases c <;> cases d <;> simp [leL, loL, hiL] at h h' ⊢ <;> omega
theorem gt_la {D : List (Str × Lm)} (nd : (ksG D).Nodup) (x : Str) : gt (D.filter fun q => la q.2) x = gt D x := by
  unfold gt
  rw [lkG_filter nd]
  cases lkG D x with
  | none => rfl
  | some l =>
    obtain ⟨a, b⟩ := l
    cases a <;> cases b <;> simp [la, Option.filter]
theorem gt_mem {D : List (Str × Lm)} (nd : (ksG D).Nodup) {q : Str × Lm} (h : q ∈ D) : gt D q.1 = q.2 := by
  obtain ⟨x, l⟩ := q
  unfold gt
  rw [(lkG_iff nd).mpr h]
  rfl
theorem gt_or (D : List (Str × Lm)) (x : Str) : (∃ l, lkG D x = some l ∧ gt D x = l) ∨ (lkG D x = none ∧ gt D x = (none, none)) := by
  unfold gt
  cases lkG D x with
  | none => exact .inr ⟨rfl, rfl⟩
  | some l => exact .inl ⟨l, rfl, rfl⟩
theorem leD_iff {D E : List (Str × Lm)} (ne : (ksG E).Nodup) : leD D E = true ↔ ∀ x, leL (gt D x) (gt E x) = true := by
  unfold leD
  rw [List.all_eq_true]
  constructor
  · intro h x
    rcases gt_or E x with ⟨l, e, g⟩ | ⟨_, g⟩
    · have := h (x, l) ((lkG_iff ne).mp e)
      rw [g]
      exact this
    · rw [g]; exact leL_none _
  · intro h q hq
    have := h q.1
    rw [gt_mem ne hq] at this
    exact this
theorem la_gt (o : Option Lm) : o.filter la = if la (o.getD (none, none)) then some (o.getD (none, none)) else none := by
  cases o with
  | none => rfl
  | some l => simp [Option.filter]
theorem duL_iff {D E : List (Str × Lm)} (nd : (ksG D).Nodup) (ne : (ksG E).Nodup) : duL D = duL E ↔ ∀ x, gt D x = gt E x := by
  constructor
  · intro h x
    rw [← gt_la nd, ← gt_la ne]
    unfold gt
    rw [← lk_lstG (ndG_filter nd la), ← lk_lstG (ndG_filter ne la)]
    have : lstG (D.filter fun q => la q.2) = lstG (E.filter fun q => la q.2) := h
    rw [this]
  · intro h
    refine lstG_ext (ndG_filter nd la) (ndG_filter ne la) fun x => ?_
    rw [lkG_filter nd, lkG_filter ne, la_gt, la_gt]
    have := h x
    unfold gt at this
    rw [this]
theorem both_le {D E : List (Str × Lm)} (nd : (ksG D).Nodup) (ne : (ksG E).Nodup) : (leD D E && leD E D) = decide (duL D = duL E) := by
  rw [Bool.eq_iff_iff, Bool.and_eq_true, leD_iff ne, leD_iff nd, decide_eq_true_eq, duL_iff nd ne]
  constructor
  · intro ⟨a, b⟩ x
    exact leL_anti (a x) (b x)
  · intro h
    exact ⟨fun x => by rw [h x]; exact leL_refl _, fun x => by rw [h x]; exact leL_refl _⟩
theorem leD_la {D E : List (Str × Lm)} (nd : (ksG D).Nodup) (ne : (ksG E).Nodup) : ((lstG (E.filter fun q => la q.2)).all fun q => leL (gt (D.filter fun q => la q.2) q.1) q.2) = leD D E := by
  rw [all_ext (mem_lstG (ndG_filter ne la)), all_filter fun q hq => ?_]
  · unfold leD
    simp only [gt_la nd]
  · obtain ⟨x, a, b⟩ := q
    cases a <;> cases b <;> simp [la] at hq
    exact leL_none _
theorem leD_refl {D : List (Str × Lm)} (nd : (ksG D).Nodup) : leD D D = true := (leD_iff nd).mpr fun x => leL_refl _
/-- every pair of limits is a pair of limits -/
def VD (D : List (Str × Lm)) : Prop := ∀ q ∈ D, vd q.2 = true
theorem VD.gt {D : List (Str × Lm)} (v : VD D) (nd : (ksG D).Nodup) (x : Str) : vd (gt D x) = true := by
  rcases gt_or D x with ⟨l, e, g⟩ | ⟨_, g⟩
  · rw [g]; exact v _ ((lkG_iff nd).mp e)
  · rw [g]; rfl
theorem VD.filter {D : List (Str × Lm)} (v : VD D) (f : Str × Lm → Bool) : VD (D.filter f) := fun q hq => v q (List.mem_filter.mp hq).1
theorem VD.pt {D : List (Str × Lm)} (v : VD D) {x : Str} {l : Lm} (h : vd l = true) : VD (ptG D x l) := fun q hq => by
  rcases mem_ptG hq with hq | rfl
  · exact v q hq
  · exact h
theorem VD.nil : VD [] := fun q hq => by cases hq
end K01
end

section
set_option Elab.async false
set_option linter.all false
set_option maxRecDepth 100000
set_option maxHeartbeats 4000000
set_option autoImplicit false
/-! PL4: patterns that are frozen. -/
namespace K01
open PySem L2 Core
class SpH (T : Tab) (c : Nat) (m : SM) (f : outParam Nat) : Prop where e : T.sp c m = some f
class FdH (T : Tab) (c f : Nat) : Prop where e : T.fld c f = true
class MtH (T : Tab) (c m : Nat) (f : outParam Nat) : Prop where e : T.meth c m = some f
class ClH (T : Tab) (c : Nat) : Prop where e : T.isC c = true
class XcH (T : Tab) (c : Nat) : Prop where e : T.xc c = true
def ptv (B : List (Str × Lm)) : Vl := .fo 2 [(3, .fd (KG lv B)), (2, .tup (PL (lstG B)))]
theorem pu_ptv (B : List (Str × Lm)) : pu (ptv B) := by
  show below 0 (.fo 2 [(3, .fd (KG lv B)), (2, .tup (PL (lstG B)))]) = true
  have h1 : below 0 (.fd (KG lv B)) = true := pu_fd pu_lv B
  have h2 : below 0 (.tup (PL (lstG B))) = true := pu_tup pu_tv _
  rw [below, belowF, belowF, h1, h2]; rfl
theorem pu_cv (o : Option Lm) : pu (cv o) := by cases o with
  | none => rfl
  | some l => exact pu_lv l
theorem tyC2 (T : Tab) [ClH T 2] : tyC T 2 (.cls 2) = some true := by simp [tyC, ClH.e (T := T) (c := 2)]
/-- a loop with a state, that may leave -/
def isEnd (r : Res Fl) : Prop := (∃ v h, r = .ok (.rt v) h) ∨ ∃ c fs h, r = .ex c fs h
theorem forR_fold {β σ : Type} {src : Src} {t : CT} {body : Lo → Hv → Res Fl} (g : β → Vl) (P : σ → Lo → Hv → Prop) (stp : σ → β → Option σ) (R : Res Fl → Prop) (hs : ∀ a s h, P a s h → src.Ok h) :
    ∀ (xs : List β), (∀ b ∈ xs, ∀ a s h, P a s h → ∃ s1, asgT t (g b) s = some s1 ∧ ((∃ a', stp a b = some a' ∧ ∃ s2 h2, body s1 h = .ok (.nx s2) h2 ∧ P a' s2 h2) ∨ (stp a b = none ∧ R (body s1 h) ∧ isEnd (body s1 h)))) → ∀ a s h, P a s h →
      (∃ a', xs.foldlM stp a = some a' ∧ ∃ s' h', forR src t body (xs.map g) s h = .ok (.nx s') h' ∧ P a' s' h') ∨ (xs.foldlM stp a = none ∧ R (forR src t body (xs.map g) s h) ∧ isEnd (forR src t body (xs.map g) s h))
  | [], _, a, s, h, p => .inl ⟨a, rfl, s, h, by show forR src t body [] s h = _; rw [forR, if_pos (hs _ _ _ p)], p⟩
  | b :: xs, st, a, s, h, p => by
    obtain ⟨s1, e1, e2⟩ := st b List.mem_cons_self a s h p
    have z : forR src t body ((b :: xs).map g) s h = match body s1 h with
      | .ok (.nx s2) h2 => forR src t body (xs.map g) s2 h2
      | .ok (.ct s2) h2 => forR src t body (xs.map g) s2 h2
      | .ok (.bk s2) h2 => .ok (.nx s2) h2
      | .ok (.rt v) h2 => .ok (.rt v) h2
      | .ex c fs h2 => .ex c fs h2
      | .st => .st := by
      show forR src t body (g b :: xs.map g) s h = _
      rw [forR, if_pos (hs _ _ _ p), e1]
      all_goals rfl
    rw [z, List.foldlM_cons]
    rcases e2 with ⟨a', f1, s2, h2, e2, p2⟩ | ⟨f1, r1, en⟩
    · rw [e2, f1]
      exact forR_fold g P stp R hs xs (fun b hb => st b (List.mem_cons_of_mem _ hb)) a' s2 h2 p2
    · rw [f1]
      refine .inr ⟨rfl, ?_⟩
      rcases en with ⟨v, h2, e⟩ | ⟨c, fs, h2, e⟩
      · rw [e] at r1 ⊢; exact ⟨r1, .inl ⟨v, h2, rfl⟩⟩
      · rw [e] at r1 ⊢; exact ⟨r1, .inr ⟨c, fs, h2, rfl⟩⟩
/-- .. that leaves with an end -/
theorem st_forE {T : Tab} {cl : Cl} {s : Lo} {h h1 : Hv} {tg : CT} {it : CI} {k : Core.Walk} {body r : CSs} {x : Res Fl} (hi : evI T cl it s h = .ok k h1) (hr : unlockF k (forR k.src tg (evSs T cl body) k.items s (k.lock h1)) = x) (en : isEnd x) : evSs T cl (.cons (.for_ tg it body) r) s h = x := by
  rw [evSs, evS, hi]
  show (match unlockF k (forR k.src tg (evSs T cl body) k.items s (k.lock h1)) with
    | .ok (.nx s1) h1 => evSs T cl r s1 h1
    | x => x) = _
  rw [hr]
  rcases en with ⟨v, h2, e⟩ | ⟨c, fs, h2, e⟩ <;> rw [e]
section
variable (T : Tab) [D24 T]
theorem within_ok (n : Nat) (k : Int) (l : Lm) (h : Hv) : callN T (n + 1) 24 [.int k, ow l.1, ow l.2] h = .ok (.bl (wi k l)) h := by
  rw [c24]
  refine Eq.trans (congrArg (finR 2 h) ?_) (fin2_0 (show pu (.bl _) from rfl))
  unfold b_within wi
  obtain ⟨a, b⟩ := l
  cases a with
  | none => cases b <;> simp only [↓rb, ↓tw0, ↓tw1, ↓evSs, ↓evS, ↓evE, ↓evEs, ↓evI, ↓evC, ↓evO, ↓evPs, ag1, ag2, ag3, ag4, chkT, ofO, List.getElem?_cons_zero, List.getElem?_cons_succ, List.set_cons_zero, List.set_cons_succ, Bool.false_eq_true, if_false, if_true, Option.bind_some, Option.map_some, tru1, subD, setD, cmpD, cmpO, binD, bltD, asS, asL, asD, asO, keyOf, truV, cf_eq_i, cf_ne_i, cf_eq_s, cf_ne_s, cf_eq_b, cf_ne_b, cf_lt_i, cf_gt_i, cf_le_i, cf_ge_i, cf_is0, cf_isr, cf_isnot0, cf_ist, kd_dec, kd_dec2, subF, ix10, ix20, ix21, ix30, ix31, ix32, ln1, ln2, ln3, lim0, lim1, lim2, lim3, lim4, lim5, lim6, decide_true, decide_false, decide_not, Bool.not_true, Bool.not_false, Bool.true_or, Bool.or_true, Bool.false_or, Bool.or_false, not_true, not_false_eq_true, eq_self, reduceCtorEq, Bool.and_true, Bool.true_and, Bool.and_false, Bool.false_and, ow, cf_isi, retOf]
  | some a =>
    by_cases hh : a ≤ k <;> cases b <;> simp only [↓rb, ↓tw0, ↓tw1, ↓evSs, ↓evS, ↓evE, ↓evEs, ↓evI, ↓evC, ↓evO, ↓evPs, ag1, ag2, ag3, ag4, chkT, ofO, List.getElem?_cons_zero, List.getElem?_cons_succ, List.set_cons_zero, List.set_cons_succ, Bool.false_eq_true, if_false, if_true, Option.bind_some, Option.map_some, tru1, subD, setD, cmpD, cmpO, binD, bltD, asS, asL, asD, asO, keyOf, truV, cf_eq_i, cf_ne_i, cf_eq_s, cf_ne_s, cf_eq_b, cf_ne_b, cf_lt_i, cf_gt_i, cf_le_i, cf_ge_i, cf_is0, cf_isr, cf_isnot0, cf_ist, kd_dec, kd_dec2, subF, ix10, ix20, ix21, ix30, ix31, ix32, ln1, ln2, ln3, lim0, lim1, lim2, lim3, lim4, lim5, lim6, decide_true, decide_false, decide_not, Bool.not_true, Bool.not_false, Bool.true_or, Bool.or_true, Bool.false_or, Bool.or_false, not_true, not_false_eq_true, eq_self, reduceCtorEq, Bool.and_true, Bool.true_and, Bool.and_false, Bool.false_and, ow, cf_isi, retOf, hh]
end
section
variable (T : Tab) [D25 T]
theorem com_lo {T : Tab} {cl : Cl} {h : Hv} {a b : Lm} {x3 : Option Vl} {r : CSs} : evSs T cl (.cons (.ife (.or_ (.cmp .is_ (.var 2) .non) (.and_ (.cmp .isnot (.sub (.var 1) (.int 0)) .non) (.cmp .gt (.sub (.var 1) (.int 0)) (.var 2)))) (.cons (.set (.var 2) (.sub (.var 1) (.int 0))) .nil) .nil) r) [some (lv a), some (lv b), some (ow a.1), x3] h = evSs T cl r [some (lv a), some (lv b), some (ow (mxl a.1 b.1)), x3] h := by
  rw [evSs]
  obtain ⟨a, a2⟩ := a
  obtain ⟨b, b2⟩ := b
  cases a with
  | none => cases b <;> simp only [↓rb, ↓tw0, ↓tw1, ↓evSs, ↓evS, ↓evE, ↓evEs, ↓evI, ↓evC, ↓evO, ↓evPs, ag1, ag2, ag3, ag4, chkT, ofO, List.getElem?_cons_zero, List.getElem?_cons_succ, List.set_cons_zero, List.set_cons_succ, Bool.false_eq_true, if_false, if_true, Option.bind_some, Option.map_some, tru1, subD, setD, cmpD, cmpO, binD, bltD, asS, asL, asD, asO, keyOf, truV, cf_eq_i, cf_ne_i, cf_eq_s, cf_ne_s, cf_eq_b, cf_ne_b, cf_lt_i, cf_gt_i, cf_le_i, cf_ge_i, cf_is0, cf_isr, cf_isnot0, cf_ist, kd_dec, kd_dec2, subF, ix10, ix20, ix21, ix30, ix31, ix32, ln1, ln2, ln3, lim0, lim1, lim2, lim3, lim4, lim5, lim6, decide_true, decide_false, decide_not, Bool.not_true, Bool.not_false, Bool.true_or, Bool.or_true, Bool.false_or, Bool.or_false, not_true, not_false_eq_true, eq_self, reduceCtorEq, Bool.and_true, Bool.true_and, Bool.and_false, Bool.false_and, lv, ow, mxl]
  | some a =>
    cases b with
    | none => simp only [↓rb, ↓tw0, ↓tw1, ↓evSs, ↓evS, ↓evE, ↓evEs, ↓evI, ↓evC, ↓evO, ↓evPs, ag1, ag2, ag3, ag4, chkT, ofO, List.getElem?_cons_zero, List.getElem?_cons_succ, List.set_cons_zero, List.set_cons_succ, Bool.false_eq_true, if_false, if_true, Option.bind_some, Option.map_some, tru1, subD, setD, cmpD, cmpO, binD, bltD, asS, asL, asD, asO, keyOf, truV, cf_eq_i, cf_ne_i, cf_eq_s, cf_ne_s, cf_eq_b, cf_ne_b, cf_lt_i, cf_gt_i, cf_le_i, cf_ge_i, cf_is0, cf_isr, cf_isnot0, cf_ist, kd_dec, kd_dec2, subF, ix10, ix20, ix21, ix30, ix31, ix32, ln1, ln2, ln3, lim0, lim1, lim2, lim3, lim4, lim5, lim6, decide_true, decide_false, decide_not, Bool.not_true, Bool.not_false, Bool.true_or, Bool.or_true, Bool.false_or, Bool.or_false, not_true, not_false_eq_true, eq_self, reduceCtorEq, Bool.and_true, Bool.true_and, Bool.and_false, Bool.false_and, lv, ow, mxl, cf_isi]
    | some b => by_cases hh : a < b <;> simp only [↓rb, ↓tw0, ↓tw1, ↓evSs, ↓evS, ↓evE, ↓evEs, ↓evI, ↓evC, ↓evO, ↓evPs, ag1, ag2, ag3, ag4, chkT, ofO, List.getElem?_cons_zero, List.getElem?_cons_succ, List.set_cons_zero, List.set_cons_succ, Bool.false_eq_true, if_false, if_true, Option.bind_some, Option.map_some, tru1, subD, setD, cmpD, cmpO, binD, bltD, asS, asL, asD, asO, keyOf, truV, cf_eq_i, cf_ne_i, cf_eq_s, cf_ne_s, cf_eq_b, cf_ne_b, cf_lt_i, cf_gt_i, cf_le_i, cf_ge_i, cf_is0, cf_isr, cf_isnot0, cf_ist, kd_dec, kd_dec2, subF, ix10, ix20, ix21, ix30, ix31, ix32, ln1, ln2, ln3, lim0, lim1, lim2, lim3, lim4, lim5, lim6, decide_true, decide_false, decide_not, Bool.not_true, Bool.not_false, Bool.true_or, Bool.or_true, Bool.false_or, Bool.or_false, not_true, not_false_eq_true, eq_self, reduceCtorEq, Bool.and_true, Bool.true_and, Bool.and_false, Bool.false_and, lv, ow, mxl, cf_isi, cf_isni, hh]
theorem com_hi {T : Tab} {cl : Cl} {h : Hv} {a b : Lm} {x2 : Option Vl} {r : CSs} : evSs T cl (.cons (.ife (.or_ (.cmp .is_ (.var 3) .non) (.and_ (.cmp .isnot (.sub (.var 1) (.int 1)) .non) (.cmp .lt (.sub (.var 1) (.int 1)) (.var 3)))) (.cons (.set (.var 3) (.sub (.var 1) (.int 1))) .nil) .nil) r) [some (lv a), some (lv b), x2, some (ow a.2)] h = evSs T cl r [some (lv a), some (lv b), x2, some (ow (mnh a.2 b.2))] h := by
  rw [evSs]
  obtain ⟨a1, a⟩ := a
  obtain ⟨b1, b⟩ := b
  cases a with
  | none => cases b <;> simp only [↓rb, ↓tw0, ↓tw1, ↓evSs, ↓evS, ↓evE, ↓evEs, ↓evI, ↓evC, ↓evO, ↓evPs, ag1, ag2, ag3, ag4, chkT, ofO, List.getElem?_cons_zero, List.getElem?_cons_succ, List.set_cons_zero, List.set_cons_succ, Bool.false_eq_true, if_false, if_true, Option.bind_some, Option.map_some, tru1, subD, setD, cmpD, cmpO, binD, bltD, asS, asL, asD, asO, keyOf, truV, cf_eq_i, cf_ne_i, cf_eq_s, cf_ne_s, cf_eq_b, cf_ne_b, cf_lt_i, cf_gt_i, cf_le_i, cf_ge_i, cf_is0, cf_isr, cf_isnot0, cf_ist, kd_dec, kd_dec2, subF, ix10, ix20, ix21, ix30, ix31, ix32, ln1, ln2, ln3, lim0, lim1, lim2, lim3, lim4, lim5, lim6, decide_true, decide_false, decide_not, Bool.not_true, Bool.not_false, Bool.true_or, Bool.or_true, Bool.false_or, Bool.or_false, not_true, not_false_eq_true, eq_self, reduceCtorEq, Bool.and_true, Bool.true_and, Bool.and_false, Bool.false_and, lv, ow, mnh]
  | some a =>
    cases b with
    | none => simp only [↓rb, ↓tw0, ↓tw1, ↓evSs, ↓evS, ↓evE, ↓evEs, ↓evI, ↓evC, ↓evO, ↓evPs, ag1, ag2, ag3, ag4, chkT, ofO, List.getElem?_cons_zero, List.getElem?_cons_succ, List.set_cons_zero, List.set_cons_succ, Bool.false_eq_true, if_false, if_true, Option.bind_some, Option.map_some, tru1, subD, setD, cmpD, cmpO, binD, bltD, asS, asL, asD, asO, keyOf, truV, cf_eq_i, cf_ne_i, cf_eq_s, cf_ne_s, cf_eq_b, cf_ne_b, cf_lt_i, cf_gt_i, cf_le_i, cf_ge_i, cf_is0, cf_isr, cf_isnot0, cf_ist, kd_dec, kd_dec2, subF, ix10, ix20, ix21, ix30, ix31, ix32, ln1, ln2, ln3, lim0, lim1, lim2, lim3, lim4, lim5, lim6, decide_true, decide_false, decide_not, Bool.not_true, Bool.not_false, Bool.true_or, Bool.or_true, Bool.false_or, Bool.or_false, not_true, not_false_eq_true, eq_self, reduceCtorEq, Bool.and_true, Bool.true_and, Bool.and_false, Bool.false_and, lv, ow, mnh, cf_isi]
    | some b => by_cases hh : b < a <;> simp only [↓rb, ↓tw0, ↓tw1, ↓evSs, ↓evS, ↓evE, ↓evEs, ↓evI, ↓evC, ↓evO, ↓evPs, ag1, ag2, ag3, ag4, chkT, ofO, List.getElem?_cons_zero, List.getElem?_cons_succ, List.set_cons_zero, List.set_cons_succ, Bool.false_eq_true, if_false, if_true, Option.bind_some, Option.map_some, tru1, subD, setD, cmpD, cmpO, binD, bltD, asS, asL, asD, asO, keyOf, truV, cf_eq_i, cf_ne_i, cf_eq_s, cf_ne_s, cf_eq_b, cf_ne_b, cf_lt_i, cf_gt_i, cf_le_i, cf_ge_i, cf_is0, cf_isr, cf_isnot0, cf_ist, kd_dec, kd_dec2, subF, ix10, ix20, ix21, ix30, ix31, ix32, ln1, ln2, ln3, lim0, lim1, lim2, lim3, lim4, lim5, lim6, decide_true, decide_false, decide_not, Bool.not_true, Bool.not_false, Bool.true_or, Bool.or_true, Bool.false_or, Bool.or_false, not_true, not_false_eq_true, eq_self, reduceCtorEq, Bool.and_true, Bool.true_and, Bool.and_false, Bool.false_and, lv, ow, mnh, cf_isi, cf_isni, hh]
theorem common_ok (n : Nat) (a b : Lm) (h : Hv) : callN T (n + 1) 25 [lv a, lv b] h = .ok (cv (cm a b)) h := by
  rw [c25]
  refine Eq.trans (congrArg (finR 2 h) ?_) (fin2_0 (pu_cv _))
  unfold b_common
  have e1 : ∀ r, evSs T (callN T n) (.cons (.set (.tup (.cons (.var 2) (.cons (.var 3) .nil))) (.var 0)) r) [some (lv a), some (lv b), none, none] h = evSs T (callN T n) r [some (lv a), some (lv b), some (ow a.1), some (ow a.2)] h := fun r => by
    rw [evSs]
    simp only [↓rb, ↓tw0, ↓tw1, ↓evSs, ↓evS, ↓evE, ↓evEs, ↓evI, ↓evC, ↓evO, ↓evPs, ag1, ag2, ag3, ag4, chkT, ofO, List.getElem?_cons_zero, List.getElem?_cons_succ, List.set_cons_zero, List.set_cons_succ, Bool.false_eq_true, if_false, if_true, Option.bind_some, Option.map_some, tru1, subD, setD, cmpD, cmpO, binD, bltD, asS, asL, asD, asO, keyOf, truV, cf_eq_i, cf_ne_i, cf_eq_s, cf_ne_s, cf_eq_b, cf_ne_b, cf_lt_i, cf_gt_i, cf_le_i, cf_ge_i, cf_is0, cf_isr, cf_isnot0, cf_ist, kd_dec, kd_dec2, subF, ix10, ix20, ix21, ix30, ix31, ix32, ln1, ln2, ln3, lim0, lim1, lim2, lim3, lim4, lim5, lim6, decide_true, decide_false, decide_not, Bool.not_true, Bool.not_false, Bool.true_or, Bool.or_true, Bool.false_or, Bool.or_false, not_true, not_false_eq_true, eq_self, reduceCtorEq, Bool.and_true, Bool.true_and, Bool.and_false, Bool.false_and, lv]
  rw [e1, com_lo, com_hi]
  unfold cm
  cases e1 : mxl a.1 b.1 with
  | none => simp only [↓rb, ↓tw0, ↓tw1, ↓evSs, ↓evS, ↓evE, ↓evEs, ↓evI, ↓evC, ↓evO, ↓evPs, ag1, ag2, ag3, ag4, chkT, ofO, List.getElem?_cons_zero, List.getElem?_cons_succ, List.set_cons_zero, List.set_cons_succ, Bool.false_eq_true, if_false, if_true, Option.bind_some, Option.map_some, tru1, subD, setD, cmpD, cmpO, binD, bltD, asS, asL, asD, asO, keyOf, truV, cf_eq_i, cf_ne_i, cf_eq_s, cf_ne_s, cf_eq_b, cf_ne_b, cf_lt_i, cf_gt_i, cf_le_i, cf_ge_i, cf_is0, cf_isr, cf_isnot0, cf_ist, kd_dec, kd_dec2, subF, ix10, ix20, ix21, ix30, ix31, ix32, ln1, ln2, ln3, lim0, lim1, lim2, lim3, lim4, lim5, lim6, decide_true, decide_false, decide_not, Bool.not_true, Bool.not_false, Bool.true_or, Bool.or_true, Bool.false_or, Bool.or_false, not_true, not_false_eq_true, eq_self, reduceCtorEq, Bool.and_true, Bool.true_and, Bool.and_false, Bool.false_and, ow, lv, chk, retOf, cv]
  | some x =>
    cases e2 : mnh a.2 b.2 with
    | none => simp only [↓rb, ↓tw0, ↓tw1, ↓evSs, ↓evS, ↓evE, ↓evEs, ↓evI, ↓evC, ↓evO, ↓evPs, ag1, ag2, ag3, ag4, chkT, ofO, List.getElem?_cons_zero, List.getElem?_cons_succ, List.set_cons_zero, List.set_cons_succ, Bool.false_eq_true, if_false, if_true, Option.bind_some, Option.map_some, tru1, subD, setD, cmpD, cmpO, binD, bltD, asS, asL, asD, asO, keyOf, truV, cf_eq_i, cf_ne_i, cf_eq_s, cf_ne_s, cf_eq_b, cf_ne_b, cf_lt_i, cf_gt_i, cf_le_i, cf_ge_i, cf_is0, cf_isr, cf_isnot0, cf_ist, kd_dec, kd_dec2, subF, ix10, ix20, ix21, ix30, ix31, ix32, ln1, ln2, ln3, lim0, lim1, lim2, lim3, lim4, lim5, lim6, decide_true, decide_false, decide_not, Bool.not_true, Bool.not_false, Bool.true_or, Bool.or_true, Bool.false_or, Bool.or_false, not_true, not_false_eq_true, eq_self, reduceCtorEq, Bool.and_true, Bool.true_and, Bool.and_false, Bool.false_and, ow, lv, chk, retOf, cv, cf_isni]
    | some y => by_cases hh : y < x <;> simp only [↓rb, ↓tw0, ↓tw1, ↓evSs, ↓evS, ↓evE, ↓evEs, ↓evI, ↓evC, ↓evO, ↓evPs, ag1, ag2, ag3, ag4, chkT, ofO, List.getElem?_cons_zero, List.getElem?_cons_succ, List.set_cons_zero, List.set_cons_succ, Bool.false_eq_true, if_false, if_true, Option.bind_some, Option.map_some, tru1, subD, setD, cmpD, cmpO, binD, bltD, asS, asL, asD, asO, keyOf, truV, cf_eq_i, cf_ne_i, cf_eq_s, cf_ne_s, cf_eq_b, cf_ne_b, cf_lt_i, cf_gt_i, cf_le_i, cf_ge_i, cf_is0, cf_isr, cf_isnot0, cf_ist, kd_dec, kd_dec2, subF, ix10, ix20, ix21, ix30, ix31, ix32, ln1, ln2, ln3, lim0, lim1, lim2, lim3, lim4, lim5, lim6, decide_true, decide_false, decide_not, Bool.not_true, Bool.not_false, Bool.true_or, Bool.or_true, Bool.false_or, Bool.or_false, not_true, not_false_eq_true, eq_self, reduceCtorEq, Bool.and_true, Bool.true_and, Bool.and_false, Bool.false_and, ow, lv, chk, retOf, cv, cf_isni, hh]
end
end K01
end

section
set_option Elab.async false
set_option linter.all false
set_option maxRecDepth 100000
set_option maxHeartbeats 4000000
set_option autoImplicit false
/-! PL5: patterns are made. -/
namespace K01
open PySem L2 Core
theorem lu3 (a b : Vl) : List.lookup 3 [(3, a), (2, b)] = some a := rfl
theorem lu2 (a b : Vl) : List.lookup 2 [(3, a), (2, b)] = some b := rfl
section
variable (T : Tab) [D29 T] [FdH T 2 2] [FdH T 2 3]
/-- the last step: the row of the limits -/
theorem ptail_ok (n : Nat) {h : Hv} {o : Nat} {x1 x2 : Option Vl} {B : List (Str × Lm)} (ho : h[o]? = some (.obj 2 [(3, .fd (KG lv B))])) (nd : (ksG B).Nodup) (hl : B.length < 60) :
    evSs T (callN T n) (.cons (.setA (.var 0) 2 (.blt .tuple true (.cons (.lc true [2] (.var 2) (.val (.blt .sorted true (.cons (.attr (.var 0) 3) .nil))) .no (.tup (.cons (.var 2) (.cons (.sub (.sub (.attr (.var 0) 3) (.var 2)) (.int 0)) (.cons (.sub (.sub (.attr (.var 0) 3) (.var 2)) (.int 1)) .nil))))) .nil))) .nil) [some (.ref o), x1, x2] h = .ok (.nx [some (.ref o), x1, x2]) (h.set o (.obj 2 [(3, .fd (KG lv B)), (2, .tup (PL (lstG B)))])) := by
  have fB := FdH.e (T := T) (c := 2) (f := 3)
  have fL := FdH.e (T := T) (c := 2) (f := 2)
  have so := sorted_fdG (T := T) (cl := callN T n) (e := .attr (.var 0) 3) (s := [some (.ref o), x1, x2]) (pe := lv) (D := B) (ev_attr (x := 0) rfl ho fB rfl) hl
  have it2 : evI T (callN T n) (.val (.blt .sorted true (.cons (.attr (.var 0) 3) .nil))) [some (.ref o), x1, x2] h = .ok (.free ((sortS (ksG B)).map .str)) h := by
    rw [evI, so]; rfl
  have lc := lcG (T := T) (cl := callN T n) (s0 := wipeL [some (.ref o), x1, x2] [2]) (h := h) (t := .var 2) (e := .tup (.cons (.var 2) (.cons (.sub (.sub (.attr (.var 0) 3) (.var 2)) (.int 0)) (.cons (.sub (.sub (.attr (.var 0) 3) (.var 2)) (.int 1)) .nil)))) .str (fun x => tv (x, (lkG B x).getD (none, none))) (sortS (ksG B)) fun z hz => by
    obtain ⟨v, hv⟩ := mem_ksG.mp ((sortS_perm _).mem_iff.mp hz)
    have e1 : look (KG lv B) (.inr z) = some (lv v) := by rw [look_KG, hv]; rfl
    refine ⟨_, by simp only [↓rb, ↓tw0, ↓tw1, ↓evSs, ↓evS, ↓evE, ↓evEs, ↓evI, ↓evC, ↓evO, ↓evPs, ag1, ag2, ag3, ag4, chkT, ofO, List.getElem?_cons_zero, List.getElem?_cons_succ, List.set_cons_zero, List.set_cons_succ, Bool.false_eq_true, if_false, if_true, Option.bind_some, Option.map_some, tru1, subD, setD, cmpD, cmpO, binD, bltD, asS, asL, asD, asO, keyOf, truV, cf_eq_i, cf_ne_i, cf_eq_s, cf_ne_s, cf_eq_b, cf_ne_b, cf_lt_i, cf_gt_i, cf_le_i, cf_ge_i, cf_is0, cf_isr, cf_isnot0, cf_ist, kd_dec, kd_dec2, subF, ix10, ix20, ix21, ix30, ix31, ix32, ln1, ln2, ln3, lim0, lim1, lim2, lim3, lim4, lim5, lim6, decide_true, decide_false, decide_not, Bool.not_true, Bool.not_false, Bool.true_or, Bool.or_true, Bool.false_or, Bool.or_false, not_true, not_false_eq_true, eq_self, reduceCtorEq, Bool.and_true, Bool.true_and, Bool.and_false, Bool.false_and, wipeL]; rfl, ?_⟩
    simp only [↓rb, ↓tw0, ↓tw1, ↓evSs, ↓evS, ↓evE, ↓evEs, ↓evI, ↓evC, ↓evO, ↓evPs, ag1, ag2, ag3, ag4, chkT, ofO, List.getElem?_cons_zero, List.getElem?_cons_succ, List.set_cons_zero, List.set_cons_succ, Bool.false_eq_true, if_false, if_true, Option.bind_some, Option.map_some, tru1, subD, setD, cmpD, cmpO, binD, bltD, asS, asL, asD, asO, keyOf, truV, cf_eq_i, cf_ne_i, cf_eq_s, cf_ne_s, cf_eq_b, cf_ne_b, cf_lt_i, cf_gt_i, cf_le_i, cf_ge_i, cf_is0, cf_isr, cf_isnot0, cf_ist, kd_dec, kd_dec2, subF, ix10, ix20, ix21, ix30, ix31, ix32, ln1, ln2, ln3, lim0, lim1, lim2, lim3, lim4, lim5, lim6, decide_true, decide_false, decide_not, Bool.not_true, Bool.not_false, Bool.true_or, Bool.or_true, Bool.false_or, Bool.or_false, not_true, not_false_eq_true, eq_self, reduceCtorEq, Bool.and_true, Bool.true_and, Bool.and_false, Bool.false_and, ho, fB, fL, List.lookup, beq_self_eq_true, e1, lv, hv, Option.getD_some, tv, chk]
  rw [map_lstG tv] at lc
  have lcE : evE T (callN T n) false (.lc true [2] (.var 2) (.val (.blt .sorted true (.cons (.attr (.var 0) 3) .nil))) .no (.tup (.cons (.var 2) (.cons (.sub (.sub (.attr (.var 0) 3) (.var 2)) (.int 0)) (.cons (.sub (.sub (.attr (.var 0) 3) (.var 2)) (.int 1)) .nil))))) [some (.ref o), x1, x2] h = .ok (.fl (PL (lstG B))) h := by
    rw [ev_lc it2 (by simp only [Walk.free, List.length_map, (sortS_perm _).length_eq]; simp [ksG, LIM]; omega) ((unlock_free rfl).trans lc)]
    rfl
  have tE : evE T (callN T n) false (.blt .tuple true (.cons (.lc true [2] (.var 2) (.val (.blt .sorted true (.cons (.attr (.var 0) 3) .nil))) .no (.tup (.cons (.var 2) (.cons (.sub (.sub (.attr (.var 0) 3) (.var 2)) (.int 0)) (.cons (.sub (.sub (.attr (.var 0) 3) (.var 2)) (.int 1)) .nil))))) .nil)) [some (.ref o), x1, x2] h = .ok (.tup (PL (lstG B))) h := by
    rw [evE, evEs, lcE]
    simp only [Res.bind, evEs, tw, Bool.false_eq_true, if_false, bltD, bltF, asL]
  exact (st_setA tE rfl ho fL (by simp)).trans (by rw [evSs]; rfl)
/-- __init__ of a dict of limits, frozen or not -/
theorem pinit_gen (n : Nat) {h g : Hv} {o : Nat} {v : Vl} {D : List (Str × Lm)} {B : List (Str × Lm)} {ko : Core.Walk} (ho : h[o]? = some (.obj 2 [])) (hv : cmpF .isnot v .non (h.set o (.obj 2 [(3, .fd [])])) = some true)
    (e2 : evE T (callN T n) false (.dc true [2] (.var 2) (.val (.var 1)) (.so (.cmp .ne (.sub (.var 1) (.var 2)) (.tup (.cons .non (.cons .non .nil))))) (.var 2) (.sub (.var 1) (.var 2))) [some (.ref o), some v, none] (h.set o (.obj 2 [(3, .fd [])])) = .ok (.fd (KG lv B)) (h.set o (.obj 2 [(3, .fd [])]))) (nd : (ksG B).Nodup) (hl : B.length < 60) :
    callN T (n + 1) 29 [.ref o, v] h = .ok .non (h.set o (.obj 2 [(3, .fd (KG lv B)), (2, .tup (PL (lstG B)))])) := by
  have fB := FdH.e (T := T) (c := 2) (f := 3)
  rw [c29]
  unfold b_Patternu_initu
  have hlt := lt_of ho
  have e0 : evE T (callN T n) false (.dct true .nil) [some (.ref o), some v, none] h = .ok (.fd []) h := by
    simp [evE, evPs, tw, Res.bind, chk, mkD, mergeD]
  have o1 : (h.set o (.obj 2 [(3, .fd [])]))[o]? = some (.obj 2 [(3, .fd [])]) := by rw [List.getElem?_set_self hlt]
  have ec : evE T (callN T n) true (.cmp .isnot (.var 1) .non) [some (.ref o), some v, none] (h.set o (.obj 2 [(3, .fd [])])) = .ok (.bl true) (h.set o (.obj 2 [(3, .fd [])])) := by
    simp only [↓rb, ↓tw0, ↓tw1, ↓evSs, ↓evS, ↓evE, ↓evEs, ↓evI, ↓evC, ↓evO, ↓evPs, ag1, ag2, ag3, ag4, chkT, ofO, List.getElem?_cons_zero, List.getElem?_cons_succ, List.set_cons_zero, List.set_cons_succ, Bool.false_eq_true, if_false, if_true, Option.bind_some, Option.map_some, tru1, subD, setD, cmpD, cmpO, binD, bltD, asS, asL, asD, asO, keyOf, truV, cf_eq_i, cf_ne_i, cf_eq_s, cf_ne_s, cf_eq_b, cf_ne_b, cf_lt_i, cf_gt_i, cf_le_i, cf_ge_i, cf_is0, cf_isr, cf_isnot0, cf_ist, kd_dec, kd_dec2, subF, ix10, ix20, ix21, ix30, ix31, ix32, ln1, ln2, ln3, lim0, lim1, lim2, lim3, lim4, lim5, lim6, decide_true, decide_false, decide_not, Bool.not_true, Bool.not_false, Bool.true_or, Bool.or_true, Bool.false_or, Bool.or_false, not_true, not_false_eq_true, eq_self, reduceCtorEq, Bool.and_true, Bool.true_and, Bool.and_false, Bool.false_and, hv]
  have s1 := st_setA (r := .nil) (x := 0) e2 rfl o1 fB (by simp)
  rw [evSs] at s1
  have o2 : ((h.set o (.obj 2 [(3, .fd [])])).set o (.obj 2 [(3, .fd (KG lv B))]))[o]? = some (.obj 2 [(3, .fd (KG lv B))]) := by rw [List.getElem?_set_self (by simp; exact hlt)]
  refine (congrArg retOf ((st_setA e0 rfl ho fB (by simp)).trans ((st_ifT ec s1).trans (ptail_ok T n o2 nd hl)))).trans ?_
  rw [List.set_set, List.set_set]
  rfl
theorem pinit_fd (n : Nat) {h : Hv} {o : Nat} {D : List (Str × Lm)} (ho : h[o]? = some (.obj 2 [])) (nd : (ksG D).Nodup) (hl : D.length < 60) :
    callN T (n + 1) 29 [.ref o, .fd (KG lv D)] h = .ok .non (h.set o (.obj 2 [(3, .fd (KG lv (D.filter fun q => la q.2))), (2, .tup (PL (lstG (D.filter fun q => la q.2))))])) := by
  refine pinit_gen T n (ko := .free []) (D := D) (g := h) ho rfl ?_ (ndG_filter nd la) (Nat.lt_of_le_of_lt (List.length_filter_le _ _) hl)
  generalize h.set o (.obj 2 [(3, .fd [])]) = g
  have e1 := dcG (T := T) (cl := callN T n) (h := g) (pe := lv) la nd (s0 := wipeL [some (.ref o), some (.fd (KG lv D)), none] [2]) (x := 2) (c := .cmp .ne (.sub (.var 1) (.var 2)) (.tup (.cons .non (.cons .non .nil)))) (ke := .var 2) (e := .sub (.var 1) (.var 2)) (fun z v hz => by
    have e1 : look (KG lv D) (.inr z) = some (lv v) := by rw [look_KG, (lkG_iff nd).mpr hz]; rfl
    refine ⟨?_, ?_, ?_⟩ <;> simp only [wipeL, ↓rb, ↓tw0, ↓tw1, ↓evSs, ↓evS, ↓evE, ↓evEs, ↓evI, ↓evC, ↓evO, ↓evPs, ag1, ag2, ag3, ag4, chkT, ofO, List.getElem?_cons_zero, List.getElem?_cons_succ, List.set_cons_zero, List.set_cons_succ, Bool.false_eq_true, if_false, if_true, Option.bind_some, Option.map_some, tru1, subD, setD, cmpD, cmpO, binD, bltD, asS, asL, asD, asO, keyOf, truV, cf_eq_i, cf_ne_i, cf_eq_s, cf_ne_s, cf_eq_b, cf_ne_b, cf_lt_i, cf_gt_i, cf_le_i, cf_ge_i, cf_is0, cf_isr, cf_isnot0, cf_ist, kd_dec, kd_dec2, subF, ix10, ix20, ix21, ix30, ix31, ix32, ln1, ln2, ln3, lim0, lim1, lim2, lim3, lim4, lim5, lim6, decide_true, decide_false, decide_not, Bool.not_true, Bool.not_false, Bool.true_or, Bool.or_true, Bool.false_or, Bool.or_false, not_true, not_false_eq_true, eq_self, reduceCtorEq, Bool.and_true, Bool.true_and, Bool.and_false, Bool.false_and, e1, lv, chk, ne_lv]) D [] rfl
  rw [ev_dc (it_fdG (ev_var rfl)) (by simp [Walk.free, ksG, LIM]; omega) ((unlock_free rfl).trans e1)]
  rfl
theorem pinit_ref (n : Nat) {h : Hv} {o m : Nat} {D : List (Str × Lm)} (ho : h[o]? = some (.obj 2 [])) (hm : h[m]? = some (.dct (KG lv D))) (nd : (ksG D).Nodup) (hl : D.length < 60) :
    callN T (n + 1) 29 [.ref o, .ref m] h = .ok .non (h.set o (.obj 2 [(3, .fd (KG lv (D.filter fun q => la q.2))), (2, .tup (PL (lstG (D.filter fun q => la q.2))))])) := by
  refine pinit_gen T n (ko := .free []) (D := D) (g := h) ho rfl ?_ (ndG_filter nd la) (Nat.lt_of_le_of_lt (List.length_filter_le _ _) hl)
  have nom : o ≠ m := ne_cell ho hm (by simp)
  have m2 : (h.set o (.obj 2 [(3, .fd [])]))[m]? = some (.dct (KG lv D)) := by rw [List.getElem?_set_ne nom]; exact hm
  generalize h.set o (.obj 2 [(3, .fd [])]) = g at m2
  have hlm := lt_of m2
  have hL : (g.set m (.lck (KG lv D)))[m]? = some (.lck (KG lv D)) := by rw [List.getElem?_set_self hlm]
  have eb : (g.set m (.lck (KG lv D))).set m (.dct (KG lv D)) = g := by rw [List.set_set, set_same m2]
  have e1 := dcG (T := T) (cl := callN T n) (h := g.set m (.lck (KG lv D))) (pe := lv) la nd (s0 := wipeL [some (.ref o), some (.ref m), none] [2]) (x := 2) (c := .cmp .ne (.sub (.var 1) (.var 2)) (.tup (.cons .non (.cons .non .nil)))) (ke := .var 2) (e := .sub (.var 1) (.var 2)) (fun z v hz => by
    have e1 : look (KG lv D) (.inr z) = some (lv v) := by rw [look_KG, (lkG_iff nd).mpr hz]; rfl
    refine ⟨?_, ?_, ?_⟩ <;> simp only [wipeL, ↓rb, ↓tw0, ↓tw1, ↓evSs, ↓evS, ↓evE, ↓evEs, ↓evI, ↓evC, ↓evO, ↓evPs, ag1, ag2, ag3, ag4, chkT, ofO, List.getElem?_cons_zero, List.getElem?_cons_succ, List.set_cons_zero, List.set_cons_succ, Bool.false_eq_true, if_false, if_true, Option.bind_some, Option.map_some, tru1, subD, setD, cmpD, cmpO, binD, bltD, asS, asL, asD, asO, keyOf, truV, cf_eq_i, cf_ne_i, cf_eq_s, cf_ne_s, cf_eq_b, cf_ne_b, cf_lt_i, cf_gt_i, cf_le_i, cf_ge_i, cf_is0, cf_isr, cf_isnot0, cf_ist, kd_dec, kd_dec2, subF, ix10, ix20, ix21, ix30, ix31, ix32, ln1, ln2, ln3, lim0, lim1, lim2, lim3, lim4, lim5, lim6, decide_true, decide_false, decide_not, Bool.not_true, Bool.not_false, Bool.true_or, Bool.or_true, Bool.false_or, Bool.or_false, not_true, not_false_eq_true, eq_self, reduceCtorEq, Bool.and_true, Bool.true_and, Bool.and_false, Bool.false_and, hL, e1, lv, chk, ne_lv]) D [] rfl
  rw [ev_dc (it_dctG (ev_var rfl) m2) (by simp [ksG, LIM]; omega) ((congrArg (unlockF _) e1).trans ((unlock_dct (h := g.set m (.lck (KG lv D))) rfl hL).trans (by rw [eb])))]
  rfl
end
section
variable (T : Tab) [D29 T] [FdH T 2 2] [FdH T 2 3] [SpH T 2 .init 29]
theorem pu_obj (B : List (Str × Lm)) : belowF 0 [(3, .fd (KG lv B)), (2, .tup (PL (lstG B)))] = true := by
  have := pu_ptv B
  unfold pu ptv at this
  rw [below] at this
  exact this
/-- a frozen pattern of a dict -/
theorem mkP_fd (n : Nat) {s : Lo} {h : Hv} {e : CE} {D : List (Str × Lm)} (he : evE T (callN T (n + 1)) false e s h = .ok (.fd (KG lv D)) h) (nd : (ksG D).Nodup) (hl : D.length < 60) :
    evE T (callN T (n + 1)) false (.frz (.mk 2 (.cons e .nil))) s h = .ok (ptv (D.filter fun q => la q.2)) h :=
  frz_mk1 (SpH.e (T := T) (c := 2) (m := .init)) he (.refl _ _) (pinit_fd T n get_last nd hl) (by simp) (fr_set (by simp)) (pu_obj _)
theorem mkP_ref (n : Nat) {s : Lo} {h h1 : Hv} {e : CE} {m : Nat} {D : List (Str × Lm)} (he : evE T (callN T (n + 1)) false e s h = .ok (.ref m) h1) (F : Fr [] h h1) (hm : h1[m]? = some (.dct (KG lv D))) (nd : (ksG D).Nodup) (hl : D.length < 60) :
    evE T (callN T (n + 1)) false (.frz (.mk 2 (.cons e .nil))) s h = .ok (ptv (D.filter fun q => la q.2)) h :=
  frz_mk1 (SpH.e (T := T) (c := 2) (m := .init)) he F (pinit_ref T n get_last (get_app hm) nd hl) (by simp) (fr_set (by simp)) (pu_obj _)
end
section
variable (T : Tab) [D30 T] [FdH T 2 2] [MtH T 2 2 30]
theorem lims_ok (n : Nat) (B : List (Str × Lm)) (h : Hv) (hl : B.length < 60) (nd : (ksG B).Nodup) : callN T (n + 1) 30 [ptv B] h = .ok (.fl (PL (lstG B))) h := by
  have fL := FdH.e (T := T) (c := 2) (f := 2)
  have ll := len_lstG nd
  rw [c30]
  refine Eq.trans (congrArg (finR 2 h) ?_) (fin2_0 (pu_fl pu_tv _))
  unfold b_Pattern_limits
  simp only [↓rb, ↓tw0, ↓tw1, ↓evSs, ↓evS, ↓evE, ↓evEs, ↓evI, ↓evC, ↓evO, ↓evPs, ag1, ag2, ag3, ag4, chkT, ofO, List.getElem?_cons_zero, List.getElem?_cons_succ, List.set_cons_zero, List.set_cons_succ, Bool.false_eq_true, if_false, if_true, Option.bind_some, Option.map_some, tru1, subD, setD, cmpD, cmpO, binD, bltD, asS, asL, asD, asO, keyOf, truV, cf_eq_i, cf_ne_i, cf_eq_s, cf_ne_s, cf_eq_b, cf_ne_b, cf_lt_i, cf_gt_i, cf_le_i, cf_ge_i, cf_is0, cf_isr, cf_isnot0, cf_ist, kd_dec, kd_dec2, subF, ix10, ix20, ix21, ix30, ix31, ix32, ln1, ln2, ln3, lim0, lim1, lim2, lim3, lim4, lim5, lim6, decide_true, decide_false, decide_not, Bool.not_true, Bool.not_false, Bool.true_or, Bool.or_true, Bool.false_or, Bool.or_false, not_true, not_false_eq_true, eq_self, reduceCtorEq, Bool.and_true, Bool.true_and, Bool.and_false, Bool.false_and, ptv, fL, lu3, lu2, bltF, mkL, retOf, PL]
theorem ev_lims (n : Nat) {s : Lo} {h h1 : Hv} {e : CE} {B : List (Str × Lm)} (he : evE T (callN T (n + 1)) false e s h = .ok (ptv B) h1) (hl : B.length < 60) (nd : (ksG B).Nodup) : evE T (callN T (n + 1)) false (.meth e 2 .nil) s h = .ok (.fl (PL (lstG B))) h1 := by
  have m := MtH.e (T := T) (c := 2) (m := 2)
  rw [evE, he]
  simp only [rb, tw0, asO, ptv, m, evEs]
  exact lims_ok T n B h1 hl nd
end
section
variable (T : Tab) [D32 T] [FdH T 2 2] [SpH T 2 (.cmp .eq) 32] [ClH T 2]
theorem peq_ok (n : Nat) (B E : List (Str × Lm)) (h : Hv) : callN T (n + 1) 32 [ptv B, ptv E] h = .ok (.bl (decide (lstG B = lstG E))) h := by
  have fL := FdH.e (T := T) (c := 2) (f := 2)
  rw [c32]
  refine Eq.trans (congrArg (finR 2 h) ?_) (fin2_0 (show pu (.bl _) from rfl))
  unfold b_Patternu_equ
  simp only [↓rb, ↓tw0, ↓tw1, ↓evSs, ↓evS, ↓evE, ↓evEs, ↓evI, ↓evC, ↓evO, ↓evPs, ag1, ag2, ag3, ag4, chkT, ofO, List.getElem?_cons_zero, List.getElem?_cons_succ, List.set_cons_zero, List.set_cons_succ, Bool.false_eq_true, if_false, if_true, Option.bind_some, Option.map_some, tru1, subD, setD, cmpD, cmpO, binD, bltD, asS, asL, asD, asO, keyOf, truV, cf_eq_i, cf_ne_i, cf_eq_s, cf_ne_s, cf_eq_b, cf_ne_b, cf_lt_i, cf_gt_i, cf_le_i, cf_ge_i, cf_is0, cf_isr, cf_isnot0, cf_ist, kd_dec, kd_dec2, subF, ix10, ix20, ix21, ix30, ix31, ix32, ln1, ln2, ln3, lim0, lim1, lim2, lim3, lim4, lim5, lim6, decide_true, decide_false, decide_not, Bool.not_true, Bool.not_false, Bool.true_or, Bool.or_true, Bool.false_or, Bool.or_false, not_true, not_false_eq_true, eq_self, reduceCtorEq, Bool.and_true, Bool.true_and, Bool.and_false, Bool.false_and, ptv, fL, lu3, lu2, tyF, tyC2 T, cf_PLT, retOf]
theorem ev_peq (n : Nat) {s : Lo} {h h1 h2 : Hv} {e f : CE} {B E : List (Str × Lm)} (he : evE T (callN T (n + 1)) false e s h = .ok (ptv B) h1) (hf : evE T (callN T (n + 1)) false f s h1 = .ok (ptv E) h2) (t : Bool) : evE T (callN T (n + 1)) t (.cmp .eq e f) s h = .ok (.bl (decide (lstG B = lstG E))) h2 := by
  have sp := SpH.e (T := T) (c := 2) (m := .cmp .eq)
  have ic := ClH.e (T := T) (c := 2)
  rw [ev_cmp he hf]
  have z : cmpD T (callN T (n + 1)) .eq (ptv B) (ptv E) h2 = .ok (.bl (decide (lstG B = lstG E))) h2 := by
    rw [← peq_ok T n B E h2]
    simp only [cmpD, cmpO, asO, ptv, spC, sp, ic, tyKn, and_self, if_true]
  rw [z]; rfl
end
end K01
end

section
set_option Elab.async false
set_option linter.all false
set_option maxRecDepth 100000
set_option maxHeartbeats 4000000
set_option autoImplicit false
/-! PL6: what is in both patterns. -/
namespace K01
open PySem L2 Core
def andS (A : List (Str × Lm)) (q : Str × Lm) : Option (List (Str × Lm)) := (cm (gt A q.1) q.2).map (ptG A q.1)
def andG (A L : List (Str × Lm)) : Option (List (Str × Lm)) := L.foldlM andS A
theorem gt_ptG (A : List (Str × Lm)) (x : Str) (l : Lm) (y : Str) : gt (ptG A x l) y = if y = x then l else gt A y := by
  unfold gt
  rw [lkG_ptG]
  split <;> rfl
theorem cm_none (a : Lm) (v : vd a = true) : cm a (none, none) = some a := by
  have := cm_eq (b := (none, none)) v
  rw [leL_none] at this
  exact of_decide_eq_true this
theorem cm_vd' {a b l : Lm} (e : cm a b = some l) : vd l = true := by
  unfold cm at e
  split at e
  · split at e
    · cases e
    · cases e; simp only [vd, decide_eq_true_eq]; omega
  · rename_i x y hn
    cases e
    unfold vd
    split
    · rename_i p q e1 e2
      exact absurd e2 (hn _ _ e1)
    · rfl
theorem mxl_comm (a b : Option Int) : mxl a b = mxl b a := by
  cases a <;> cases b <;> simp [mxl]
  rename_i a b
  by_cases h : a < b
  · rw [if_pos h, if_neg (by omega)]
  · by_cases g : b < a
    · rw [if_neg h, if_pos g]
    · rw [if_neg h, if_neg g]; congr 1; omega
theorem mnh_comm (a b : Option Int) : mnh a b = mnh b a := by
  cases a <;> cases b <;> simp [mnh]
  rename_i a b
  by_cases h : a < b
  · rw [if_neg (by omega), if_pos h]
  · by_cases g : b < a
    · rw [if_pos g, if_neg h]
    · rw [if_neg g, if_neg h]; congr 1; omega
theorem cm_comm (a b : Lm) : cm a b = cm b a := by
  unfold cm
  rw [mxl_comm, mnh_comm]
/-- what both give, name by name -/
theorem andG_spec : ∀ (L A : List (Str × Lm)), (ksG L).Nodup → VD A → (ksG A).Nodup → (andG A L = none ↔ ∃ x, cm (gt A x) (gt L x) = none) ∧ ∀ D, andG A L = some D → (ksG D).Nodup ∧ VD D ∧ ∀ x, some (gt D x) = cm (gt A x) (gt L x)
  | [], A, _, v, nd => by
    have e0 : ∀ x, cm (gt A x) (gt [] x) = some (gt A x) := fun x => cm_none _ (v.gt nd x)
    refine ⟨⟨fun z => (by cases z), fun ⟨x, z⟩ => (by rw [e0] at z; cases z)⟩, fun D e => ?_⟩
    cases (show some A = some D from e)
    exact ⟨nd, v, fun x => (e0 x).symm⟩
  | q :: L, A, nl, v, nd => by
    have n2 : (ksG L).Nodup ∧ q.1 ∉ ksG L := by
      unfold ksG at nl ⊢
      rw [List.map_cons, List.nodup_cons] at nl
      exact ⟨nl.2, nl.1⟩
    have gq : gt (q :: L) q.1 = q.2 := by unfold gt; rw [lkG_cons, if_pos rfl]; rfl
    have gn : ∀ y, y ≠ q.1 → gt (q :: L) y = gt L y := fun y hy => by unfold gt; rw [lkG_cons, if_neg (Ne.symm hy)]
    have gl : gt L q.1 = (none, none) := by unfold gt; rw [lkG_none.mp n2.2]; rfl
    have e1 : andG A (q :: L) = (andS A q).bind fun A' => andG A' L := by unfold andG; rw [List.foldlM_cons]; rfl
    rw [e1]
    unfold andS
    cases c : cm (gt A q.1) q.2 with
    | none => exact ⟨⟨fun _ => ⟨q.1, by rw [gq]; exact c⟩, fun _ => rfl⟩, fun D z => (by cases z)⟩
    | some l =>
      have vl := cm_vd' c
      have v' : VD (ptG A q.1 l) := v.pt vl
      have nd' : (ksG (ptG A q.1 l)).Nodup := ndG_ptG nd q.1 l
      obtain ⟨i1, i2⟩ := andG_spec L (ptG A q.1 l) n2.1 v' nd'
      have key : ∀ x, cm (gt (ptG A q.1 l) x) (gt L x) = cm (gt A x) (gt (q :: L) x) := fun x => by
        rw [gt_ptG]
        by_cases hx : x = q.1
        · subst hx
          rw [if_pos rfl, gl, gq, c, cm_none _ vl]
        · rw [if_neg hx, gn x hx]
      show (andG (ptG A q.1 l) L = none ↔ _) ∧ ∀ D, andG (ptG A q.1 l) L = some D → _
      refine ⟨by rw [i1]; simp only [key], fun D e => ?_⟩
      obtain ⟨a, b, c⟩ := i2 D e
      exact ⟨a, b, fun x => by rw [c, key]⟩
/-- so it does not matter in which order the limits stand -/
theorem gt_lstG {D : List (Str × Lm)} (nd : (ksG D).Nodup) (x : Str) : gt (lstG D) x = gt D x := by
  unfold gt
  rw [lk_lstG nd]
theorem andG_same {A A' L L' : List (Str × Lm)} (na : (ksG A).Nodup) (na' : (ksG A').Nodup) (nl : (ksG L).Nodup) (nl' : (ksG L').Nodup) (va : VD A) (va' : VD A') (h : ∀ x, cm (gt A x) (gt L x) = cm (gt A' x) (gt L' x)) :
    (andG A L = none ∧ andG A' L' = none) ∨ ∃ D D', andG A L = some D ∧ andG A' L' = some D' ∧ duL D = duL D' ∧ (ksG D).Nodup ∧ (ksG D').Nodup := by
  obtain ⟨a1, a2⟩ := andG_spec L A nl va na
  obtain ⟨b1, b2⟩ := andG_spec L' A' nl' va' na'
  cases e1 : andG A L with
  | none =>
    refine .inl ⟨rfl, ?_⟩
    obtain ⟨x, hx⟩ := a1.mp e1
    exact b1.mpr ⟨x, by rw [← h]; exact hx⟩
  | some D =>
    cases e2 : andG A' L' with
    | none =>
      obtain ⟨x, hx⟩ := b1.mp e2
      have := a1.mpr ⟨x, by rw [h]; exact hx⟩
      rw [this] at e1; cases e1
    | some D' =>
      obtain ⟨n1, _, g1⟩ := a2 D e1
      obtain ⟨n2, _, g2⟩ := b2 D' e2
      refine .inr ⟨D, D', rfl, rfl, (duL_iff n1 n2).mpr fun x => ?_, n1, n2⟩
      exact Option.some.inj ((g1 x).trans ((h x).trans (g2 x).symm))
theorem kn_andG {ns : List Str} : ∀ {L A D : List (Str × Lm)}, Kn ns A → (∀ x ∈ ksG L, x ∈ ns) → andG A L = some D → Kn ns D
  | [], A, D, k, _, e => by cases (show some A = some D from e); exact k
  | q :: L, A, D, k, hx, e => by
    have e1 : andG A (q :: L) = (andS A q).bind fun A' => andG A' L := by unfold andG; rw [List.foldlM_cons]; rfl
    rw [e1] at e
    unfold andS at e
    cases c : cm (gt A q.1) q.2 with
    | none => rw [c] at e; cases e
    | some l =>
      rw [c] at e
      exact kn_andG (A := ptG A q.1 l) (k.pt (hx q.1 (by simp [ksG])) l) (fun x h => hx x (by simp [ksG] at h ⊢; exact .inr h)) e
end K01
end

section
set_option Elab.async false
set_option linter.all false
set_option maxRecDepth 100000
set_option maxHeartbeats 4000000
set_option autoImplicit false
/-! PL7: one & other. -/
namespace K01
open PySem L2 Core
theorem get_ref {h : Hv} {m : Nat} {A : List (Str × Lm)} {x : Str} {fz : Bool} (hm : h[m]? = some (.dct (KG lv A))) : bmF .get fz (.ref m) [.str x, .tup [.non, .non]] h = .ok (lv (gt A x)) h := by
  simp only [bmF, getF, asD, hm, keyOf, look_KG, gt]
  cases lkG A x <;> rfl
theorem get_fd {h : Hv} {A : List (Str × Lm)} {x : Str} {fz : Bool} : bmF .get fz (.fd (KG lv A)) [.str x, .tup [.non, .non]] h = .ok (lv (gt A x)) h := by
  simp only [bmF, getF, asD, keyOf, look_KG, gt]
  cases lkG A x <;> rfl
theorem is_lv (l : Lm) (h : Hv) : cmpF .is_ (lv l) .non h = some false := rfl
theorem isnot_lv (l : Lm) (h : Hv) : cmpF .isnot (lv l) .non h = some true := rfl
section
variable (T : Tab) [D25 T] [D29 T] [D33 T] [FdH T 2 2] [FdH T 2 3] [SpH T 2 .init 29] [SpH T 2 (.bin .band) 33] [ClH T 2] [XcH T 101]
theorem pand_ok (n : Nat) {B E : List (Str × Lm)} (h : Hv) (nb : (ksG B).Nodup) (ne : (ksG E).Nodup) (lb : B.length < 25) (le : E.length < 25) :
    callN T (n + 2) 33 [ptv B, ptv E] h = match andG B (lstG E) with
      | some D => .ok (ptv (D.filter fun q => la q.2)) h
      | none => .ex 101 [] h := by
  have fB := FdH.e (T := T) (c := 2) (f := 3)
  have fL := FdH.e (T := T) (c := 2) (f := 2)
  have xc := XcH.e (T := T) (c := 101)
  rw [c33]
  unfold b_Patternu_andu
  have e0 : evE T (callN T (n + 1)) true (.not_ (.isin (.var 1) (.cls 2))) [some (ptv B), some (ptv E), none, none, none, none, none] h = .ok (.bl false) h := by
    simp only [↓rb, ↓tw0, ↓tw1, ↓evSs, ↓evS, ↓evE, ↓evEs, ↓evI, ↓evC, ↓evO, ↓evPs, ag1, ag2, ag3, ag4, chkT, ofO, List.getElem?_cons_zero, List.getElem?_cons_succ, List.set_cons_zero, List.set_cons_succ, Bool.false_eq_true, if_false, if_true, Option.bind_some, Option.map_some, tru1, subD, setD, cmpD, cmpO, binD, bltD, asS, asL, asD, asO, keyOf, truV, cf_eq_i, cf_ne_i, cf_eq_s, cf_ne_s, cf_eq_b, cf_ne_b, cf_lt_i, cf_gt_i, cf_le_i, cf_ge_i, cf_is0, cf_isr, cf_isnot0, cf_ist, kd_dec, kd_dec2, subF, ix10, ix20, ix21, ix30, ix31, ix32, ln1, ln2, ln3, lim0, lim1, lim2, lim3, lim4, lim5, lim6, decide_true, decide_false, decide_not, Bool.not_true, Bool.not_false, Bool.true_or, Bool.or_true, Bool.false_or, Bool.or_false, not_true, not_false_eq_true, eq_self, reduceCtorEq, Bool.and_true, Bool.true_and, Bool.and_false, Bool.false_and, ptv, tyF, tyC2 T]
  have e1 : evE T (callN T (n + 1)) false (.blt .dict false (.cons (.attr (.var 0) 3) .nil)) [some (ptv B), some (ptv E), none, none, none, none, none] h = .ok (.ref h.length) (h ++ [.dct (KG lv B)]) := by
    simp only [↓rb, ↓tw0, ↓tw1, ↓evSs, ↓evS, ↓evE, ↓evEs, ↓evI, ↓evC, ↓evO, ↓evPs, ag1, ag2, ag3, ag4, chkT, ofO, List.getElem?_cons_zero, List.getElem?_cons_succ, List.set_cons_zero, List.set_cons_succ, Bool.false_eq_true, if_false, if_true, Option.bind_some, Option.map_some, tru1, subD, setD, cmpD, cmpO, binD, bltD, asS, asL, asD, asO, keyOf, truV, cf_eq_i, cf_ne_i, cf_eq_s, cf_ne_s, cf_eq_b, cf_ne_b, cf_lt_i, cf_gt_i, cf_le_i, cf_ge_i, cf_is0, cf_isr, cf_isnot0, cf_ist, kd_dec, kd_dec2, subF, ix10, ix20, ix21, ix30, ix31, ix32, ln1, ln2, ln3, lim0, lim1, lim2, lim3, lim4, lim5, lim6, decide_true, decide_false, decide_not, Bool.not_true, Bool.not_false, Bool.true_or, Bool.or_true, Bool.false_or, Bool.or_false, not_true, not_false_eq_true, eq_self, reduceCtorEq, Bool.and_true, Bool.true_and, Bool.and_false, Bool.false_and, ptv, fB, lu3, bltF, mkD]
  have it : evI T (callN T (n + 1)) (.val (.attr (.var 1) 2)) [some (ptv B), some (ptv E), some (.ref h.length), none, none, none, none] (h ++ [.dct (KG lv B)]) = .ok (.free (PL (lstG E))) (h ++ [.dct (KG lv B)]) := by
    simp only [↓rb, ↓tw0, ↓tw1, ↓evSs, ↓evS, ↓evE, ↓evEs, ↓evI, ↓evC, ↓evO, ↓evPs, ag1, ag2, ag3, ag4, chkT, ofO, List.getElem?_cons_zero, List.getElem?_cons_succ, List.set_cons_zero, List.set_cons_succ, Bool.false_eq_true, if_false, if_true, Option.bind_some, Option.map_some, tru1, subD, setD, cmpD, cmpO, binD, bltD, asS, asL, asD, asO, keyOf, truV, cf_eq_i, cf_ne_i, cf_eq_s, cf_ne_s, cf_eq_b, cf_ne_b, cf_lt_i, cf_gt_i, cf_le_i, cf_ge_i, cf_is0, cf_isr, cf_isnot0, cf_ist, kd_dec, kd_dec2, subF, ix10, ix20, ix21, ix30, ix31, ix32, ln1, ln2, ln3, lim0, lim1, lim2, lim3, lim4, lim5, lim6, decide_true, decide_false, decide_not, Bool.not_true, Bool.not_false, Bool.true_or, Bool.or_true, Bool.false_or, Bool.or_false, not_true, not_false_eq_true, eq_self, reduceCtorEq, Bool.and_true, Bool.true_and, Bool.and_false, Bool.false_and, ptv, fL, lu2, itD]
  have lp := forR_fold (src := .free) (t := .tup (.cons (.var 3) (.cons (.var 4) (.cons (.var 5) .nil)))) (body := evSs T (callN T (n + 1)) (.cons (.set (.var 6) (.call 25 (.cons (.bm .get true (.var 2) (.cons (.var 3) (.cons (.tup (.cons .non (.cons .non .nil))) .nil))) (.cons (.tup (.cons (.var 4) (.cons (.var 5) .nil))) .nil)))) (.cons (.ife (.cmp .is_ (.var 6) .non) (.cons (.raise_ 101) .nil) .nil) (.cons (.setI (.var 2) (.var 3) (.var 6)) .nil)))) tv
    (fun A s h2 => ∃ x3 x4 x5 x6, s = [some (ptv B), some (ptv E), some (.ref h.length), x3, x4, x5, x6] ∧ h2 = h ++ [.dct (KG lv A)] ∧ Kn (ksG B ++ ksG E) A) andS (fun r => ∃ h2, r = .ex 101 [] h2 ∧ Fr [] h h2) (fun _ _ _ _ => trivial) (lstG E)
    (fun q hq A s h2 ⟨x3, x4, x5, x6, es, eh, kn⟩ => by
      subst es eh
      obtain ⟨x, l⟩ := q
      have hm : (h ++ [Cell.dct (KG lv A)])[h.length]? = some (.dct (KG lv A)) := get_last
      have hx : x ∈ ksG E := by
        have : (x, l) ∈ E := (mem_lstG ne _).mp hq
        exact List.mem_map.mpr ⟨_, this, rfl⟩
      have lA := kn.len
      have e2 : (KG lv A).length < LIM := by simp [KG, LIM, ksG] at lA ⊢; omega
      have g := get_ref (fz := true) (x := x) hm
      have co := common_ok T n (gt A x) l (h ++ [Cell.dct (KG lv A)])
      rw [show lv l = .tup [ow l.1, ow l.2] from rfl] at co
      refine ⟨_, by simp only [↓rb, ↓tw0, ↓tw1, ↓evSs, ↓evS, ↓evE, ↓evEs, ↓evI, ↓evC, ↓evO, ↓evPs, ag1, ag2, ag3, ag4, chkT, ofO, List.getElem?_cons_zero, List.getElem?_cons_succ, List.set_cons_zero, List.set_cons_succ, Bool.false_eq_true, if_false, if_true, Option.bind_some, Option.map_some, tru1, subD, setD, cmpD, cmpO, binD, bltD, asS, asL, asD, asO, keyOf, truV, cf_eq_i, cf_ne_i, cf_eq_s, cf_ne_s, cf_eq_b, cf_ne_b, cf_lt_i, cf_gt_i, cf_le_i, cf_ge_i, cf_is0, cf_isr, cf_isnot0, cf_ist, kd_dec, kd_dec2, subF, ix10, ix20, ix21, ix30, ix31, ix32, ln1, ln2, ln3, lim0, lim1, lim2, lim3, lim4, lim5, lim6, decide_true, decide_false, decide_not, Bool.not_true, Bool.not_false, Bool.true_or, Bool.or_true, Bool.false_or, Bool.or_false, not_true, not_false_eq_true, eq_self, reduceCtorEq, Bool.and_true, Bool.true_and, Bool.and_false, Bool.false_and, tv]; rfl, ?_⟩
      unfold andS
      cases c : cm (gt A x) l with
      | none =>
        rw [c] at co
        refine .inr ⟨rfl, ⟨h ++ [Cell.dct (KG lv A)], ?_, fr_app _ _ _⟩, ?_⟩
        · simp only [↓rb, ↓tw0, ↓tw1, ↓evSs, ↓evS, ↓evE, ↓evEs, ↓evI, ↓evC, ↓evO, ↓evPs, ag1, ag2, ag3, ag4, chkT, ofO, List.getElem?_cons_zero, List.getElem?_cons_succ, List.set_cons_zero, List.set_cons_succ, Bool.false_eq_true, if_false, if_true, Option.bind_some, Option.map_some, tru1, subD, setD, cmpD, cmpO, binD, bltD, asS, asL, asD, asO, keyOf, truV, cf_eq_i, cf_ne_i, cf_eq_s, cf_ne_s, cf_eq_b, cf_ne_b, cf_lt_i, cf_gt_i, cf_le_i, cf_ge_i, cf_is0, cf_isr, cf_isnot0, cf_ist, kd_dec, kd_dec2, subF, ix10, ix20, ix21, ix30, ix31, ix32, ln1, ln2, ln3, lim0, lim1, lim2, lim3, lim4, lim5, lim6, decide_true, decide_false, decide_not, Bool.not_true, Bool.not_false, Bool.true_or, Bool.or_true, Bool.false_or, Bool.or_false, not_true, not_false_eq_true, eq_self, reduceCtorEq, Bool.and_true, Bool.true_and, Bool.and_false, Bool.false_and, bmK, hm, g, co, cv, chk, xc, Option.isSome_some]
        · refine .inr ⟨101, [], (h ++ [Cell.dct (KG lv A)]), ?_⟩
          simp only [↓rb, ↓tw0, ↓tw1, ↓evSs, ↓evS, ↓evE, ↓evEs, ↓evI, ↓evC, ↓evO, ↓evPs, ag1, ag2, ag3, ag4, chkT, ofO, List.getElem?_cons_zero, List.getElem?_cons_succ, List.set_cons_zero, List.set_cons_succ, Bool.false_eq_true, if_false, if_true, Option.bind_some, Option.map_some, tru1, subD, setD, cmpD, cmpO, binD, bltD, asS, asL, asD, asO, keyOf, truV, cf_eq_i, cf_ne_i, cf_eq_s, cf_ne_s, cf_eq_b, cf_ne_b, cf_lt_i, cf_gt_i, cf_le_i, cf_ge_i, cf_is0, cf_isr, cf_isnot0, cf_ist, kd_dec, kd_dec2, subF, ix10, ix20, ix21, ix30, ix31, ix32, ln1, ln2, ln3, lim0, lim1, lim2, lim3, lim4, lim5, lim6, decide_true, decide_false, decide_not, Bool.not_true, Bool.not_false, Bool.true_or, Bool.or_true, Bool.false_or, Bool.or_false, not_true, not_false_eq_true, eq_self, reduceCtorEq, Bool.and_true, Bool.true_and, Bool.and_false, Bool.false_and, bmK, hm, g, co, cv, chk, xc, Option.isSome_some]
      | some l' =>
        rw [c] at co
        refine .inl ⟨_, rfl, [some (ptv B), some (ptv E), some (.ref h.length), some (.str x), some (ow l.1), some (ow l.2), some (lv l')], h ++ [Cell.dct (KG lv (ptG A x l'))], ?_, _, _, _, _, rfl, rfl, kn.pt (List.mem_append.mpr (.inr hx)) l'⟩
        simp only [↓rb, ↓tw0, ↓tw1, ↓evSs, ↓evS, ↓evE, ↓evEs, ↓evI, ↓evC, ↓evO, ↓evPs, ag1, ag2, ag3, ag4, chkT, ofO, List.getElem?_cons_zero, List.getElem?_cons_succ, List.set_cons_zero, List.set_cons_succ, Bool.false_eq_true, if_false, if_true, Option.bind_some, Option.map_some, tru1, subD, setD, cmpD, cmpO, binD, bltD, asS, asL, asD, asO, keyOf, truV, cf_eq_i, cf_ne_i, cf_eq_s, cf_ne_s, cf_eq_b, cf_ne_b, cf_lt_i, cf_gt_i, cf_le_i, cf_ge_i, cf_is0, cf_isr, cf_isnot0, cf_ist, kd_dec, kd_dec2, subF, ix10, ix20, ix21, ix30, ix31, ix32, ln1, ln2, ln3, lim0, lim1, lim2, lim3, lim4, lim5, lim6, decide_true, decide_false, decide_not, Bool.not_true, Bool.not_false, Bool.true_or, Bool.or_true, Bool.false_or, Bool.or_false, not_true, not_false_eq_true, eq_self, reduceCtorEq, Bool.and_true, Bool.true_and, Bool.and_false, Bool.false_and, bmK, hm, g, co, cv, chk, e2, is_lv, Option.isSome_some, put_KG, set_last]) B [some (ptv B), some (ptv E), some (.ref h.length), none, none, none, none] (h ++ [.dct (KG lv B)]) ⟨_, _, _, _, rfl, rfl, nb, fun x hx => List.mem_append.mpr (.inl hx)⟩
  rcases lp with ⟨D, eD, s', h', e2, x3, x4, x5, x6, rfl, rfl, kn⟩ | ⟨eD, ⟨h2, e2, fr⟩, en⟩
  · have eD : andG B (lstG E) = some D := eD
    rw [eD]
    have lA := kn.len
    have hl : D.length < 60 := by simp [ksG] at lA; omega
    have hm : (h ++ [Cell.dct (KG lv D)])[h.length]? = some (.dct (KG lv D)) := get_last
    have mk := mkP_ref T n (s := [some (ptv B), some (ptv E), some (.ref h.length), x3, x4, x5, x6]) (e := .var 2) (ev_var rfl) (.refl _ _) hm kn.1 hl
    refine (congrArg (fun r => finR 2 h (retOf r)) ((st_if0 e0).trans ((st_set e1).trans ((st_for it ((unlock_free rfl).trans e2)).trans (st_ret mk))))).trans ?_
    exact fin2_p (fr_app _ _ _) (pu_ptv _)
  · have eD : andG B (lstG E) = none := eD
    rw [eD]
    refine (congrArg (fun r => finR 2 h (retOf r)) ((st_if0 e0).trans ((st_set e1).trans ((st_forE it ((unlock_free rfl)) en).trans e2)))).trans ?_
    exact fin2_x fr rfl
theorem ev_pand (n : Nat) {s : Lo} {h h1 h2 : Hv} {e f : CE} {B E : List (Str × Lm)} (he : evE T (callN T (n + 2)) false e s h = .ok (ptv B) h1) (hf : evE T (callN T (n + 2)) false f s h1 = .ok (ptv E) h2) (nb : (ksG B).Nodup) (ne : (ksG E).Nodup) (lb : B.length < 25) (le : E.length < 25) (fz : Bool) :
    evE T (callN T (n + 2)) false (.bin .band fz e f) s h = match andG B (lstG E) with
      | some D => .ok (ptv (D.filter fun q => la q.2)) h2
      | none => .ex 101 [] h2 := by
  have sp := SpH.e (T := T) (c := 2) (m := .bin .band)
  have ic := ClH.e (T := T) (c := 2)
  rw [evE, he]
  simp only [rb, hf, tw0, binD, asO, ptv, ic, if_true, spC, sp]
  exact pand_ok T n h2 nb ne lb le
end
end K01
end

section
set_option Elab.async false
set_option linter.all false
set_option maxRecDepth 100000
set_option maxHeartbeats 4000000
set_option autoImplicit false
/-! NL1: notes that are frozen. -/
namespace K01
open PySem L2 Core
theorem rng_at {N i : Nat} (hi : i < N) : (rngL 0 N).drop i = Vl.int i :: (rngL 0 N).drop (i + 1) := by
  rw [List.drop_eq_getElem_cons (by simpa [rngL] using hi)]
  simp [rngL]
theorem lenS_ok {T : Tab} {cl : Cl} {s : Lo} {h : Hv} {x : Nat} {z : Str} {fz : Bool} (hx : s[x]? = some (some (.str z))) (hz : (cds z).length ≤ 100) : evE T cl false (.blt .len fz (.cons (.var x) .nil)) s h = .ok (.int ((cds z).length : Nat)) h := by
  rw [evE, evEs, ev_var hx]
  simp only [Res.bind, evEs, tw, Bool.false_eq_true, if_false, bltD, asO, bltF, chk]
  rw [if_pos (by rw [cds_len]; unfold LIM; omega), cds_len]
theorem chS_ok {T : Tab} {cl : Cl} {s : Lo} {h : Hv} {x y i c : Nat} {z : Str} (hx : s[x]? = some (some (.str z))) (hy : s[y]? = some (some (.int i))) (hc : (cds z)[i]? = some c) (hz : (cds z).length ≤ 100) : evE T cl false (.sub (.var x) (.var y)) s h = .ok (.str ⟨#[c]⟩) h := by
  rw [evE, ev_var hx]
  have hi := (List.getElem?_eq_some_iff.mp hc).1
  simp only [Res.bind, ev_var hy, tw, Bool.false_eq_true, if_false, subD, asO, subF, chk]
  rw [if_pos (by rw [cds_len]; unfold LIM; omega)]
  unfold cds at hc hi
  simp only [L2.ixN]
  rw [if_pos (by omega), if_pos (by omega)]
  have hc' : z.cps[i]? = some c := by simpa using hc
  simp [hc', ofO]
theorem ord_ok {T : Tab} {cl : Cl} {s : Lo} {h : Hv} {e : CE} {c : Nat} {z : Str} {fz : Bool} (he : evE T cl false e s h = .ok (.str z) h) (hz : z.cps.toList = [c]) : evE T cl false (.blt .ord fz (.cons e .nil)) s h = .ok (.int c) h := by
  rw [evE, evEs, he]
  simp [Res.bind, evEs, tw, bltD, bltF, hz]
theorem ints_map : ∀ is : List Int, ints? (is.map .int) = some is
  | [] => rfl
  | i :: r => by simp [ints?, ints_map r]
def dg (z : List Nat) (i : Nat) : Int := match z[i]? with
  | some c => (c : Int) - 96
  | none => 0
def plN (z : List Nat) : Nat → Int
  | 0 => 0
  | i + 1 => plN z i * 27 + dg z i
def plc (x : Str) : Int := -(plN (cds x) 8)
section
variable (T : Tab) [D0 T]
theorem place_ok (n : Nat) {x : Str} (g : Gd x) (h : Hv) : callN T (n + 1) 0 [.str x] h = .ok (.int (plc x)) h := by
  rw [c0]
  refine Eq.trans (congrArg (finR 2 h) ?_) (fin2_0 (show pu (.int _) from rfl))
  unfold b_name_place
  have g1 := g.1
  obtain ⟨s', h', e1, i, x2, rfl, rfl, hr, hi, hp⟩ := forR_run (src := .free) (t := .var 2) (body := evSs T (callN T n) (.cons (.ife (.cmp .lt (.var 2) (.blt .len true (.cons (.var 0) .nil))) (.cons (.set (.var 1) (.bin .add true (.bin .sub true (.bin .add true (.bin .mul true (.var 1) (.int 27)) (.blt .ord true (.cons (.sub (.var 0) (.var 2)) .nil))) (.blt .ord true (.cons (.str "a") .nil))) (.int 1))) .nil) (.cons (.set (.var 1) (.bin .mul true (.var 1) (.int 27))) .nil)) .nil))
    (fun r s h4 => ∃ (i : Nat) (x2 : Option Vl), s = [some (.str x), some (.int (plN (cds x) i)), x2] ∧ h4 = h ∧ r = (rngL 0 8).drop i ∧ i ≤ 8 ∧ natBits (plN (cds x) i) ≤ 10 + 20 * i)
    (fun _ _ _ _ => trivial) (fun v r s h4 ⟨i, x2, es, eh, hr, hi, hp⟩ => by
      subst es eh
      have hlt : i < 8 := by
        rcases Nat.lt_or_ge i 8 with h | h
        · exact h
        · have : i = 8 := by omega
          subst this
          cases hr
      rw [rng_at hlt] at hr
      cases hr
      have z27 : natBits 27 = 4 := by decide +kernel
      have em : evE T (callN T n) false (.bin .mul true (.var 1) (.int 27)) [some (.str x), some (.int (plN (cds x) i)), some (.int i)] h4 = .ok (.int (plN (cds x) i * 27)) h4 := (ev_bin (ev_var rfl) ev_int).trans (mul_ok (by omega))
      have zm : natBits (plN (cds x) i * 27) ≤ 15 + 20 * i := Nat.le_trans (nb_mul hp (Nat.le_of_eq z27)) (by omega)
      have ec : evE T (callN T n) true (.cmp .lt (.var 2) (.blt .len true (.cons (.var 0) .nil))) [some (.str x), some (.int (plN (cds x) i)), some (.int i)] h4 = .ok (.bl (decide ((i : Int) < ((cds x).length : Nat)))) h4 :=
        cmp_ev (ev_var rfl) (lenS_ok rfl (by omega)) (by simp [cmpF, ltV, ltF, vw, scLt]) (by decide)
      by_cases hc : (i : Int) < ((cds x).length : Nat)
      · have hil : i < (cds x).length := by omega
        obtain ⟨c, hcc⟩ : ∃ c, (cds x)[i]? = some c := ⟨_, List.getElem?_eq_getElem hil⟩
        have c2 := g.2 c (List.mem_of_getElem? hcc)
        have eo := ord_ok (T := T) (cl := callN T n) (s := [some (.str x), some (.int (plN (cds x) i)), some (.int i)]) (h := h4) (fz := true) (chS_ok (x := 0) (y := 2) rfl rfl hcc (by omega)) rfl
        have ea := ord_ok (T := T) (cl := callN T n) (s := [some (.str x), some (.int (plN (cds x) i)), some (.int i)]) (h := h4) (fz := true) (e := .str "a") (z := "a") (c := 97) (by simp [evE, tw]) (by decide +kernel)
        have e2 : plN (cds x) i * 27 + c - ((97 : Nat) : Int) + 1 = plN (cds x) (i + 1) := by simp only [plN, dg, hcc]; omega
        have ev : evE T (callN T n) false (.bin .add true (.bin .sub true (.bin .add true (.bin .mul true (.var 1) (.int 27)) (.blt .ord true (.cons (.sub (.var 0) (.var 2)) .nil))) (.blt .ord true (.cons (.str "a") .nil))) (.int 1)) [some (.str x), some (.int (plN (cds x) i)), some (.int i)] h4 = .ok (.int (plN (cds x) (i + 1))) h4 :=
          (ev_bin ((ev_bin ((ev_bin em eo).trans rfl) ea).trans rfl) ev_int).trans (by rw [← e2]; rfl)
        refine ⟨_, [some (.str x), some (.int (plN (cds x) (i + 1))), some (.int i)], h4, rfl, .inl ?_, i + 1, _, rfl, rfl, rfl, hlt, ?_⟩
        · show evSs T (callN T n) _ [some (.str x), some (.int (plN (cds x) i)), some (.int i)] h4 = _
          rw [st_if ec, decide_eq_true hc]
          simp only [if_true]
          rw [st_set ev, evSs]
          simp [evSs]
        · simp only [plN, dg, hcc]
          have zc : natBits ((c : Int) - 96) ≤ 15 + 20 * i := Nat.le_trans (nb_le (k := 7) (by omega)) (by omega)
          exact Nat.le_trans (nb_add zm zc) (by omega)
      · have hcc : (cds x)[i]? = none := List.getElem?_eq_none (by omega)
        have e2 : plN (cds x) i * 27 = plN (cds x) (i + 1) := by simp only [plN, dg, hcc]; omega
        refine ⟨_, [some (.str x), some (.int (plN (cds x) (i + 1))), some (.int i)], h4, rfl, .inl ?_, i + 1, _, rfl, rfl, rfl, hlt, by rw [← e2]; omega⟩
        show evSs T (callN T n) _ [some (.str x), some (.int (plN (cds x) i)), some (.int i)] h4 = _
        rw [st_if ec, decide_eq_false hc]
        simp only [Bool.false_eq_true, if_false]
        rw [e2] at em
        rw [st_set em, evSs]
        simp [evSs]) (rngL 0 8) [some (.str x), some (.int 0), none] h ⟨0, none, rfl, rfl, rfl, by decide, by show natBits 0 ≤ _; decide +kernel⟩
  have h8 : i = 8 := by
    have := congrArg List.length hr
    simp [rngL] at this
    omega
  subst h8
  have it : evI T (callN T n) (.rng1 (.int 8)) [some (.str x), some (.int 0), none] h' = .ok (.free (rngL 0 8)) h' := it_rng (n := 8) ev_int (by decide)
  refine (congrArg retOf ((st_set (ev_int (i := 0))).trans ((st_for (r := .cons (.ret (.neg (.var 1))) .nil) it ((unlock_free rfl).trans e1)).trans (st_ret (v := .int (plc x)) (h1 := h') (by simp only [↓rb, ↓tw0, ↓tw1, ↓evSs, ↓evS, ↓evE, ↓evEs, ↓evI, ↓evC, ↓evO, ↓evPs, ag1, ag2, ag3, ag4, chkT, ofO, List.getElem?_cons_zero, List.getElem?_cons_succ, List.set_cons_zero, List.set_cons_succ, Bool.false_eq_true, if_false, if_true, Option.bind_some, Option.map_some, tru1, subD, setD, cmpD, cmpO, binD, bltD, asS, asL, asD, asO, keyOf, truV, cf_eq_i, cf_ne_i, cf_eq_s, cf_ne_s, cf_eq_b, cf_ne_b, cf_lt_i, cf_gt_i, cf_le_i, cf_ge_i, cf_is0, cf_isr, cf_isnot0, cf_ist, kd_dec, kd_dec2, subF, ix10, ix20, ix21, ix30, ix31, ix32, ln1, ln2, ln3, lim0, lim1, lim2, lim3, lim4, lim5, lim6, decide_true, decide_false, decide_not, Bool.not_true, Bool.not_false, Bool.true_or, Bool.or_true, Bool.false_or, Bool.or_false, not_true, not_false_eq_true, eq_self, reduceCtorEq, Bool.and_true, Bool.true_and, Bool.and_false, Bool.false_and]; rfl))))).trans rfl
end
def ab (i : Int) : Int := if i < 0 then -i else i
def mkq (q : Str × Int) : Vl := .tup [.int (plc q.1), .int (ab q.2), .bl (decide (q.2 < 0))]
def tot (D : List (Str × Int)) : Int := (D.map fun q => ab q.2).sum
def rkV (D : List (Str × Int)) : Vl := .tup [.int (tot D), .tup ((lstG D).map mkq)]
theorem map_ksG {α β : Type} (g : α → β) (d : α) {D : List (Str × α)} (nd : (ksG D).Nodup) : (ksG D).map (fun x => g ((lkG D x).getD d)) = D.map fun q => g q.2 := by
  unfold ksG
  rw [List.map_map]
  refine List.map_congr_left fun q hq => ?_
  have : lkG D q.1 = some q.2 := (lkG_iff nd).mpr hq
  simp only [Function.comp, this, Option.getD_some]
theorem pu_mkq (q : Str × Int) : pu (mkq q) := rfl
theorem pu_rkV (D : List (Str × Int)) : pu (rkV D) := by
  show below 0 (.tup [.int (tot D), .tup ((lstG D).map mkq)]) = true
  have := pu_tup pu_mkq (lstG D)
  rw [below, belows, belows, this]; rfl
section
variable (T : Tab) [D0 T] [D1 T]
theorem key_ok (n : Nat) (h : Hv) {D : List (Str × Int)} (nd : (ksG D).Nodup) (g : ∀ x ∈ ksG D, Gd x) (hl : D.length < 60) : callN T (n + 2) 1 [.fd (KG .int D)] h = .ok (rkV D) h := by
  rw [c1]
  unfold b_order_key
  have l1 := lcG (T := T) (cl := callN T (n + 1)) (h := h) (s0 := wipeL [some (.fd (KG .int D)), none, none, none] [2]) (t := .var 2) (e := .blt .abs true (.cons (.sub (.var 0) (.var 2)) .nil)) .str (fun x => .int (ab ((lkG D x).getD 0))) (ksG D) fun z hz => by
    obtain ⟨i, hi⟩ := mem_ksG.mp hz
    have e1 : look (KG Vl.int D) (.inr z) = some (.int i) := by rw [look_KG, hi]; rfl
    refine ⟨_, by simp only [↓rb, ↓tw0, ↓tw1, ↓evSs, ↓evS, ↓evE, ↓evEs, ↓evI, ↓evC, ↓evO, ↓evPs, ag1, ag2, ag3, ag4, chkT, ofO, List.getElem?_cons_zero, List.getElem?_cons_succ, List.set_cons_zero, List.set_cons_succ, Bool.false_eq_true, if_false, if_true, Option.bind_some, Option.map_some, tru1, subD, setD, cmpD, cmpO, binD, bltD, asS, asL, asD, asO, keyOf, truV, cf_eq_i, cf_ne_i, cf_eq_s, cf_ne_s, cf_eq_b, cf_ne_b, cf_lt_i, cf_gt_i, cf_le_i, cf_ge_i, cf_is0, cf_isr, cf_isnot0, cf_ist, kd_dec, kd_dec2, subF, ix10, ix20, ix21, ix30, ix31, ix32, ln1, ln2, ln3, lim0, lim1, lim2, lim3, lim4, lim5, lim6, decide_true, decide_false, decide_not, Bool.not_true, Bool.not_false, Bool.true_or, Bool.or_true, Bool.false_or, Bool.or_false, not_true, not_false_eq_true, eq_self, reduceCtorEq, Bool.and_true, Bool.true_and, Bool.and_false, Bool.false_and, wipeL]; rfl, ?_⟩
    simp only [↓rb, ↓tw0, ↓tw1, ↓evSs, ↓evS, ↓evE, ↓evEs, ↓evI, ↓evC, ↓evO, ↓evPs, ag1, ag2, ag3, ag4, chkT, ofO, List.getElem?_cons_zero, List.getElem?_cons_succ, List.set_cons_zero, List.set_cons_succ, Bool.false_eq_true, if_false, if_true, Option.bind_some, Option.map_some, tru1, subD, setD, cmpD, cmpO, binD, bltD, asS, asL, asD, asO, keyOf, truV, cf_eq_i, cf_ne_i, cf_eq_s, cf_ne_s, cf_eq_b, cf_ne_b, cf_lt_i, cf_gt_i, cf_le_i, cf_ge_i, cf_is0, cf_isr, cf_isnot0, cf_ist, kd_dec, kd_dec2, subF, ix10, ix20, ix21, ix30, ix31, ix32, ln1, ln2, ln3, lim0, lim1, lim2, lim3, lim4, lim5, lim6, decide_true, decide_false, decide_not, Bool.not_true, Bool.not_false, Bool.true_or, Bool.or_true, Bool.false_or, Bool.or_false, not_true, not_false_eq_true, eq_self, reduceCtorEq, Bool.and_true, Bool.true_and, Bool.and_false, Bool.false_and, e1, bltF, hi, Option.getD_some, ab]
  have e1' : (ksG D).map (fun x => Vl.int (ab ((lkG D x).getD 0))) = (D.map fun q => ab q.2).map .int := by
    rw [map_ksG (fun i => Vl.int (ab i)) 0 nd, List.map_map]; rfl
  rw [e1'] at l1
  have e2 : evE T (callN T (n + 1)) false (.blt .sum true (.cons (.lc true [2] (.var 2) (.val (.var 0)) .no (.blt .abs true (.cons (.sub (.var 0) (.var 2)) .nil))) .nil)) [some (.fd (KG .int D)), none, none, none] h = .ok (.int (tot D)) h := by
    rw [evE, evEs, ev_lc (it_fdG (ev_var rfl)) (by simp [Walk.free, ksG, LIM]; omega) ((unlock_free rfl).trans l1)]
    simp only [mkL, if_true, rb, evEs, tw0, bltD, bltF, asL, Option.bind_some, ints_map]
    rfl
  have es := sorted_fdG (T := T) (cl := callN T (n + 1)) (h := h) (pe := .int) (D := D) (e := .var 0) (s := [some (.fd (KG .int D)), some (.int (tot D)), none, none]) (ev_var rfl) hl
  have it2 : evI T (callN T (n + 1)) (.val (.blt .sorted true (.cons (.var 0) .nil))) [some (.fd (KG .int D)), some (.int (tot D)), none, none] h = .ok (.free ((sortS (ksG D)).map .str)) h := by
    rw [evI, es]; rfl
  have l2 := lcG (T := T) (cl := callN T (n + 1)) (h := h) (s0 := wipeL [some (.fd (KG .int D)), some (.int (tot D)), none, none] [2]) (t := .var 2) (e := .tup (.cons (.call 0 (.cons (.var 2) .nil)) (.cons (.blt .abs true (.cons (.sub (.var 0) (.var 2)) .nil)) (.cons (.cmp .lt (.sub (.var 0) (.var 2)) (.int 0)) .nil)))) .str (fun x => mkq (x, (lkG D x).getD 0)) (sortS (ksG D)) fun z hz => by
    have hz := (sortS_perm _).mem_iff.mp hz
    obtain ⟨i, hi⟩ := mem_ksG.mp hz
    have e1 : look (KG Vl.int D) (.inr z) = some (.int i) := by rw [look_KG, hi]; rfl
    have pl := place_ok T n (g z hz) h
    refine ⟨_, by simp only [↓rb, ↓tw0, ↓tw1, ↓evSs, ↓evS, ↓evE, ↓evEs, ↓evI, ↓evC, ↓evO, ↓evPs, ag1, ag2, ag3, ag4, chkT, ofO, List.getElem?_cons_zero, List.getElem?_cons_succ, List.set_cons_zero, List.set_cons_succ, Bool.false_eq_true, if_false, if_true, Option.bind_some, Option.map_some, tru1, subD, setD, cmpD, cmpO, binD, bltD, asS, asL, asD, asO, keyOf, truV, cf_eq_i, cf_ne_i, cf_eq_s, cf_ne_s, cf_eq_b, cf_ne_b, cf_lt_i, cf_gt_i, cf_le_i, cf_ge_i, cf_is0, cf_isr, cf_isnot0, cf_ist, kd_dec, kd_dec2, subF, ix10, ix20, ix21, ix30, ix31, ix32, ln1, ln2, ln3, lim0, lim1, lim2, lim3, lim4, lim5, lim6, decide_true, decide_false, decide_not, Bool.not_true, Bool.not_false, Bool.true_or, Bool.or_true, Bool.false_or, Bool.or_false, not_true, not_false_eq_true, eq_self, reduceCtorEq, Bool.and_true, Bool.true_and, Bool.and_false, Bool.false_and, wipeL]; rfl, ?_⟩
    simp only [↓rb, ↓tw0, ↓tw1, ↓evSs, ↓evS, ↓evE, ↓evEs, ↓evI, ↓evC, ↓evO, ↓evPs, ag1, ag2, ag3, ag4, chkT, ofO, List.getElem?_cons_zero, List.getElem?_cons_succ, List.set_cons_zero, List.set_cons_succ, Bool.false_eq_true, if_false, if_true, Option.bind_some, Option.map_some, tru1, subD, setD, cmpD, cmpO, binD, bltD, asS, asL, asD, asO, keyOf, truV, cf_eq_i, cf_ne_i, cf_eq_s, cf_ne_s, cf_eq_b, cf_ne_b, cf_lt_i, cf_gt_i, cf_le_i, cf_ge_i, cf_is0, cf_isr, cf_isnot0, cf_ist, kd_dec, kd_dec2, subF, ix10, ix20, ix21, ix30, ix31, ix32, ln1, ln2, ln3, lim0, lim1, lim2, lim3, lim4, lim5, lim6, decide_true, decide_false, decide_not, Bool.not_true, Bool.not_false, Bool.true_or, Bool.or_true, Bool.false_or, Bool.or_false, not_true, not_false_eq_true, eq_self, reduceCtorEq, Bool.and_true, Bool.true_and, Bool.and_false, Bool.false_and, e1, bltF, pl, chk, hi, Option.getD_some, mkq, ab]
  rw [map_lstG mkq] at l2
  have e3 : evE T (callN T (n + 1)) false (.lc true [2] (.var 2) (.val (.blt .sorted true (.cons (.var 0) .nil))) .no (.tup (.cons (.call 0 (.cons (.var 2) .nil)) (.cons (.blt .abs true (.cons (.sub (.var 0) (.var 2)) .nil)) (.cons (.cmp .lt (.sub (.var 0) (.var 2)) (.int 0)) .nil))))) [some (.fd (KG .int D)), some (.int (tot D)), none, none] h = .ok (.fl ((lstG D).map mkq)) h := by
    rw [ev_lc it2 (by simp only [Walk.free, List.length_map, (sortS_perm _).length_eq]; simp [ksG, LIM]; omega) ((unlock_free rfl).trans l2)]
    rfl
  refine (congrArg (fun r => finR 2 h (retOf r)) ((st_set e2).trans ((st_set e3).trans (st_ret (v := rkV D) (h1 := h) ?_)))).trans (fin2_0 (pu_rkV D))
  simp only [↓rb, ↓tw0, ↓tw1, ↓evSs, ↓evS, ↓evE, ↓evEs, ↓evI, ↓evC, ↓evO, ↓evPs, ag1, ag2, ag3, ag4, chkT, ofO, List.getElem?_cons_zero, List.getElem?_cons_succ, List.set_cons_zero, List.set_cons_succ, Bool.false_eq_true, if_false, if_true, Option.bind_some, Option.map_some, tru1, subD, setD, cmpD, cmpO, binD, bltD, asS, asL, asD, asO, keyOf, truV, cf_eq_i, cf_ne_i, cf_eq_s, cf_ne_s, cf_eq_b, cf_ne_b, cf_lt_i, cf_gt_i, cf_le_i, cf_ge_i, cf_is0, cf_isr, cf_isnot0, cf_ist, kd_dec, kd_dec2, subF, ix10, ix20, ix21, ix30, ix31, ix32, ln1, ln2, ln3, lim0, lim1, lim2, lim3, lim4, lim5, lim6, decide_true, decide_false, decide_not, Bool.not_true, Bool.not_false, Bool.true_or, Bool.or_true, Bool.false_or, Bool.or_false, not_true, not_false_eq_true, eq_self, reduceCtorEq, Bool.and_true, Bool.true_and, Bool.and_false, Bool.false_and, bltF, chk]
  rfl
end
def nzB (i : Int) : Bool := !decide (i = 0)
def zer (D : List (Str × Int)) : List (Str × Int) := D.filter fun q => nzB q.2
def gi (D : List (Str × Int)) (x : Str) : Int := (lkG D x).getD 0
def ntv (Z : List (Str × Int)) : Vl := .fo 0 [(1, .fd (KG .int Z)), (0, rkV Z)]
theorem pu_ntF (Z : List (Str × Int)) : belowF 0 [(1, .fd (KG .int Z)), (0, rkV Z)] = true := by
  have h1 : below 0 (.fd (KG Vl.int Z)) = true := pu_fd (fun _ => rfl) Z
  have h2 : below 0 (rkV Z) = true := pu_rkV Z
  rw [belowF, belowF, h1, h2]; rfl
theorem pu_ntv (Z : List (Str × Int)) : pu (ntv Z) := by
  show below 0 (.fo 0 [(1, .fd (KG .int Z)), (0, rkV Z)]) = true
  rw [below]; exact pu_ntF Z
theorem gi_zer {D : List (Str × Int)} (nd : (ksG D).Nodup) (x : Str) : gi (zer D) x = gi D x := by
  unfold gi zer
  rw [lkG_filter nd]
  cases lkG D x with
  | none => rfl
  | some i =>
    by_cases h : i = 0
    · subst h; rfl
    · simp [Option.filter, nzB, h]
section
variable (T : Tab) [D3 T]
theorem wz_ok (n : Nat) (h : Hv) {D : List (Str × Int)} (nd : (ksG D).Nodup) (hl : D.length < 60) : callN T (n + 1) 3 [.fd (KG .int D)] h = .ok (.fd (KG .int (zer D))) h := by
  rw [c3]
  unfold b_without_zeros
  have e1 := dcG (T := T) (cl := callN T n) (h := h) (pe := Vl.int) nzB nd (s0 := wipeL [some (.fd (KG .int D)), none] [1]) (x := 1) (c := .cmp .ne (.sub (.var 0) (.var 1)) (.int 0)) (ke := .var 1) (e := .sub (.var 0) (.var 1)) (fun z v hz => by
    have e1 : look (KG Vl.int D) (.inr z) = some (.int v) := by rw [look_KG, (lkG_iff nd).mpr hz]; rfl
    refine ⟨?_, ?_, ?_⟩ <;> simp only [wipeL, ↓rb, ↓tw0, ↓tw1, ↓evSs, ↓evS, ↓evE, ↓evEs, ↓evI, ↓evC, ↓evO, ↓evPs, ag1, ag2, ag3, ag4, chkT, ofO, List.getElem?_cons_zero, List.getElem?_cons_succ, List.set_cons_zero, List.set_cons_succ, Bool.false_eq_true, if_false, if_true, Option.bind_some, Option.map_some, tru1, subD, setD, cmpD, cmpO, binD, bltD, asS, asL, asD, asO, keyOf, truV, cf_eq_i, cf_ne_i, cf_eq_s, cf_ne_s, cf_eq_b, cf_ne_b, cf_lt_i, cf_gt_i, cf_le_i, cf_ge_i, cf_is0, cf_isr, cf_isnot0, cf_ist, kd_dec, kd_dec2, subF, ix10, ix20, ix21, ix30, ix31, ix32, ln1, ln2, ln3, lim0, lim1, lim2, lim3, lim4, lim5, lim6, decide_true, decide_false, decide_not, Bool.not_true, Bool.not_false, Bool.true_or, Bool.or_true, Bool.false_or, Bool.or_false, not_true, not_false_eq_true, eq_self, reduceCtorEq, Bool.and_true, Bool.true_and, Bool.and_false, Bool.false_and, e1, chk, nzB]) D [] rfl
  have e2 : evE T (callN T n) false (.dc true [1] (.var 1) (.val (.var 0)) (.so (.cmp .ne (.sub (.var 0) (.var 1)) (.int 0))) (.var 1) (.sub (.var 0) (.var 1))) [some (.fd (KG .int D)), none] h = .ok (.fd (KG .int (zer D))) h := by
    rw [ev_dc (it_fdG (ev_var rfl)) (by simp [Walk.free, ksG, LIM]; omega) ((unlock_free rfl).trans e1)]
    rfl
  exact (congrArg (fun r => finR 2 h (retOf r)) (st_ret e2)).trans (fin2_0 (pu_fd (fun _ => rfl) _))
end
theorem lu1 (a b : Vl) : List.lookup 1 [(1, a), (0, b)] = some a := rfl
theorem lu1' (a : Vl) : List.lookup 1 [(1, a)] = some a := rfl
section
variable (T : Tab) [D0 T] [D1 T] [D3 T] [D11 T] [FdH T 0 0] [FdH T 0 1] [SpH T 0 .init 11]
theorem ninit_ok (n : Nat) {h : Hv} {o : Nat} {D : List (Str × Int)} (ho : h[o]? = some (.obj 0 [])) (nd : (ksG D).Nodup) (g : ∀ x ∈ ksG D, Gd x) (hl : D.length < 60) :
    callN T (n + 3) 11 [.ref o, .fd (KG .int D)] h = .ok .non (h.set o (.obj 0 [(1, .fd (KG .int (zer D))), (0, rkV (zer D))])) := by
  have fH := FdH.e (T := T) (c := 0) (f := 1)
  have fR := FdH.e (T := T) (c := 0) (f := 0)
  rw [c11]
  unfold b_Notesu_initu
  have hlt := lt_of ho
  have e0 : evE T (callN T (n + 2)) false (.dct true .nil) [some (.ref o), some (.fd (KG .int D))] h = .ok (.fd []) h := by
    simp [evE, evPs, tw, Res.bind, chk, mkD, mergeD]
  have o1 : (h.set o (.obj 0 [(1, .fd [])]))[o]? = some (.obj 0 [(1, .fd [])]) := by rw [List.getElem?_set_self hlt]
  have isn : ∀ h, cmpF .isnot (.fd (KG Vl.int D)) .non h = some true := fun _ => rfl
  have ec : evE T (callN T (n + 2)) true (.cmp .isnot (.var 1) .non) [some (.ref o), some (.fd (KG .int D))] (h.set o (.obj 0 [(1, .fd [])])) = .ok (.bl true) (h.set o (.obj 0 [(1, .fd [])])) := by
    simp only [↓rb, ↓tw0, ↓tw1, ↓evSs, ↓evS, ↓evE, ↓evEs, ↓evI, ↓evC, ↓evO, ↓evPs, ag1, ag2, ag3, ag4, chkT, ofO, List.getElem?_cons_zero, List.getElem?_cons_succ, List.set_cons_zero, List.set_cons_succ, Bool.false_eq_true, if_false, if_true, Option.bind_some, Option.map_some, tru1, subD, setD, cmpD, cmpO, binD, bltD, asS, asL, asD, asO, keyOf, truV, cf_eq_i, cf_ne_i, cf_eq_s, cf_ne_s, cf_eq_b, cf_ne_b, cf_lt_i, cf_gt_i, cf_le_i, cf_ge_i, cf_is0, cf_isr, cf_isnot0, cf_ist, kd_dec, kd_dec2, subF, ix10, ix20, ix21, ix30, ix31, ix32, ln1, ln2, ln3, lim0, lim1, lim2, lim3, lim4, lim5, lim6, decide_true, decide_false, decide_not, Bool.not_true, Bool.not_false, Bool.true_or, Bool.or_true, Bool.false_or, Bool.or_false, not_true, not_false_eq_true, eq_self, reduceCtorEq, Bool.and_true, Bool.true_and, Bool.and_false, Bool.false_and, isn]
  have w := wz_ok T (n + 1) (h.set o (.obj 0 [(1, .fd [])])) nd hl
  have e2 : evE T (callN T (n + 2)) false (.call 3 (.cons (.var 1) .nil)) [some (.ref o), some (.fd (KG .int D))] (h.set o (.obj 0 [(1, .fd [])])) = .ok (.fd (KG .int (zer D))) (h.set o (.obj 0 [(1, .fd [])])) := (ev_call1 (ev_var (x := 1) rfl)).trans w
  have s1 := st_setA (r := .nil) (x := 0) e2 rfl o1 fH (by simp)
  rw [evSs] at s1
  have o2 : ((h.set o (.obj 0 [(1, .fd [])])).set o (.obj 0 [(1, .fd (KG .int (zer D)))]))[o]? = some (.obj 0 [(1, .fd (KG .int (zer D)))]) := by rw [List.getElem?_set_self (by simp; exact hlt)]
  have ky := key_ok T n ((h.set o (.obj 0 [(1, .fd [])])).set o (.obj 0 [(1, .fd (KG .int (zer D)))])) (D := zer D) (ndG_filter nd nzB) (fun x hx => g x ((ksG_filter D nzB).subset hx)) (Nat.lt_of_le_of_lt (List.length_filter_le _ _) hl)
  have e3 := (ev_call1 (T := T) (cl := callN T (n + 2)) (s := [some (.ref o), some (.fd (KG .int D))]) (g := 1) (ev_attr (x := 0) rfl o2 fH rfl)).trans ky
  refine (congrArg retOf ((st_setA e0 rfl ho fH (by simp)).trans ((st_ifT ec s1).trans (st_setA e3 rfl o2 fR (by simp))))).trans ?_
  rw [evSs, List.set_set, List.set_set]
  rfl
theorem mkN_fd (n : Nat) {s : Lo} {h : Hv} {e : CE} {D : List (Str × Int)} (he : evE T (callN T (n + 3)) false e s h = .ok (.fd (KG .int D)) h) (nd : (ksG D).Nodup) (g : ∀ x ∈ ksG D, Gd x) (hl : D.length < 60) :
    evE T (callN T (n + 3)) false (.frz (.mk 0 (.cons e .nil))) s h = .ok (ntv (zer D)) h :=
  frz_mk1 (SpH.e (T := T) (c := 0) (m := .init)) he (.refl _ _) (ninit_ok T n get_last nd g hl) (by simp) (fr_set (by simp)) (pu_ntF _)
end
section
variable (T : Tab) [D12 T] [FdH T 0 1] [SpH T 0 .getitem 12]
theorem ngetitem_ok (n : Nat) (Z : List (Str × Int)) (x : Str) (h : Hv) : callN T (n + 1) 12 [ntv Z, .str x] h = .ok (.int (gi Z x)) h := by
  have fH := FdH.e (T := T) (c := 0) (f := 1)
  rw [c12]
  refine Eq.trans (congrArg (finR 2 h) ?_) (fin2_0 (show pu (.int _) from rfl))
  have g : bmF .get true (.fd (KG Vl.int Z)) [.str x, .int 0] h = .ok (.int (gi Z x)) h := by
    simp only [bmF, getF, asD, keyOf, look_KG, gi]
    cases lkG Z x <;> rfl
  unfold b_Notesu_getitemu
  simp only [↓rb, ↓tw0, ↓tw1, ↓evSs, ↓evS, ↓evE, ↓evEs, ↓evI, ↓evC, ↓evO, ↓evPs, ag1, ag2, ag3, ag4, chkT, ofO, List.getElem?_cons_zero, List.getElem?_cons_succ, List.set_cons_zero, List.set_cons_succ, Bool.false_eq_true, if_false, if_true, Option.bind_some, Option.map_some, tru1, subD, setD, cmpD, cmpO, binD, bltD, asS, asL, asD, asO, keyOf, truV, cf_eq_i, cf_ne_i, cf_eq_s, cf_ne_s, cf_eq_b, cf_ne_b, cf_lt_i, cf_gt_i, cf_le_i, cf_ge_i, cf_is0, cf_isr, cf_isnot0, cf_ist, kd_dec, kd_dec2, subF, ix10, ix20, ix21, ix30, ix31, ix32, ln1, ln2, ln3, lim0, lim1, lim2, lim3, lim4, lim5, lim6, decide_true, decide_false, decide_not, Bool.not_true, Bool.not_false, Bool.true_or, Bool.or_true, Bool.false_or, Bool.or_false, not_true, not_false_eq_true, eq_self, reduceCtorEq, Bool.and_true, Bool.true_and, Bool.and_false, Bool.false_and, ntv, fH, lu1, bmK, g, Option.isSome_some, retOf]
theorem sub_ntv (n : Nat) (Z : List (Str × Int)) (x : Str) (h : Hv) : subD T (callN T (n + 1)) (ntv Z) (.str x) h = .ok (.int (gi Z x)) h := by
  have sp := SpH.e (T := T) (c := 0) (m := .getitem)
  simp only [subD, asO, ntv, spC, sp]
  exact ngetitem_ok T n Z x h
end
end K01
end

section
set_option Elab.async false
set_option linter.all false
set_option maxRecDepth 100000
set_option maxHeartbeats 4000000
set_option autoImplicit false
/-! CL1: changes that are frozen. -/
namespace K01
open PySem L2 Core
def chv (L : List (Str × Pp)) : Vl := .fo 1 [(2, .tup (PT L))]
theorem pu_pv (p : Pp) : pu (pv p) := rfl
theorem pu_qv (q : Str × Pp) : pu (qv q) := rfl
theorem pu_PT (L : List (Str × Pp)) : pu (.tup (PT L)) := pu_tup pu_qv L
theorem pu_chF (L : List (Str × Pp)) : belowF 0 [(2, .tup (PT L))] = true := by
  have h1 : below 0 (.tup (PT L)) = true := pu_PT L
  rw [belowF, h1]; rfl
theorem pu_chv (L : List (Str × Pp)) : pu (chv L) := by
  show below 0 (.fo 1 [(2, .tup (PT L))]) = true
  rw [below]; exact pu_chF L
theorem luc (a : Vl) : List.lookup 2 [(2, a)] = some a := rfl
abbrev cib : CSs := (.cons (.set (.tup (.cons (.var 4) (.cons (.var 5) .nil))) (.sub (.var 1) (.var 3))) (.cons (.ife (.or_ (.cmp .eq (.var 4) (.str "set")) (.cmp .ne (.var 5) (.int 0))) (.cons (.setI (.var 2) (.var 3) (.tup (.cons (.var 4) (.cons (.var 5) .nil)))) .nil) .nil) .nil))
section
variable (T : Tab) [D5 T] [FdH T 1 2] [SpH T 1 .init 5]
theorem ctail_ok (n : Nat) {h : Hv} {o m : Nat} {x1 x3 x4 x5 : Option Vl} {B : List (Str × Pp)} (ho : h[o]? = some (.obj 1 [])) (hm : h[m]? = some (.dct (KG pv B))) (nd : (ksG B).Nodup) (hl : B.length < 60) :
    evSs T (callN T n) (.cons (.setA (.var 0) 2 (.blt .tuple true (.cons (.lc true [3] (.var 3) (.val (.blt .sorted true (.cons (.var 2) .nil))) .no (.tup (.cons (.var 3) (.cons (.sub (.sub (.var 2) (.var 3)) (.int 0)) (.cons (.sub (.sub (.var 2) (.var 3)) (.int 1)) .nil))))) .nil))) .nil) [some (.ref o), x1, some (.ref m), x3, x4, x5] h = .ok (.nx [some (.ref o), x1, some (.ref m), x3, x4, x5]) (h.set o (.obj 1 [(2, .tup (PT (lstG B)))])) := by
  have fL := FdH.e (T := T) (c := 1) (f := 2)
  have so := sorted_evG (T := T) (cl := callN T n) (e := .var 2) (s := [some (.ref o), x1, some (.ref m), x3, x4, x5]) hm (ev_var rfl) hl
  have it2 : evI T (callN T n) (.val (.blt .sorted true (.cons (.var 2) .nil))) [some (.ref o), x1, some (.ref m), x3, x4, x5] h = .ok (.free ((sortS (ksG B)).map .str)) h := by
    rw [evI, so]; rfl
  have lc := lcG (T := T) (cl := callN T n) (s0 := wipeL [some (.ref o), x1, some (.ref m), x3, x4, x5] [3]) (h := h) (t := .var 3) (e := .tup (.cons (.var 3) (.cons (.sub (.sub (.var 2) (.var 3)) (.int 0)) (.cons (.sub (.sub (.var 2) (.var 3)) (.int 1)) .nil)))) .str (fun x => qv (x, (lkG B x).getD (false, 0))) (sortS (ksG B)) fun z hz => by
    obtain ⟨v, hv⟩ := mem_ksG.mp ((sortS_perm _).mem_iff.mp hz)
    have e1 : look (KG pv B) (.inr z) = some (pv v) := by rw [look_KG, hv]; rfl
    refine ⟨_, by simp only [↓rb, ↓tw0, ↓tw1, ↓evSs, ↓evS, ↓evE, ↓evEs, ↓evI, ↓evC, ↓evO, ↓evPs, ag1, ag2, ag3, ag4, chkT, ofO, List.getElem?_cons_zero, List.getElem?_cons_succ, List.set_cons_zero, List.set_cons_succ, Bool.false_eq_true, if_false, if_true, Option.bind_some, Option.map_some, tru1, subD, setD, cmpD, cmpO, binD, bltD, asS, asL, asD, asO, keyOf, truV, cf_eq_i, cf_ne_i, cf_eq_s, cf_ne_s, cf_eq_b, cf_ne_b, cf_lt_i, cf_gt_i, cf_le_i, cf_ge_i, cf_is0, cf_isr, cf_isnot0, cf_ist, kd_dec, kd_dec2, subF, ix10, ix20, ix21, ix30, ix31, ix32, ln1, ln2, ln3, lim0, lim1, lim2, lim3, lim4, lim5, lim6, decide_true, decide_false, decide_not, Bool.not_true, Bool.not_false, Bool.true_or, Bool.or_true, Bool.false_or, Bool.or_false, not_true, not_false_eq_true, eq_self, reduceCtorEq, Bool.and_true, Bool.true_and, Bool.and_false, Bool.false_and, wipeL]; rfl, ?_⟩
    simp only [↓rb, ↓tw0, ↓tw1, ↓evSs, ↓evS, ↓evE, ↓evEs, ↓evI, ↓evC, ↓evO, ↓evPs, ag1, ag2, ag3, ag4, chkT, ofO, List.getElem?_cons_zero, List.getElem?_cons_succ, List.set_cons_zero, List.set_cons_succ, Bool.false_eq_true, if_false, if_true, Option.bind_some, Option.map_some, tru1, subD, setD, cmpD, cmpO, binD, bltD, asS, asL, asD, asO, keyOf, truV, cf_eq_i, cf_ne_i, cf_eq_s, cf_ne_s, cf_eq_b, cf_ne_b, cf_lt_i, cf_gt_i, cf_le_i, cf_ge_i, cf_is0, cf_isr, cf_isnot0, cf_ist, kd_dec, kd_dec2, subF, ix10, ix20, ix21, ix30, ix31, ix32, ln1, ln2, ln3, lim0, lim1, lim2, lim3, lim4, lim5, lim6, decide_true, decide_false, decide_not, Bool.not_true, Bool.not_false, Bool.true_or, Bool.or_true, Bool.false_or, Bool.or_false, not_true, not_false_eq_true, eq_self, reduceCtorEq, Bool.and_true, Bool.true_and, Bool.and_false, Bool.false_and, hm, e1, pv, hv, Option.getD_some, qv, chk]
  rw [map_lstG qv] at lc
  have lcE : evE T (callN T n) false (.lc true [3] (.var 3) (.val (.blt .sorted true (.cons (.var 2) .nil))) .no (.tup (.cons (.var 3) (.cons (.sub (.sub (.var 2) (.var 3)) (.int 0)) (.cons (.sub (.sub (.var 2) (.var 3)) (.int 1)) .nil))))) [some (.ref o), x1, some (.ref m), x3, x4, x5] h = .ok (.fl (PT (lstG B))) h := by
    rw [ev_lc it2 (by simp only [Walk.free, List.length_map, (sortS_perm _).length_eq]; simp [ksG, LIM]; omega) ((unlock_free rfl).trans lc)]
    rfl
  have tE : evE T (callN T n) false (.blt .tuple true (.cons (.lc true [3] (.var 3) (.val (.blt .sorted true (.cons (.var 2) .nil))) .no (.tup (.cons (.var 3) (.cons (.sub (.sub (.var 2) (.var 3)) (.int 0)) (.cons (.sub (.sub (.var 2) (.var 3)) (.int 1)) .nil))))) .nil)) [some (.ref o), x1, some (.ref m), x3, x4, x5] h = .ok (.tup (PT (lstG B))) h := by
    rw [evE, evEs, lcE]
    simp only [Res.bind, evEs, tw, Bool.false_eq_true, if_false, bltD, bltF, asL]
  exact (st_setA tE rfl ho fL (by simp)).trans (by rw [evSs]; rfl)
theorem cinit_ok (n : Nat) {h : Hv} {o : Nat} {D : List (Str × Pp)} (ho : h[o]? = some (.obj 1 [])) (nd : (ksG D).Nodup) (hl : D.length < 60) :
    ∃ h', callN T (n + 1) 5 [.ref o, .fd (KG pv D)] h = .ok .non h' ∧ h'[o]? = some (.obj 1 [(2, .tup (PT (due D)))]) ∧ Fr [o] h h' := by
  rw [c5]
  unfold b_Changeu_initu
  have hlt := lt_of ho
  have e0 : evE T (callN T n) false (.dct false .nil) [some (.ref o), some (.fd (KG pv D)), none, none, none, none] h = .ok (.ref h.length) (h ++ [.dct []]) := by
    simp [evE, evPs, tw, Res.bind, chk, mkD, mergeD]
  have isn : ∀ h, cmpF .isnot (.fd (KG pv D)) .non h = some true := fun _ => rfl
  have ec : evE T (callN T n) true (.cmp .isnot (.var 1) .non) [some (.ref o), some (.fd (KG pv D)), some (.ref h.length), none, none, none] (h ++ [.dct []]) = .ok (.bl true) (h ++ [.dct []]) := by
    simp only [↓rb, ↓tw0, ↓tw1, ↓evSs, ↓evS, ↓evE, ↓evEs, ↓evI, ↓evC, ↓evO, ↓evPs, ag1, ag2, ag3, ag4, chkT, ofO, List.getElem?_cons_zero, List.getElem?_cons_succ, List.set_cons_zero, List.set_cons_succ, Bool.false_eq_true, if_false, if_true, Option.bind_some, Option.map_some, tru1, subD, setD, cmpD, cmpO, binD, bltD, asS, asL, asD, asO, keyOf, truV, cf_eq_i, cf_ne_i, cf_eq_s, cf_ne_s, cf_eq_b, cf_ne_b, cf_lt_i, cf_gt_i, cf_le_i, cf_ge_i, cf_is0, cf_isr, cf_isnot0, cf_ist, kd_dec, kd_dec2, subF, ix10, ix20, ix21, ix30, ix31, ix32, ln1, ln2, ln3, lim0, lim1, lim2, lim3, lim4, lim5, lim6, decide_true, decide_false, decide_not, Bool.not_true, Bool.not_false, Bool.true_or, Bool.or_true, Bool.false_or, Bool.or_false, not_true, not_false_eq_true, eq_self, reduceCtorEq, Bool.and_true, Bool.true_and, Bool.and_false, Bool.false_and, isn]
  have it : evI T (callN T n) (.val (.var 1)) [some (.ref o), some (.fd (KG pv D)), some (.ref h.length), none, none, none] (h ++ [.dct []]) = .ok (.free ((ksG D).map .str)) (h ++ [.dct []]) := it_fdG (ev_var rfl)
  obtain ⟨s', h', e1, x3, x4, x5, D1, D2, rfl, rfl, eD, er⟩ := forR_run (src := .free) (t := .var 3) (body := evSs T (callN T n) cib)
    (fun r s h4 => ∃ (x3 x4 x5 : Option Vl) (D1 D2 : List (Str × Pp)), s = [some (.ref o), some (.fd (KG pv D)), some (.ref h.length), x3, x4, x5] ∧ h4 = h ++ [.dct (KG pv (D1.filter fun q => act q.2))] ∧ D = D1 ++ D2 ∧ r = (ksG D2).map .str)
    (fun _ _ _ _ => trivial) (fun v r s h4 ⟨x3, x4, x5, D1, D2, es, eh, eD, er⟩ => by
      subst es eh
      cases D2 with
      | nil => cases er
      | cons q D2 =>
        obtain ⟨rfl, rfl⟩ := List.cons.inj er
        obtain ⟨x, b, k⟩ := q
        have hmem : (x, (b, k)) ∈ D := by rw [eD]; simp
        have e1 : look (KG pv D) (.inr x) = some (pv (b, k)) := by rw [look_KG, (lkG_iff nd).mpr hmem]; rfl
        have hm : (h ++ [Cell.dct (KG pv (D1.filter fun q => act q.2))])[h.length]? = some (.dct (KG pv (D1.filter fun q => act q.2))) := get_last
        have ll : (KG pv (D1.filter fun q => act q.2)).length < LIM := by
          have h1 := List.length_filter_le (fun q : Str × Pp => act q.2) D1
          have h2 : D.length = D1.length + (D2.length + 1) := by rw [eD]; simp
          simp [KG, LIM]; omega
        have nx : x ∉ ksG (D1.filter fun q => act q.2) := fun w => by
          have w2 := (ksG_filter D1 act).subset w
          rw [eD] at nd
          unfold ksG at nd w2
          rw [List.map_append, List.nodup_append] at nd
          exact nd.2.2 x w2 x (by simp) rfl
        have pp : put (KG pv (D1.filter fun q => act q.2)) (.inr x) (.tup [.str (kd b), .int k]) = KG pv (D1.filter (fun q => act q.2) ++ [(x, (b, k))]) := by
          have := put_KG pv (D1.filter fun q => act q.2) x (b, k)
          rw [ptG_new nx] at this
          exact this
        have ez : (D1 ++ [(x, (b, k))]).filter (fun q => act q.2) = if act (b, k) then D1.filter (fun q => act q.2) ++ [(x, (b, k))] else D1.filter fun q => act q.2 := by
          cases ha : act (b, k) <;> simp [ha]
        have fin : ∀ (r : Res Fl), r = .ok (.nx [some (.ref o), some (.fd (KG pv D)), some (.ref h.length), some (.str x), some (.str (kd b)), some (.int k)]) (h ++ [.dct (KG pv ((D1 ++ [(x, (b, k))]).filter fun q => act q.2))]) → ∃ s1 s2 h2, asgT (.var 3) (.str x) [some (.ref o), some (.fd (KG pv D)), some (.ref h.length), x3, x4, x5] = some s1 ∧ (r = .ok (.nx s2) h2 ∨ r = .ok (.ct s2) h2) ∧ ∃ (x3 x4 x5 : Option Vl) (E1 E2 : List (Str × Pp)), s2 = [some (.ref o), some (.fd (KG pv D)), some (.ref h.length), x3, x4, x5] ∧ h2 = h ++ [.dct (KG pv (E1.filter fun q => act q.2))] ∧ D = E1 ++ E2 ∧ (ksG D2).map Vl.str = (ksG E2).map .str := fun r e => ⟨_, _, _, rfl, .inl e, _, _, _, D1 ++ [(x, (b, k))], D2, rfl, rfl, by rw [eD]; simp, rfl⟩
        have main : ∀ F : List (Str × Pp), (KG pv F).length < LIM → put (KG pv F) (.inr x) (.tup [.str (kd b), .int k]) = KG pv (F ++ [(x, (b, k))]) → evSs T (callN T n) cib [some (.ref o), some (.fd (KG pv D)), some (.ref h.length), some (.str x), x4, x5] (h ++ [.dct (KG pv F)]) = .ok (.nx [some (.ref o), some (.fd (KG pv D)), some (.ref h.length), some (.str x), some (.str (kd b)), some (.int k)]) (h ++ [.dct (KG pv (if act (b, k) then F ++ [(x, (b, k))] else F))]) := fun F ll pp => by
          have hm : (h ++ [Cell.dct (KG pv F)])[h.length]? = some (.dct (KG pv F)) := get_last
          cases b with
          | true => simp only [↓rb, ↓tw0, ↓tw1, ↓evSs, ↓evS, ↓evE, ↓evEs, ↓evI, ↓evC, ↓evO, ↓evPs, ag1, ag2, ag3, ag4, chkT, ofO, List.getElem?_cons_zero, List.getElem?_cons_succ, List.set_cons_zero, List.set_cons_succ, Bool.false_eq_true, if_false, if_true, Option.bind_some, Option.map_some, tru1, subD, setD, cmpD, cmpO, binD, bltD, asS, asL, asD, asO, keyOf, truV, cf_eq_i, cf_ne_i, cf_eq_s, cf_ne_s, cf_eq_b, cf_ne_b, cf_lt_i, cf_gt_i, cf_le_i, cf_ge_i, cf_is0, cf_isr, cf_isnot0, cf_ist, kd_dec, kd_dec2, subF, ix10, ix20, ix21, ix30, ix31, ix32, ln1, ln2, ln3, lim0, lim1, lim2, lim3, lim4, lim5, lim6, decide_true, decide_false, decide_not, Bool.not_true, Bool.not_false, Bool.true_or, Bool.or_true, Bool.false_or, Bool.or_false, not_true, not_false_eq_true, eq_self, reduceCtorEq, Bool.and_true, Bool.true_and, Bool.and_false, Bool.false_and, e1, pv, hm, pp, chk, ll, set_last, act]
          | false =>
            by_cases hk : k = 0
            · subst hk; simp only [↓rb, ↓tw0, ↓tw1, ↓evSs, ↓evS, ↓evE, ↓evEs, ↓evI, ↓evC, ↓evO, ↓evPs, ag1, ag2, ag3, ag4, chkT, ofO, List.getElem?_cons_zero, List.getElem?_cons_succ, List.set_cons_zero, List.set_cons_succ, Bool.false_eq_true, if_false, if_true, Option.bind_some, Option.map_some, tru1, subD, setD, cmpD, cmpO, binD, bltD, asS, asL, asD, asO, keyOf, truV, cf_eq_i, cf_ne_i, cf_eq_s, cf_ne_s, cf_eq_b, cf_ne_b, cf_lt_i, cf_gt_i, cf_le_i, cf_ge_i, cf_is0, cf_isr, cf_isnot0, cf_ist, kd_dec, kd_dec2, subF, ix10, ix20, ix21, ix30, ix31, ix32, ln1, ln2, ln3, lim0, lim1, lim2, lim3, lim4, lim5, lim6, decide_true, decide_false, decide_not, Bool.not_true, Bool.not_false, Bool.true_or, Bool.or_true, Bool.false_or, Bool.or_false, not_true, not_false_eq_true, eq_self, reduceCtorEq, Bool.and_true, Bool.true_and, Bool.and_false, Bool.false_and, e1, pv, hm, pp, chk, ll, set_last, act, ne_eq]
            · simp only [↓rb, ↓tw0, ↓tw1, ↓evSs, ↓evS, ↓evE, ↓evEs, ↓evI, ↓evC, ↓evO, ↓evPs, ag1, ag2, ag3, ag4, chkT, ofO, List.getElem?_cons_zero, List.getElem?_cons_succ, List.set_cons_zero, List.set_cons_succ, Bool.false_eq_true, if_false, if_true, Option.bind_some, Option.map_some, tru1, subD, setD, cmpD, cmpO, binD, bltD, asS, asL, asD, asO, keyOf, truV, cf_eq_i, cf_ne_i, cf_eq_s, cf_ne_s, cf_eq_b, cf_ne_b, cf_lt_i, cf_gt_i, cf_le_i, cf_ge_i, cf_is0, cf_isr, cf_isnot0, cf_ist, kd_dec, kd_dec2, subF, ix10, ix20, ix21, ix30, ix31, ix32, ln1, ln2, ln3, lim0, lim1, lim2, lim3, lim4, lim5, lim6, decide_true, decide_false, decide_not, Bool.not_true, Bool.not_false, Bool.true_or, Bool.or_true, Bool.false_or, Bool.or_false, not_true, not_false_eq_true, eq_self, reduceCtorEq, Bool.and_true, Bool.true_and, Bool.and_false, Bool.false_and, e1, pv, hm, pp, chk, ll, set_last, act, hk, ne_eq]
        have main := main _ ll pp
        rw [← ez] at main
        obtain ⟨s1, s2, h2, q1, q2, q3⟩ := fin _ main
        refine ⟨_, s2, h2, rfl, ?_, q3⟩
        exact q2) ((ksG D).map .str) [some (.ref o), some (.fd (KG pv D)), some (.ref h.length), none, none, none] (h ++ [.dct []]) ⟨_, _, _, [], D, rfl, rfl, rfl, rfl⟩
  have hD2 : D2 = [] := by cases D2 with
    | nil => rfl
    | cons q D2 => cases er
  subst hD2
  rw [List.append_nil] at eD
  subst eD
  have s1 : evSs T (callN T n) (.cons (.for_ (.var 3) (.val (.var 1)) cib) .nil) [some (.ref o), some (.fd (KG pv D)), some (.ref h.length), none, none, none] (h ++ [.dct []]) = .ok (.nx [some (.ref o), some (.fd (KG pv D)), some (.ref h.length), x3, x4, x5]) (h ++ [.dct (KG pv (D.filter fun q => act q.2))]) := (st_for it ((unlock_free rfl).trans e1)).trans (by rw [evSs])
  have tl := ctail_ok T n (h := h ++ [.dct (KG pv (D.filter fun q => act q.2))]) (x1 := some (.fd (KG pv D))) (x3 := x3) (x4 := x4) (x5 := x5) (get_app ho) get_last (ndG_filter nd act) (Nat.lt_of_le_of_lt (List.length_filter_le _ _) hl)
  refine ⟨_, (congrArg retOf ((st_set e0).trans ((st_ifT ec s1).trans tl))).trans rfl, by rw [List.getElem?_set_self (by simp; omega)]; rfl, (fr_app _ _ _).trans (fr_set (by simp))⟩
theorem mkC_fd (n : Nat) {s : Lo} {h : Hv} {e : CE} {D : List (Str × Pp)} (he : evE T (callN T (n + 1)) false e s h = .ok (.fd (KG pv D)) h) (nd : (ksG D).Nodup) (hl : D.length < 60) :
    evE T (callN T (n + 1)) false (.frz (.mk 1 (.cons e .nil))) s h = .ok (chv (due D)) h := by
  obtain ⟨h', e1, e2, e3⟩ := cinit_ok T n (h := h ++ [.obj 1 []]) (o := h.length) get_last nd hl
  exact frz_mk1 (SpH.e (T := T) (c := 1) (m := .init)) he (.refl _ _) e1 e2 e3 (pu_chF _)
end
section
variable (T : Tab) [D6 T] [FdH T 1 2] [MtH T 1 1 6]
theorem parts_ok (n : Nat) (L : List (Str × Pp)) (h : Hv) : callN T (n + 1) 6 [chv L] h = .ok (.fl (PT L)) h := by
  have fL := FdH.e (T := T) (c := 1) (f := 2)
  rw [c6]
  refine Eq.trans (congrArg (finR 2 h) ?_) (fin2_0 (pu_fl pu_qv _))
  unfold b_Change_parts
  simp only [↓rb, ↓tw0, ↓tw1, ↓evSs, ↓evS, ↓evE, ↓evEs, ↓evI, ↓evC, ↓evO, ↓evPs, ag1, ag2, ag3, ag4, chkT, ofO, List.getElem?_cons_zero, List.getElem?_cons_succ, List.set_cons_zero, List.set_cons_succ, Bool.false_eq_true, if_false, if_true, Option.bind_some, Option.map_some, tru1, subD, setD, cmpD, cmpO, binD, bltD, asS, asL, asD, asO, keyOf, truV, cf_eq_i, cf_ne_i, cf_eq_s, cf_ne_s, cf_eq_b, cf_ne_b, cf_lt_i, cf_gt_i, cf_le_i, cf_ge_i, cf_is0, cf_isr, cf_isnot0, cf_ist, kd_dec, kd_dec2, subF, ix10, ix20, ix21, ix30, ix31, ix32, ln1, ln2, ln3, lim0, lim1, lim2, lim3, lim4, lim5, lim6, decide_true, decide_false, decide_not, Bool.not_true, Bool.not_false, Bool.true_or, Bool.or_true, Bool.false_or, Bool.or_false, not_true, not_false_eq_true, eq_self, reduceCtorEq, Bool.and_true, Bool.true_and, Bool.and_false, Bool.false_and, chv, fL, luc, bltF, mkL, retOf, PT]
theorem ev_parts (n : Nat) {s : Lo} {h h1 : Hv} {e : CE} {L : List (Str × Pp)} (he : evE T (callN T (n + 1)) false e s h = .ok (chv L) h1) : evE T (callN T (n + 1)) false (.meth e 1 .nil) s h = .ok (.fl (PT L)) h1 := by
  have m := MtH.e (T := T) (c := 1) (m := 1)
  rw [evE, he]
  simp only [rb, tw0, asO, chv, m, evEs]
  exact parts_ok T n L h1
end
end K01
end

section
set_option Elab.async false
set_option linter.all false
set_option maxRecDepth 100000
set_option maxHeartbeats 4000000
set_option autoImplicit false
/-! CL2: changes are made. -/
namespace K01
open PySem L2 Core
/-- an integer behind a part -/
def ap (v : Int) (p : Pp) : Int := if p.1 then p.2 else v + p.2
def chD (E : List (Str × Int)) (L : List (Str × Pp)) : List (Str × Int) := L.foldl (fun A q => ptG A q.1 (ap ((lkG A q.1).getD 0) q.2)) E
theorem nd_chD : ∀ {L : List (Str × Pp)} {E : List (Str × Int)}, (ksG E).Nodup → (ksG (chD E L)).Nodup
  | [], E, nd => nd
  | q :: L, E, nd => nd_chD (L := L) (ndG_ptG nd q.1 _)
theorem lk_chD : ∀ {L : List (Str × Pp)} {E : List (Str × Int)}, (ksG L).Nodup → ∀ x, lkG (chD E L) x = match lkG L x with
    | none => lkG E x
    | some p => some (ap ((lkG E x).getD 0) p)
  | [], E, nd, x => rfl
  | q :: L, E, nd, x => by
    unfold ksG at nd
    rw [List.map_cons, List.nodup_cons] at nd
    show lkG (chD (ptG E q.1 (ap ((lkG E q.1).getD 0) q.2)) L) x = _
    rw [lk_chD (L := L) nd.2 x, lkG_cons, lkG_ptG]
    by_cases c : q.1 = x
    · subst c
      rw [lkG_none.mp nd.1]
      simp
    · rw [if_neg c, if_neg (Ne.symm c)]
theorem len_chD : ∀ {L : List (Str × Pp)} {E : List (Str × Int)}, (chD E L).length ≤ E.length + L.length
  | [], E => by simp [chD]
  | q :: L, E => by
    have h1 := len_chD (L := L) (E := ptG E q.1 (ap ((lkG E q.1).getD 0) q.2))
    have h2 := lenG_ptG E q.1 (ap ((lkG E q.1).getD 0) q.2)
    show (chD (ptG E q.1 (ap ((lkG E q.1).getD 0) q.2)) L).length ≤ _
    simp only [List.length_cons]
    omega
theorem ks_chD : ∀ {L : List (Str × Pp)} {E : List (Str × Int)} {x : Str}, x ∈ ksG (chD E L) → x ∈ ksG E ∨ x ∈ ksG L
  | [], E, x, h => .inl h
  | q :: L, E, x, h => by
    rcases ks_chD (L := L) (E := ptG E q.1 (ap ((lkG E q.1).getD 0) q.2)) h with h | h
    · rw [ksG_ptG] at h
      split at h
      · exact .inl h
      · rcases List.mem_append.mp h with h | h
        · exact .inl h
        · rw [List.mem_singleton] at h; subst h; exact .inr (by simp [ksG])
    · exact .inr (List.mem_cons_of_mem _ h)
theorem pairs_PI : ∀ L : List (Str × Int), pairs? (L.map fun q => Vl.tup [.str q.1, .int q.2]) = some (KG Vl.int L)
  | [] => rfl
  | q :: L => by
    show (match keyOf (.str q.1), pairs? (L.map fun q => Vl.tup [.str q.1, .int q.2]) with
      | some k, some r => some ((k, Vl.int q.2) :: r)
      | _, _ => none) = _
    rw [pairs_PI L]
    rfl
section
variable (T : Tab) [D2 T]
theorem changed_ok (n : Nat) (h : Hv) {E : List (Str × Int)} {L : List (Str × Pp)} (nd : (ksG E).Nodup) (l1 : E.length < 25) (l2 : L.length < 25) :
    callN T (n + 1) 2 [.fd (KG .int E), .tup (PT L)] h = .ok (.fd (KG .int (chD E L))) h := by
  rw [c2]
  unfold b_changed
  have lc := lcG (T := T) (cl := callN T n) (h := h) (s0 := wipeL [some (.fd (KG .int E)), some (.tup (PT L)), none, none, none, none] [3]) (t := .var 3) (e := .tup (.cons (.var 3) (.cons (.sub (.var 0) (.var 3)) .nil))) (fun q : Str × Int => .str q.1) (fun q => .tup [.str q.1, .int q.2]) E fun q hq => by
    obtain ⟨x, i⟩ := q
    have e1 : look (KG Vl.int E) (.inr x) = some (.int i) := by rw [look_KG, (lkG_iff nd).mpr hq]; rfl
    refine ⟨_, by simp only [↓rb, ↓tw0, ↓tw1, ↓evSs, ↓evS, ↓evE, ↓evEs, ↓evI, ↓evC, ↓evO, ↓evPs, ag1, ag2, ag3, ag4, chkT, ofO, List.getElem?_cons_zero, List.getElem?_cons_succ, List.set_cons_zero, List.set_cons_succ, Bool.false_eq_true, if_false, if_true, Option.bind_some, Option.map_some, tru1, subD, setD, cmpD, cmpO, binD, bltD, asS, asL, asD, asO, keyOf, truV, cf_eq_i, cf_ne_i, cf_eq_s, cf_ne_s, cf_eq_b, cf_ne_b, cf_lt_i, cf_gt_i, cf_le_i, cf_ge_i, cf_is0, cf_isr, cf_isnot0, cf_ist, kd_dec, kd_dec2, subF, ix10, ix20, ix21, ix30, ix31, ix32, ln1, ln2, ln3, lim0, lim1, lim2, lim3, lim4, lim5, lim6, decide_true, decide_false, decide_not, Bool.not_true, Bool.not_false, Bool.true_or, Bool.or_true, Bool.false_or, Bool.or_false, not_true, not_false_eq_true, eq_self, reduceCtorEq, Bool.and_true, Bool.true_and, Bool.and_false, Bool.false_and, wipeL]; rfl, ?_⟩
    simp only [↓rb, ↓tw0, ↓tw1, ↓evSs, ↓evS, ↓evE, ↓evEs, ↓evI, ↓evC, ↓evO, ↓evPs, ag1, ag2, ag3, ag4, chkT, ofO, List.getElem?_cons_zero, List.getElem?_cons_succ, List.set_cons_zero, List.set_cons_succ, Bool.false_eq_true, if_false, if_true, Option.bind_some, Option.map_some, tru1, subD, setD, cmpD, cmpO, binD, bltD, asS, asL, asD, asO, keyOf, truV, cf_eq_i, cf_ne_i, cf_eq_s, cf_ne_s, cf_eq_b, cf_ne_b, cf_lt_i, cf_gt_i, cf_le_i, cf_ge_i, cf_is0, cf_isr, cf_isnot0, cf_ist, kd_dec, kd_dec2, subF, ix10, ix20, ix21, ix30, ix31, ix32, ln1, ln2, ln3, lim0, lim1, lim2, lim3, lim4, lim5, lim6, decide_true, decide_false, decide_not, Bool.not_true, Bool.not_false, Bool.true_or, Bool.or_true, Bool.false_or, Bool.or_false, not_true, not_false_eq_true, eq_self, reduceCtorEq, Bool.and_true, Bool.true_and, Bool.and_false, Bool.false_and, e1, chk]
  have it0 : evI T (callN T n) (.val (.var 0)) [some (.fd (KG .int E)), some (.tup (PT L)), none, none, none, none] h = .ok (.free (E.map fun q => .str q.1)) h := by
    rw [it_fdG (ev_var rfl)]
    simp [ksG, Function.comp_def]
  have e0 : evE T (callN T n) false (.lc true [3] (.var 3) (.val (.var 0)) .no (.tup (.cons (.var 3) (.cons (.sub (.var 0) (.var 3)) .nil)))) [some (.fd (KG .int E)), some (.tup (PT L)), none, none, none, none] h = .ok (.fl (E.map fun q => .tup [.str q.1, .int q.2])) h := by
    rw [ev_lc it0 (by simp [Walk.free, LIM]; omega) ((unlock_free rfl).trans lc)]
    rfl
  have mg : mergeD [] (KG Vl.int E) = KG .int E := by
    have := merge_KG Vl.int E []
    rw [fold_new E [] (by simpa using nd)] at this
    exact this
  have lE : (KG Vl.int E).length ≤ LIM := by simp [KG, LIM]; omega
  have e1 : evE T (callN T n) false (.blt .dict false (.cons (.lc true [3] (.var 3) (.val (.var 0)) .no (.tup (.cons (.var 3) (.cons (.sub (.var 0) (.var 3)) .nil)))) .nil)) [some (.fd (KG .int E)), some (.tup (PT L)), none, none, none, none] h = .ok (.ref h.length) (h ++ [.dct (KG .int E)]) := by
    rw [evE, evEs, e0]
    simp only [rb, evEs, tw0, bltD, bltF, asD, asL, asO, Option.bind_some, pairs_PI, mg, chk, lE, if_true, mkD]
    rfl
  have it : evI T (callN T n) (.val (.var 1)) [some (.fd (KG .int E)), some (.tup (PT L)), some (.ref h.length), none, none, none] (h ++ [.dct (KG .int E)]) = .ok (.free (PT L)) (h ++ [.dct (KG .int E)]) := by
    simp only [↓rb, ↓tw0, ↓tw1, ↓evSs, ↓evS, ↓evE, ↓evEs, ↓evI, ↓evC, ↓evO, ↓evPs, ag1, ag2, ag3, ag4, chkT, ofO, List.getElem?_cons_zero, List.getElem?_cons_succ, List.set_cons_zero, List.set_cons_succ, Bool.false_eq_true, if_false, if_true, Option.bind_some, Option.map_some, tru1, subD, setD, cmpD, cmpO, binD, bltD, asS, asL, asD, asO, keyOf, truV, cf_eq_i, cf_ne_i, cf_eq_s, cf_ne_s, cf_eq_b, cf_ne_b, cf_lt_i, cf_gt_i, cf_le_i, cf_ge_i, cf_is0, cf_isr, cf_isnot0, cf_ist, kd_dec, kd_dec2, subF, ix10, ix20, ix21, ix30, ix31, ix32, ln1, ln2, ln3, lim0, lim1, lim2, lim3, lim4, lim5, lim6, decide_true, decide_false, decide_not, Bool.not_true, Bool.not_false, Bool.true_or, Bool.or_true, Bool.false_or, Bool.or_false, not_true, not_false_eq_true, eq_self, reduceCtorEq, Bool.and_true, Bool.true_and, Bool.and_false, Bool.false_and, itD]
  obtain ⟨s', h', e2, E1, E2, x3, x4, x5, eE, er, rfl, rfl⟩ := forR_run (src := .free) (t := .tup (.cons (.var 3) (.cons (.var 4) (.cons (.var 5) .nil)))) (body := evSs T (callN T n) (.cons (.ife (.cmp .eq (.var 4) (.str "add")) (.cons (.setI (.var 2) (.var 3) (.bin .add true (.bm .get true (.var 2) (.cons (.var 3) (.cons (.int 0) .nil))) (.var 5))) .nil) (.cons (.setI (.var 2) (.var 3) (.var 5)) .nil)) .nil))
    (fun r s h4 => ∃ (E1 E2 : List (Str × Pp)) (x3 x4 x5 : Option Vl), L = E1 ++ E2 ∧ r = PT E2 ∧ s = [some (.fd (KG .int E)), some (.tup (PT L)), some (.ref h.length), x3, x4, x5] ∧ h4 = h ++ [.dct (KG Vl.int (chD E E1))])
    (fun _ _ _ _ => trivial) (fun v r s h4 ⟨E1, E2, x3, x4, x5, eE, er, es, eh⟩ => by
      subst es eh
      cases E2 with
      | nil => cases er
      | cons p E2 =>
        obtain ⟨x, bk, k⟩ := p
        obtain ⟨rfl, rfl⟩ := List.cons.inj er
        have hl : (chD E E1).length < 60 := by
          have h1 := len_chD (L := E1) (E := E)
          have h2 := congrArg List.length eE
          simp at h2
          omega
        have hl2 : (KG Vl.int (chD E E1)).length < LIM := by simp [KG, LIM]; omega
        have hq : (h ++ [Cell.dct (KG Vl.int (chD E E1))])[h.length]? = some (.dct (KG Vl.int (chD E E1))) := get_last
        have hg : (look (KG Vl.int (chD E E1)) (.inr x)).getD (.int 0) = .int ((lkG (chD E E1) x).getD 0) := by
          rw [look_KG]
          cases lkG (chD E E1) x <;> rfl
        refine ⟨[some (.fd (KG .int E)), some (.tup (PT L)), some (.ref h.length), some (.str x), some (.str (kd bk)), some (.int k)], [some (.fd (KG .int E)), some (.tup (PT L)), some (.ref h.length), some (.str x), some (.str (kd bk)), some (.int k)], h ++ [Cell.dct (KG Vl.int (ptG (chD E E1) x (ap ((lkG (chD E E1) x).getD 0) (bk, k))))], by simp only [↓rb, ↓tw0, ↓tw1, ↓evSs, ↓evS, ↓evE, ↓evEs, ↓evI, ↓evC, ↓evO, ↓evPs, ag1, ag2, ag3, ag4, chkT, ofO, List.getElem?_cons_zero, List.getElem?_cons_succ, List.set_cons_zero, List.set_cons_succ, Bool.false_eq_true, if_false, if_true, Option.bind_some, Option.map_some, tru1, subD, setD, cmpD, cmpO, binD, bltD, asS, asL, asD, asO, keyOf, truV, cf_eq_i, cf_ne_i, cf_eq_s, cf_ne_s, cf_eq_b, cf_ne_b, cf_lt_i, cf_gt_i, cf_le_i, cf_ge_i, cf_is0, cf_isr, cf_isnot0, cf_ist, kd_dec, kd_dec2, subF, ix10, ix20, ix21, ix30, ix31, ix32, ln1, ln2, ln3, lim0, lim1, lim2, lim3, lim4, lim5, lim6, decide_true, decide_false, decide_not, Bool.not_true, Bool.not_false, Bool.true_or, Bool.or_true, Bool.false_or, Bool.or_false, not_true, not_false_eq_true, eq_self, reduceCtorEq, Bool.and_true, Bool.true_and, Bool.and_false, Bool.false_and, qv], .inl ?_, E1 ++ [(x, (bk, k))], E2, _, _, _, by rw [eE]; simp, rfl, rfl, by simp [chD]⟩
        cases bk
        · have ea : (lkG (chD E E1) x).getD 0 + k = ap ((lkG (chD E E1) x).getD 0) (false, k) := by simp [ap]
          simp only [↓rb, ↓tw0, ↓tw1, ↓evSs, ↓evS, ↓evE, ↓evEs, ↓evI, ↓evC, ↓evO, ↓evPs, ag1, ag2, ag3, ag4, chkT, ofO, List.getElem?_cons_zero, List.getElem?_cons_succ, List.set_cons_zero, List.set_cons_succ, Bool.false_eq_true, if_false, if_true, Option.bind_some, Option.map_some, tru1, subD, setD, cmpD, cmpO, binD, bltD, asS, asL, asD, asO, keyOf, truV, cf_eq_i, cf_ne_i, cf_eq_s, cf_ne_s, cf_eq_b, cf_ne_b, cf_lt_i, cf_gt_i, cf_le_i, cf_ge_i, cf_is0, cf_isr, cf_isnot0, cf_ist, kd_dec, kd_dec2, subF, ix10, ix20, ix21, ix30, ix31, ix32, ln1, ln2, ln3, lim0, lim1, lim2, lim3, lim4, lim5, lim6, decide_true, decide_false, decide_not, Bool.not_true, Bool.not_false, Bool.true_or, Bool.or_true, Bool.false_or, Bool.or_false, not_true, not_false_eq_true, eq_self, reduceCtorEq, Bool.and_true, Bool.true_and, Bool.and_false, Bool.false_and, bmK, hq, Option.isSome_some, bmF, getF, hg, put_KG, chk, hl2, set_last, binF, ea]
        · have ea : k = ap ((lkG (chD E E1) x).getD 0) (true, k) := by simp [ap]
          simp only [↓rb, ↓tw0, ↓tw1, ↓evSs, ↓evS, ↓evE, ↓evEs, ↓evI, ↓evC, ↓evO, ↓evPs, ag1, ag2, ag3, ag4, chkT, ofO, List.getElem?_cons_zero, List.getElem?_cons_succ, List.set_cons_zero, List.set_cons_succ, Bool.false_eq_true, if_false, if_true, Option.bind_some, Option.map_some, tru1, subD, setD, cmpD, cmpO, binD, bltD, asS, asL, asD, asO, keyOf, truV, cf_eq_i, cf_ne_i, cf_eq_s, cf_ne_s, cf_eq_b, cf_ne_b, cf_lt_i, cf_gt_i, cf_le_i, cf_ge_i, cf_is0, cf_isr, cf_isnot0, cf_ist, kd_dec, kd_dec2, subF, ix10, ix20, ix21, ix30, ix31, ix32, ln1, ln2, ln3, lim0, lim1, lim2, lim3, lim4, lim5, lim6, decide_true, decide_false, decide_not, Bool.not_true, Bool.not_false, Bool.true_or, Bool.or_true, Bool.false_or, Bool.or_false, not_true, not_false_eq_true, eq_self, reduceCtorEq, Bool.and_true, Bool.true_and, Bool.and_false, Bool.false_and, hq, put_KG, chk, hl2, set_last, ap]) (PT L) [some (.fd (KG .int E)), some (.tup (PT L)), some (.ref h.length), none, none, none] (h ++ [.dct (KG .int E)]) ⟨[], L, _, _, _, rfl, rfl, rfl, rfl⟩
  have eE2 : E2 = [] := by
    cases E2 with
    | nil => rfl
    | cons p D2 => cases er
  subst eE2
  rw [List.append_nil] at eE
  subst eE
  refine (congrArg (fun r => finR 2 h (retOf r)) ((st_set e1).trans ((st_for it ((unlock_free rfl).trans e2)).trans (st_ret (ev_var (x := 2) rfl))))).trans ?_
  exact fin2_d (fr_app _ _ _) get_last (Nat.le_refl _) (pu_KG (fun _ => rfl) _)
end
section
variable (T : Tab) [D0 T] [D1 T] [D2 T] [D3 T] [D10 T] [D11 T] [FdH T 0 0] [FdH T 0 1] [FdH T 1 2] [SpH T 0 .init 11] [SpH T 1 .call 10]
theorem ccall_ok (n : Nat) (h : Hv) {Z : List (Str × Int)} {L : List (Str × Pp)} (nd : (ksG Z).Nodup) (g : ∀ x ∈ ksG Z, Gd x) (gl : ∀ x ∈ ksG L, Gd x) (l1 : Z.length < 25) (l2 : L.length < 25) :
    callN T (n + 4) 10 [chv L, ntv Z] h = .ok (ntv (zer (chD Z L))) h := by
  have fH := FdH.e (T := T) (c := 0) (f := 1)
  have fL := FdH.e (T := T) (c := 1) (f := 2)
  rw [c10]
  unfold b_Changeu_callu
  have ch := changed_ok T (n + 2) h nd l1 l2
  have e1 : evE T (callN T (n + 3)) false (.call 2 (.cons (.attr (.var 1) 1) (.cons (.attr (.var 0) 2) .nil))) [some (chv L), some (ntv Z)] h = .ok (.fd (KG .int (chD Z L))) h := by
    refine (ev_call2 (v := .fd (KG .int Z)) (u := .tup (PT L)) (h1 := h) (h2 := h) ?_ ?_).trans ch
    · simp only [↓rb, ↓tw0, ↓tw1, ↓evSs, ↓evS, ↓evE, ↓evEs, ↓evI, ↓evC, ↓evO, ↓evPs, ag1, ag2, ag3, ag4, chkT, ofO, List.getElem?_cons_zero, List.getElem?_cons_succ, List.set_cons_zero, List.set_cons_succ, Bool.false_eq_true, if_false, if_true, Option.bind_some, Option.map_some, tru1, subD, setD, cmpD, cmpO, binD, bltD, asS, asL, asD, asO, keyOf, truV, cf_eq_i, cf_ne_i, cf_eq_s, cf_ne_s, cf_eq_b, cf_ne_b, cf_lt_i, cf_gt_i, cf_le_i, cf_ge_i, cf_is0, cf_isr, cf_isnot0, cf_ist, kd_dec, kd_dec2, subF, ix10, ix20, ix21, ix30, ix31, ix32, ln1, ln2, ln3, lim0, lim1, lim2, lim3, lim4, lim5, lim6, decide_true, decide_false, decide_not, Bool.not_true, Bool.not_false, Bool.true_or, Bool.or_true, Bool.false_or, Bool.or_false, not_true, not_false_eq_true, eq_self, reduceCtorEq, Bool.and_true, Bool.true_and, Bool.and_false, Bool.false_and, ntv, fH, lu1]
    · simp only [↓rb, ↓tw0, ↓tw1, ↓evSs, ↓evS, ↓evE, ↓evEs, ↓evI, ↓evC, ↓evO, ↓evPs, ag1, ag2, ag3, ag4, chkT, ofO, List.getElem?_cons_zero, List.getElem?_cons_succ, List.set_cons_zero, List.set_cons_succ, Bool.false_eq_true, if_false, if_true, Option.bind_some, Option.map_some, tru1, subD, setD, cmpD, cmpO, binD, bltD, asS, asL, asD, asO, keyOf, truV, cf_eq_i, cf_ne_i, cf_eq_s, cf_ne_s, cf_eq_b, cf_ne_b, cf_lt_i, cf_gt_i, cf_le_i, cf_ge_i, cf_is0, cf_isr, cf_isnot0, cf_ist, kd_dec, kd_dec2, subF, ix10, ix20, ix21, ix30, ix31, ix32, ln1, ln2, ln3, lim0, lim1, lim2, lim3, lim4, lim5, lim6, decide_true, decide_false, decide_not, Bool.not_true, Bool.not_false, Bool.true_or, Bool.or_true, Bool.false_or, Bool.or_false, not_true, not_false_eq_true, eq_self, reduceCtorEq, Bool.and_true, Bool.true_and, Bool.and_false, Bool.false_and, chv, fL, luc]
  have len := len_chD (L := L) (E := Z)
  have mk := mkN_fd T n e1 (nd_chD nd) (fun x hx => (ks_chD hx).elim (g x) (gl x)) (by omega)
  exact (congrArg (fun r => finR 2 h (retOf r)) (st_ret mk)).trans (fin2_0 (pu_ntv _))
theorem ev_ocall (n : Nat) {s : Lo} {h h1 h2 : Hv} {e f : CE} {Z : List (Str × Int)} {L : List (Str × Pp)} (he : evE T (callN T (n + 4)) false e s h = .ok (chv L) h1) (hf : evE T (callN T (n + 4)) false f s h1 = .ok (ntv Z) h2) (nd : (ksG Z).Nodup) (g : ∀ x ∈ ksG Z, Gd x) (gl : ∀ x ∈ ksG L, Gd x) (l1 : Z.length < 25) (l2 : L.length < 25) :
    evE T (callN T (n + 4)) false (.ocall e (.cons f .nil)) s h = .ok (ntv (zer (chD Z L))) h2 := by
  have sp := SpH.e (T := T) (c := 1) (m := .call)
  rw [evE, he]
  simp only [rb, tw0, asO, chv, evEs, hf, spC, sp]
  exact ccall_ok T n h2 nd g gl l1 l2
end
section
variable (T : Tab) [D8 T] [FdH T 1 2] [SpH T 1 (.cmp .eq) 8] [ClH T 1]
theorem eq_qv (a b : Str × Pp) (h : Hv) (m : Nat) : Core.eqF (m + 2) h (qv a) (qv b) = some (decide (a = b)) := by
  rw [Core.eqF]
  show allEqT (Core.eqF (m + 1) h) [.str a.1, .str (kd a.2.1), .int a.2.2] [.str b.1, .str (kd b.2.1), .int b.2.2] = _
  have es : ∀ x y : Str, Core.eqF (m + 1) h (.str x) (.str y) = some (decide (x = y)) := fun x y => by rw [Core.eqF]; rfl
  have ei : ∀ x y : Int, Core.eqF (m + 1) h (.int x) (.int y) = some (decide (x = y)) := fun x y => by simp [Core.eqF, vw, scEq]
  obtain ⟨x, c, d⟩ := a
  obtain ⟨y, c', d'⟩ := b
  have ek : decide (kd c = kd c') = decide (c = c') := by cases c <;> cases c' <;> decide
  simp only [allEqT, es, ei, ek, Prod.mk.injEq, Bool.decide_and, Bool.and_true]
theorem eq_PT (h : Hv) (m : Nat) : ∀ L M : List (Str × Pp), allEqT (Core.eqF (m + 2) h) (PT L) (PT M) = some (decide (L = M))
  | [], [] => rfl
  | [], _ :: _ => by simp [PT, allEqT]
  | _ :: _, [] => by simp [PT, allEqT]
  | a :: L, b :: M => by
    show (match Core.eqF (m + 2) h (qv a) (qv b), allEqT (Core.eqF (m + 2) h) (PT L) (PT M) with
      | some x, some y => some (x && y)
      | _, _ => none) = _
    rw [eq_qv, eq_PT h m L M]
    simp
theorem cf_PT (h : Hv) (L M : List (Str × Pp)) : cmpF .eq (.tup (PT L)) (.tup (PT M)) h = some (decide (L = M)) := by
  show Core.eqF 60 h (.tup (PT L)) (.tup (PT M)) = _
  rw [show (60 : Nat) = (57 + 2) + 1 from rfl, Core.eqF]
  exact eq_PT h 57 L M
theorem tyC1 : tyC T 1 (.cls 1) = some true := by simp [tyC, ClH.e (T := T) (c := 1)]
theorem ceq_ok (n : Nat) (L M : List (Str × Pp)) (h : Hv) : callN T (n + 1) 8 [chv L, chv M] h = .ok (.bl (decide (L = M))) h := by
  have fL := FdH.e (T := T) (c := 1) (f := 2)
  rw [c8]
  refine Eq.trans (congrArg (finR 2 h) ?_) (fin2_0 (show pu (.bl _) from rfl))
  unfold b_Changeu_equ
  simp only [↓rb, ↓tw0, ↓tw1, ↓evSs, ↓evS, ↓evE, ↓evEs, ↓evI, ↓evC, ↓evO, ↓evPs, ag1, ag2, ag3, ag4, chkT, ofO, List.getElem?_cons_zero, List.getElem?_cons_succ, List.set_cons_zero, List.set_cons_succ, Bool.false_eq_true, if_false, if_true, Option.bind_some, Option.map_some, tru1, subD, setD, cmpD, cmpO, binD, bltD, asS, asL, asD, asO, keyOf, truV, cf_eq_i, cf_ne_i, cf_eq_s, cf_ne_s, cf_eq_b, cf_ne_b, cf_lt_i, cf_gt_i, cf_le_i, cf_ge_i, cf_is0, cf_isr, cf_isnot0, cf_ist, kd_dec, kd_dec2, subF, ix10, ix20, ix21, ix30, ix31, ix32, ln1, ln2, ln3, lim0, lim1, lim2, lim3, lim4, lim5, lim6, decide_true, decide_false, decide_not, Bool.not_true, Bool.not_false, Bool.true_or, Bool.or_true, Bool.false_or, Bool.or_false, not_true, not_false_eq_true, eq_self, reduceCtorEq, Bool.and_true, Bool.true_and, Bool.and_false, Bool.false_and, chv, fL, luc, tyF, tyC1 T, cf_PT, retOf]
theorem ev_ceq (n : Nat) {s : Lo} {h h1 h2 : Hv} {e f : CE} {L M : List (Str × Pp)} (he : evE T (callN T (n + 1)) false e s h = .ok (chv L) h1) (hf : evE T (callN T (n + 1)) false f s h1 = .ok (chv M) h2) (t : Bool) : evE T (callN T (n + 1)) t (.cmp .eq e f) s h = .ok (.bl (decide (L = M))) h2 := by
  have sp := SpH.e (T := T) (c := 1) (m := .cmp .eq)
  have ic := ClH.e (T := T) (c := 1)
  rw [ev_cmp he hf]
  have z : cmpD T (callN T (n + 1)) .eq (chv L) (chv M) h2 = .ok (.bl (decide (L = M))) h2 := by
    rw [← ceq_ok T n L M h2]
    simp only [cmpD, cmpO, asO, chv, spC, sp, ic, tyKn, and_self, if_true]
  rw [z]; rfl
end
end K01
end

section
set_option Elab.async false
set_option linter.all false
set_option maxRecDepth 100000
set_option maxHeartbeats 4000000
set_option autoImplicit false
/-! PL8: what the change leads into the pattern, plainly. -/
namespace K01
open PySem L2 Core
def mv (k : Int) (l : Lm) : Lm := (l.1.map (· - k), l.2.map (· - k))
def be1 (l : Lm) (p : Option Pp) : Option Lm := match p with
  | none => some l
  | some (false, k) => some (mv k l)
  | some (true, k) => if wi k l then some (none, none) else none
def beS (A : List (Str × Lm)) (q : Str × Pp) : Option (List (Str × Lm)) := (be1 (gt A q.1) (some q.2)).map (ptG A q.1)
def beG (A : List (Str × Lm)) (L : List (Str × Pp)) : Option (List (Str × Lm)) := L.foldlM beS A
theorem mv_0 (l : Lm) : mv 0 l = l := by
  obtain ⟨a, b⟩ := l
  cases a <;> cases b <;> simp [mv]
theorem be1_act (l : Lm) (o : Option Pp) : be1 l (o.filter act) = be1 l o := by
  cases o with
  | none => rfl
  | some p =>
    obtain ⟨b, k⟩ := p
    cases b with
    | true => rfl
    | false =>
      by_cases hk : k = 0
      · subst hk; show be1 l none = some (mv 0 l); rw [mv_0]; rfl
      · simp [Option.filter, act, hk]
theorem wi_nn (k : Int) : wi k (none, none) = true := rfl
theorem be1_nn (o : Option Pp) : be1 (none, none) o = some (none, none) := by
  cases o with
  | none => rfl
  | some p => obtain ⟨b, k⟩ := p; cases b <;> rfl
theorem vd_mv {k : Int} {l : Lm} (v : vd l = true) : vd (mv k l) = true := by
  obtain ⟨a, b⟩ := l
  cases a <;> cases b <;> simp only [mv, vd, Option.map_some, Option.map_none] at v ⊢
  rw [decide_eq_true_eq] at v ⊢
  omega
theorem vd_be1 {l m : Lm} {o : Option Pp} (v : vd l = true) (e : be1 l o = some m) : vd m = true := by
  cases o with
  | none => cases e; exact v
  | some p =>
    obtain ⟨b, k⟩ := p
    cases b with
    | false => cases e; exact vd_mv v
    | true =>
      simp only [be1] at e
      split at e
      · cases e; rfl
      · cases e
/-- what a change makes of an integer is within the limits just if it is within those before -/
theorem wi_be1 {l m : Lm} {o : Option Pp} (e : be1 l o = some m) (v : Int) : wi (match o with | none => v | some p => ap v p) l = wi v m := by
  cases o with
  | none => cases e; rfl
  | some p =>
    obtain ⟨b, k⟩ := p
    cases b with
    | false =>
      cases e
      obtain ⟨a, b⟩ := l
      have h1 : ∀ i : Int, decide (i ≤ v + k) = decide (i - k ≤ v) := fun i => by rw [Bool.eq_iff_iff]; simp only [decide_eq_true_eq]; omega
      have h2 : ∀ i : Int, decide (v + k ≤ i) = decide (v ≤ i - k) := fun i => by rw [Bool.eq_iff_iff]; simp only [decide_eq_true_eq]; omega
      cases a <;> cases b <;> simp [wi, ap, mv, h1, h2]
    | true =>
      simp only [be1] at e
      split at e
      · rename_i hw; cases e; exact hw
      · cases e
theorem wi_be1n {l : Lm} {o : Option Pp} (e : be1 l o = none) (v : Int) : wi (match o with | none => v | some p => ap v p) l = false := by
  cases o with
  | none => cases e
  | some p =>
    obtain ⟨b, k⟩ := p
    cases b with
    | false => cases e
    | true =>
      simp only [be1] at e
      split at e
      · cases e
      · rename_i hw; simpa [ap] using hw
theorem beG_spec : ∀ (L : List (Str × Pp)) (A : List (Str × Lm)), (ksG L).Nodup → VD A → (ksG A).Nodup → (beG A L = none ↔ ∃ x, be1 (gt A x) (lkG L x) = none) ∧ ∀ D, beG A L = some D → (ksG D).Nodup ∧ VD D ∧ ∀ x, some (gt D x) = be1 (gt A x) (lkG L x)
  | [], A, _, v, nd => by
    refine ⟨⟨fun z => (by cases z), fun ⟨x, z⟩ => (by cases z)⟩, fun D e => ?_⟩
    cases (show some A = some D from e)
    exact ⟨nd, v, fun x => rfl⟩
  | q :: L, A, nl, v, nd => by
    have n2 : (ksG L).Nodup ∧ q.1 ∉ ksG L := by
      unfold ksG at nl ⊢
      rw [List.map_cons, List.nodup_cons] at nl
      exact ⟨nl.2, nl.1⟩
    have gq : lkG (q :: L) q.1 = some q.2 := by rw [lkG_cons, if_pos rfl]
    have gn : ∀ y, y ≠ q.1 → lkG (q :: L) y = lkG L y := fun y hy => by rw [lkG_cons, if_neg (Ne.symm hy)]
    have gl : lkG L q.1 = none := lkG_none.mp n2.2
    have e1 : beG A (q :: L) = (beS A q).bind fun A' => beG A' L := by unfold beG; rw [List.foldlM_cons]; rfl
    rw [e1]
    unfold beS
    cases c : be1 (gt A q.1) (some q.2) with
    | none => exact ⟨⟨fun _ => ⟨q.1, by rw [gq]; exact c⟩, fun _ => rfl⟩, fun D z => (by cases z)⟩
    | some l =>
      have vl := vd_be1 (v.gt nd q.1) c
      have v' : VD (ptG A q.1 l) := v.pt vl
      have nd' : (ksG (ptG A q.1 l)).Nodup := ndG_ptG nd q.1 l
      obtain ⟨i1, i2⟩ := beG_spec L (ptG A q.1 l) n2.1 v' nd'
      have key : ∀ x, be1 (gt (ptG A q.1 l) x) (lkG L x) = be1 (gt A x) (lkG (q :: L) x) := fun x => by
        rw [gt_ptG]
        by_cases hx : x = q.1
        · subst hx
          rw [if_pos rfl, gl, gq, c]; rfl
        · rw [if_neg hx, gn x hx]
      show (beG (ptG A q.1 l) L = none ↔ _) ∧ ∀ D, beG (ptG A q.1 l) L = some D → _
      refine ⟨by rw [i1]; simp only [key], fun D e => ?_⟩
      obtain ⟨a, b, c⟩ := i2 D e
      exact ⟨a, b, fun x => by rw [c, key]⟩
theorem kn_beG {ns : List Str} : ∀ {L : List (Str × Pp)} {A D : List (Str × Lm)}, Kn ns A → (∀ x ∈ ksG L, x ∈ ns) → beG A L = some D → Kn ns D
  | [], A, D, k, _, e => by cases (show some A = some D from e); exact k
  | q :: L, A, D, k, hx, e => by
    have e1 : beG A (q :: L) = (beS A q).bind fun A' => beG A' L := by unfold beG; rw [List.foldlM_cons]; rfl
    rw [e1] at e
    unfold beS at e
    cases c : be1 (gt A q.1) (some q.2) with
    | none => rw [c] at e; cases e
    | some l =>
      rw [c] at e
      exact kn_beG (A := ptG A q.1 l) (k.pt (hx q.1 (by simp [ksG])) l) (fun x h => hx x (by simp [ksG] at h ⊢; exact .inr h)) e
/-- notes in a pattern, by all names -/
theorem in_iff {B : List (Str × Lm)} (nd : (ksG B).Nodup) (f : Str → Int) : ((lstG B).all fun q => wi (f q.1) q.2) = true ↔ ∀ x, wi (f x) (gt B x) = true := by
  rw [all_ext (mem_lstG nd), List.all_eq_true]
  constructor
  · intro h x
    rcases gt_or B x with ⟨l, e, g⟩ | ⟨_, g⟩
    · rw [g]; exact h (x, l) ((lkG_iff nd).mp e)
    · rw [g]; rfl
  · intro h q hq
    have := h q.1
    rw [gt_mem nd hq] at this
    exact this
theorem in_ext {B E : List (Str × Lm)} (nb : (ksG B).Nodup) (ne : (ksG E).Nodup) (f g : Str → Int) (h : ∀ x, wi (f x) (gt B x) = wi (g x) (gt E x)) : ((lstG B).all fun q => wi (f q.1) q.2) = ((lstG E).all fun q => wi (g q.1) q.2) := by
  rw [Bool.eq_iff_iff, in_iff nb, in_iff ne]
  simp only [h]
/-- notes behind a change -/
theorem gi_chD {E : List (Str × Int)} {L : List (Str × Pp)} (nl : (ksG L).Nodup) (x : Str) : gi (chD E L) x = match lkG L x with | none => gi E x | some p => ap (gi E x) p := by
  unfold gi
  rw [lk_chD nl]
  cases lkG L x <;> rfl
end K01
end

section
set_option Elab.async false
set_option linter.all false
set_option maxRecDepth 100000
set_option maxHeartbeats 4000000
set_option autoImplicit false
/-! PL9: notes in pattern; before. -/
namespace K01
open PySem L2 Core
section
variable (T : Tab) [D24 T] [D31 T] [D12 T] [FdH T 2 2] [FdH T 0 1] [SpH T 0 .getitem 12] [SpH T 2 (.cmp .in_) 31]
theorem pcont_ok (n : Nat) (B : List (Str × Lm)) (Z : List (Str × Int)) (h : Hv) : callN T (n + 2) 31 [ptv B, ntv Z] h = .ok (.bl ((lstG B).all fun q => wi (gi Z q.1) q.2)) h := by
  have fL := FdH.e (T := T) (c := 2) (f := 2)
  rw [c31]
  refine Eq.trans (congrArg (finR 2 h) ?_) (fin2_0 (show pu (.bl _) from rfl))
  unfold b_Patternu_containsu
  have it : evI T (callN T (n + 1)) (.val (.attr (.var 0) 2)) [some (ptv B), some (ntv Z), none, none, none] h = .ok (.free (PL (lstG B))) h := by
    simp only [↓rb, ↓tw0, ↓tw1, ↓evSs, ↓evS, ↓evE, ↓evEs, ↓evI, ↓evC, ↓evO, ↓evPs, ag1, ag2, ag3, ag4, chkT, ofO, List.getElem?_cons_zero, List.getElem?_cons_succ, List.set_cons_zero, List.set_cons_succ, Bool.false_eq_true, if_false, if_true, Option.bind_some, Option.map_some, tru1, subD, setD, cmpD, cmpO, binD, bltD, asS, asL, asD, asO, keyOf, truV, cf_eq_i, cf_ne_i, cf_eq_s, cf_ne_s, cf_eq_b, cf_ne_b, cf_lt_i, cf_gt_i, cf_le_i, cf_ge_i, cf_is0, cf_isr, cf_isnot0, cf_ist, kd_dec, kd_dec2, subF, ix10, ix20, ix21, ix30, ix31, ix32, ln1, ln2, ln3, lim0, lim1, lim2, lim3, lim4, lim5, lim6, decide_true, decide_false, decide_not, Bool.not_true, Bool.not_false, Bool.true_or, Bool.or_true, Bool.false_or, Bool.or_false, not_true, not_false_eq_true, eq_self, reduceCtorEq, Bool.and_true, Bool.true_and, Bool.and_false, Bool.false_and, ptv, fL, lu2, itD]
  have step : ∀ (q : Str × Lm) (x2 x3 x4 : Option Vl), evSs T (callN T (n + 1)) (.cons (.ife (.not_ (.call 24 (.cons (.sub (.var 1) (.var 2)) (.cons (.var 3) (.cons (.var 4) .nil))))) (.cons (.ret (.bl false)) .nil) .nil) .nil) [some (ptv B), some (ntv Z), some (.str q.1), some (ow q.2.1), some (ow q.2.2)] h = if wi (gi Z q.1) q.2 then .ok (.nx [some (ptv B), some (ntv Z), some (.str q.1), some (ow q.2.1), some (ow q.2.2)]) h else .ok (.rt (.bl false)) h := fun q x2 x3 x4 => by
    have e1 : evE T (callN T (n + 1)) false (.sub (.var 1) (.var 2)) [some (ptv B), some (ntv Z), some (.str q.1), some (ow q.2.1), some (ow q.2.2)] h = .ok (.int (gi Z q.1)) h := by
      rw [evE, ev_var (x := 1) rfl]
      simp only [rb, tw0]
      rw [ev_var (x := 2) rfl]
      exact sub_ntv T n Z q.1 h
    have w := within_ok T n (gi Z q.1) q.2 h
    have e2 : evE T (callN T (n + 1)) false (.call 24 (.cons (.sub (.var 1) (.var 2)) (.cons (.var 3) (.cons (.var 4) .nil)))) [some (ptv B), some (ntv Z), some (.str q.1), some (ow q.2.1), some (ow q.2.2)] h = .ok (.bl (wi (gi Z q.1) q.2)) h := by
      rw [evE, evEs, e1]
      simp only [rb, tw0, evEs]
      rw [ev_var (x := 3) rfl]
      simp only [rb]
      rw [ev_var (x := 4) rfl]
      exact w
    have e3 := not_c e2
    cases hw : wi (gi Z q.1) q.2 with
    | true =>
      rw [hw] at e3
      rw [st_if0 e3, evSs]
      rfl
    | false =>
      rw [hw] at e3
      rw [st_if1 e3 (st_ret (v := .bl false) (h1 := h) (by rw [evE]))]
      rfl
  have lp := forR_all (src := .free) (t := .tup (.cons (.var 2) (.cons (.var 3) (.cons (.var 4) .nil)))) (body := evSs T (callN T (n + 1)) (.cons (.ife (.not_ (.call 24 (.cons (.sub (.var 1) (.var 2)) (.cons (.var 3) (.cons (.var 4) .nil))))) (.cons (.ret (.bl false)) .nil) .nil) .nil)) (h := h) tv (fun q => wi (gi Z q.1) q.2) (fun s => ∃ x2 x3 x4, s = [some (ptv B), some (ntv Z), x2, x3, x4]) trivial (lstG B) (fun q _ s ⟨x2, x3, x4, es⟩ => by
    subst es
    refine ⟨[some (ptv B), some (ntv Z), some (.str q.1), some (ow q.2.1), some (ow q.2.2)], by simp only [↓rb, ↓tw0, ↓tw1, ↓evSs, ↓evS, ↓evE, ↓evEs, ↓evI, ↓evC, ↓evO, ↓evPs, ag1, ag2, ag3, ag4, chkT, ofO, List.getElem?_cons_zero, List.getElem?_cons_succ, List.set_cons_zero, List.set_cons_succ, Bool.false_eq_true, if_false, if_true, Option.bind_some, Option.map_some, tru1, subD, setD, cmpD, cmpO, binD, bltD, asS, asL, asD, asO, keyOf, truV, cf_eq_i, cf_ne_i, cf_eq_s, cf_ne_s, cf_eq_b, cf_ne_b, cf_lt_i, cf_gt_i, cf_le_i, cf_ge_i, cf_is0, cf_isr, cf_isnot0, cf_ist, kd_dec, kd_dec2, subF, ix10, ix20, ix21, ix30, ix31, ix32, ln1, ln2, ln3, lim0, lim1, lim2, lim3, lim4, lim5, lim6, decide_true, decide_false, decide_not, Bool.not_true, Bool.not_false, Bool.true_or, Bool.or_true, Bool.false_or, Bool.or_false, not_true, not_false_eq_true, eq_self, reduceCtorEq, Bool.and_true, Bool.true_and, Bool.and_false, Bool.false_and, tv], ?_⟩
    have st := step q x2 x3 x4
    cases hw : wi (gi Z q.1) q.2 with
    | true => rw [hw] at st; exact .inl ⟨rfl, _, st, _, _, _, rfl⟩
    | false => rw [hw] at st; exact .inr ⟨rfl, st⟩) [some (ptv B), some (ntv Z), none, none, none] ⟨_, _, _, rfl⟩
  rcases lp with ⟨a, s', e, x2, x3, x4, rfl⟩ | ⟨a, e⟩
  · rw [a, st_for it ((unlock_free rfl).trans e), st_ret (v := .bl true) (h1 := h) (by rw [evE])]
    rfl
  · rw [a, st_forR it ((unlock_free rfl).trans e)]
    rfl
theorem ev_in (n : Nat) {s : Lo} {h h1 h2 : Hv} {e f : CE} {B : List (Str × Lm)} {Z : List (Str × Int)} (he : evE T (callN T (n + 2)) false e s h = .ok (ntv Z) h1) (hf : evE T (callN T (n + 2)) false f s h1 = .ok (ptv B) h2) (t : Bool) : evE T (callN T (n + 2)) t (.cmp .in_ e f) s h = .ok (.bl ((lstG B).all fun q => wi (gi Z q.1) q.2)) h2 := by
  have sp := SpH.e (T := T) (c := 2) (m := .cmp .in_)
  rw [ev_cmp he hf]
  have z : cmpD T (callN T (n + 2)) .in_ (ntv Z) (ptv B) h2 = .ok (.bl ((lstG B).all fun q => wi (gi Z q.1) q.2)) h2 := by
    show (match asO h2 (ptv B) with
      | some (c, _) => (spC T (callN T (n + 2)) c (.cmp .in_) [ptv B, ntv Z] h2).bind fun v h => tru1 h v
      | none => ofO ((cmpF .in_ (ntv Z) (ptv B) h2).map .bl) h2) = _
    have eo : asO h2 (ptv B) = some (2, [(3, .fd (KG lv B)), (2, .tup (PL (lstG B)))]) := rfl
    rw [eo]
    simp only [spC, sp, pcont_ok T n B Z h2]
    rfl
  rw [z]; rfl
end
section
variable (T : Tab) [D28 T]
theorem moved_ok (n : Nat) (o : Option Int) (k : Int) (h : Hv) : callN T (n + 1) 28 [ow o, .int k] h = .ok (ow (o.map (· - k))) h := by
  rw [c28]
  refine Eq.trans (congrArg (finR 2 h) ?_) (fin2_0 (pu_ow _))
  unfold b_moved
  cases o <;> simp only [↓rb, ↓tw0, ↓tw1, ↓evSs, ↓evS, ↓evE, ↓evEs, ↓evI, ↓evC, ↓evO, ↓evPs, ag1, ag2, ag3, ag4, chkT, ofO, List.getElem?_cons_zero, List.getElem?_cons_succ, List.set_cons_zero, List.set_cons_succ, Bool.false_eq_true, if_false, if_true, Option.bind_some, Option.map_some, tru1, subD, setD, cmpD, cmpO, binD, bltD, asS, asL, asD, asO, keyOf, truV, cf_eq_i, cf_ne_i, cf_eq_s, cf_ne_s, cf_eq_b, cf_ne_b, cf_lt_i, cf_gt_i, cf_le_i, cf_ge_i, cf_is0, cf_isr, cf_isnot0, cf_ist, kd_dec, kd_dec2, subF, ix10, ix20, ix21, ix30, ix31, ix32, ln1, ln2, ln3, lim0, lim1, lim2, lim3, lim4, lim5, lim6, decide_true, decide_false, decide_not, Bool.not_true, Bool.not_false, Bool.true_or, Bool.or_true, Bool.false_or, Bool.or_false, not_true, not_false_eq_true, eq_self, reduceCtorEq, Bool.and_true, Bool.true_and, Bool.and_false, Bool.false_and, ow, cf_isi, retOf, binF, Option.map_none, Option.map_some]
end
section
variable (T : Tab) [D6 T] [D24 T] [D28 T] [D29 T] [D37 T] [FdH T 1 2] [FdH T 2 2] [FdH T 2 3] [MtH T 1 1 6] [MtH T 2 4 37] [SpH T 2 .init 29] [XcH T 101]
abbrev beb : CSs := (.cons (.set (.tup (.cons (.var 6) (.cons (.var 7) .nil))) (.bm .get true (.var 2) (.cons (.var 3) (.cons (.tup (.cons .non (.cons .non .nil))) .nil)))) (.cons (.ife (.cmp .eq (.var 4) (.str "add")) (.cons (.setI (.var 2) (.var 3) (.tup (.cons (.call 28 (.cons (.var 6) (.cons (.var 5) .nil))) (.cons (.call 28 (.cons (.var 7) (.cons (.var 5) .nil))) .nil)))) .nil) (.cons (.ife (.call 24 (.cons (.var 5) (.cons (.var 6) (.cons (.var 7) .nil)))) (.cons (.setI (.var 2) (.var 3) (.tup (.cons .non (.cons .non .nil)))) .nil) (.cons (.raise_ 101) .nil)) .nil)) .nil))
theorem pbef_ok (n : Nat) {B : List (Str × Lm)} {L : List (Str × Pp)} (h : Hv) (nb : (ksG B).Nodup) (lb : B.length < 25) (ll : L.length < 25) :
    callN T (n + 2) 37 [ptv B, chv L] h = match beG B L with
      | some D => .ok (ptv (D.filter fun q => la q.2)) h
      | none => .ex 101 [] h := by
  have fB := FdH.e (T := T) (c := 2) (f := 3)
  have xc := XcH.e (T := T) (c := 101)
  rw [c37]
  unfold b_Pattern_before
  have e1 : evE T (callN T (n + 1)) false (.blt .dict false (.cons (.attr (.var 0) 3) .nil)) [some (ptv B), some (chv L), none, none, none, none, none, none] h = .ok (.ref h.length) (h ++ [.dct (KG lv B)]) := by
    simp only [↓rb, ↓tw0, ↓tw1, ↓evSs, ↓evS, ↓evE, ↓evEs, ↓evI, ↓evC, ↓evO, ↓evPs, ag1, ag2, ag3, ag4, chkT, ofO, List.getElem?_cons_zero, List.getElem?_cons_succ, List.set_cons_zero, List.set_cons_succ, Bool.false_eq_true, if_false, if_true, Option.bind_some, Option.map_some, tru1, subD, setD, cmpD, cmpO, binD, bltD, asS, asL, asD, asO, keyOf, truV, cf_eq_i, cf_ne_i, cf_eq_s, cf_ne_s, cf_eq_b, cf_ne_b, cf_lt_i, cf_gt_i, cf_le_i, cf_ge_i, cf_is0, cf_isr, cf_isnot0, cf_ist, kd_dec, kd_dec2, subF, ix10, ix20, ix21, ix30, ix31, ix32, ln1, ln2, ln3, lim0, lim1, lim2, lim3, lim4, lim5, lim6, decide_true, decide_false, decide_not, Bool.not_true, Bool.not_false, Bool.true_or, Bool.or_true, Bool.false_or, Bool.or_false, not_true, not_false_eq_true, eq_self, reduceCtorEq, Bool.and_true, Bool.true_and, Bool.and_false, Bool.false_and, ptv, fB, lu3, bltF, mkD]
  have it : evI T (callN T (n + 1)) (.val (.meth (.var 1) 1 .nil)) [some (ptv B), some (chv L), some (.ref h.length), none, none, none, none, none] (h ++ [.dct (KG lv B)]) = .ok (.free (PT L)) (h ++ [.dct (KG lv B)]) := by
    rw [evI, ev_parts T n (ev_var rfl)]
    simp only [rb, itD, ofO]
  have lp := forR_fold (src := .free) (t := .tup (.cons (.var 3) (.cons (.var 4) (.cons (.var 5) .nil)))) (body := evSs T (callN T (n + 1)) beb) qv
    (fun A s h2 => ∃ x3 x4 x5 x6 x7, s = [some (ptv B), some (chv L), some (.ref h.length), x3, x4, x5, x6, x7] ∧ h2 = h ++ [.dct (KG lv A)] ∧ Kn (ksG B ++ ksG L) A) beS (fun r => ∃ h2, r = .ex 101 [] h2 ∧ Fr [] h h2) (fun _ _ _ _ => trivial) L
    (fun q hq A s h2 ⟨x3, x4, x5, x6, x7, es, eh, kn⟩ => by
      subst es eh
      obtain ⟨x, b, k⟩ := q
      have hm : (h ++ [Cell.dct (KG lv A)])[h.length]? = some (.dct (KG lv A)) := get_last
      have hx : x ∈ ksG L := List.mem_map.mpr ⟨_, hq, rfl⟩
      have lA := kn.len
      have e2 : (KG lv A).length < LIM := by simp [KG, LIM, ksG] at lA ⊢; omega
      have g := get_ref (fz := true) (x := x) hm
      rw [show lv (gt A x) = .tup [ow (gt A x).1, ow (gt A x).2] from rfl] at g
      have m1 := moved_ok T n (gt A x).1 k (h ++ [Cell.dct (KG lv A)])
      have m2 := moved_ok T n (gt A x).2 k (h ++ [Cell.dct (KG lv A)])
      have wo := within_ok T n k (gt A x) (h ++ [Cell.dct (KG lv A)])
      have p1 : put (KG lv A) (.inr x) (.tup [ow ((gt A x).1.map (· - k)), ow ((gt A x).2.map (· - k))]) = KG lv (ptG A x (mv k (gt A x))) := put_lv A x _ _
      have p2 : put (KG lv A) (.inr x) (.tup [.non, .non]) = KG lv (ptG A x (none, none)) := put_lv A x none none
      refine ⟨[some (ptv B), some (chv L), some (.ref h.length), some (.str x), some (.str (kd b)), some (.int k), x6, x7], by simp only [↓rb, ↓tw0, ↓tw1, ↓evSs, ↓evS, ↓evE, ↓evEs, ↓evI, ↓evC, ↓evO, ↓evPs, ag1, ag2, ag3, ag4, chkT, ofO, List.getElem?_cons_zero, List.getElem?_cons_succ, List.set_cons_zero, List.set_cons_succ, Bool.false_eq_true, if_false, if_true, Option.bind_some, Option.map_some, tru1, subD, setD, cmpD, cmpO, binD, bltD, asS, asL, asD, asO, keyOf, truV, cf_eq_i, cf_ne_i, cf_eq_s, cf_ne_s, cf_eq_b, cf_ne_b, cf_lt_i, cf_gt_i, cf_le_i, cf_ge_i, cf_is0, cf_isr, cf_isnot0, cf_ist, kd_dec, kd_dec2, subF, ix10, ix20, ix21, ix30, ix31, ix32, ln1, ln2, ln3, lim0, lim1, lim2, lim3, lim4, lim5, lim6, decide_true, decide_false, decide_not, Bool.not_true, Bool.not_false, Bool.true_or, Bool.or_true, Bool.false_or, Bool.or_false, not_true, not_false_eq_true, eq_self, reduceCtorEq, Bool.and_true, Bool.true_and, Bool.and_false, Bool.false_and, qv], ?_⟩
      unfold beS
      cases b with
      | false =>
        refine .inl ⟨_, rfl, [some (ptv B), some (chv L), some (.ref h.length), some (.str x), some (.str (kd false)), some (.int k), some (ow (gt A x).1), some (ow (gt A x).2)], h ++ [Cell.dct (KG lv (ptG A x (mv k (gt A x))))], ?_, _, _, _, _, _, rfl, rfl, kn.pt (List.mem_append.mpr (.inr hx)) _⟩
        simp only [↓rb, ↓tw0, ↓tw1, ↓evSs, ↓evS, ↓evE, ↓evEs, ↓evI, ↓evC, ↓evO, ↓evPs, ag1, ag2, ag3, ag4, chkT, ofO, List.getElem?_cons_zero, List.getElem?_cons_succ, List.set_cons_zero, List.set_cons_succ, Bool.false_eq_true, if_false, if_true, Option.bind_some, Option.map_some, tru1, subD, setD, cmpD, cmpO, binD, bltD, asS, asL, asD, asO, keyOf, truV, cf_eq_i, cf_ne_i, cf_eq_s, cf_ne_s, cf_eq_b, cf_ne_b, cf_lt_i, cf_gt_i, cf_le_i, cf_ge_i, cf_is0, cf_isr, cf_isnot0, cf_ist, kd_dec, kd_dec2, subF, ix10, ix20, ix21, ix30, ix31, ix32, ln1, ln2, ln3, lim0, lim1, lim2, lim3, lim4, lim5, lim6, decide_true, decide_false, decide_not, Bool.not_true, Bool.not_false, Bool.true_or, Bool.or_true, Bool.false_or, Bool.or_false, not_true, not_false_eq_true, eq_self, reduceCtorEq, Bool.and_true, Bool.true_and, Bool.and_false, Bool.false_and, bmK, hm, g, chk, e2, Option.isSome_some, set_last, m1, m2, p1]
      | true =>
        cases hw : wi k (gt A x) with
        | true =>
          rw [hw] at wo
          refine .inl ⟨ptG A x (none, none), by simp only [be1, hw, if_true, Option.map_some], [some (ptv B), some (chv L), some (.ref h.length), some (.str x), some (.str (kd true)), some (.int k), some (ow (gt A x).1), some (ow (gt A x).2)], h ++ [Cell.dct (KG lv (ptG A x (none, none)))], ?_, _, _, _, _, _, rfl, rfl, kn.pt (List.mem_append.mpr (.inr hx)) _⟩
          simp only [↓rb, ↓tw0, ↓tw1, ↓evSs, ↓evS, ↓evE, ↓evEs, ↓evI, ↓evC, ↓evO, ↓evPs, ag1, ag2, ag3, ag4, chkT, ofO, List.getElem?_cons_zero, List.getElem?_cons_succ, List.set_cons_zero, List.set_cons_succ, Bool.false_eq_true, if_false, if_true, Option.bind_some, Option.map_some, tru1, subD, setD, cmpD, cmpO, binD, bltD, asS, asL, asD, asO, keyOf, truV, cf_eq_i, cf_ne_i, cf_eq_s, cf_ne_s, cf_eq_b, cf_ne_b, cf_lt_i, cf_gt_i, cf_le_i, cf_ge_i, cf_is0, cf_isr, cf_isnot0, cf_ist, kd_dec, kd_dec2, subF, ix10, ix20, ix21, ix30, ix31, ix32, ln1, ln2, ln3, lim0, lim1, lim2, lim3, lim4, lim5, lim6, decide_true, decide_false, decide_not, Bool.not_true, Bool.not_false, Bool.true_or, Bool.or_true, Bool.false_or, Bool.or_false, not_true, not_false_eq_true, eq_self, reduceCtorEq, Bool.and_true, Bool.true_and, Bool.and_false, Bool.false_and, bmK, hm, g, chk, e2, Option.isSome_some, set_last, wo, p2]
        | false =>
          rw [hw] at wo
          have e : evSs T (callN T (n + 1)) beb [some (ptv B), some (chv L), some (.ref h.length), some (.str x), some (.str (kd true)), some (.int k), x6, x7] (h ++ [Cell.dct (KG lv A)]) = .ex 101 [] (h ++ [Cell.dct (KG lv A)]) := by
            simp only [↓rb, ↓tw0, ↓tw1, ↓evSs, ↓evS, ↓evE, ↓evEs, ↓evI, ↓evC, ↓evO, ↓evPs, ag1, ag2, ag3, ag4, chkT, ofO, List.getElem?_cons_zero, List.getElem?_cons_succ, List.set_cons_zero, List.set_cons_succ, Bool.false_eq_true, if_false, if_true, Option.bind_some, Option.map_some, tru1, subD, setD, cmpD, cmpO, binD, bltD, asS, asL, asD, asO, keyOf, truV, cf_eq_i, cf_ne_i, cf_eq_s, cf_ne_s, cf_eq_b, cf_ne_b, cf_lt_i, cf_gt_i, cf_le_i, cf_ge_i, cf_is0, cf_isr, cf_isnot0, cf_ist, kd_dec, kd_dec2, subF, ix10, ix20, ix21, ix30, ix31, ix32, ln1, ln2, ln3, lim0, lim1, lim2, lim3, lim4, lim5, lim6, decide_true, decide_false, decide_not, Bool.not_true, Bool.not_false, Bool.true_or, Bool.or_true, Bool.false_or, Bool.or_false, not_true, not_false_eq_true, eq_self, reduceCtorEq, Bool.and_true, Bool.true_and, Bool.and_false, Bool.false_and, bmK, hm, g, chk, e2, Option.isSome_some, wo, xc]
          refine .inr ⟨by simp only [be1, hw, Bool.false_eq_true, if_false, Option.map_none], ⟨_, e, fr_app _ _ _⟩, .inr ⟨101, [], _, e⟩⟩) B [some (ptv B), some (chv L), some (.ref h.length), none, none, none, none, none] (h ++ [.dct (KG lv B)]) ⟨_, _, _, _, _, rfl, rfl, nb, fun x hx => List.mem_append.mpr (.inl hx)⟩
  rcases lp with ⟨D, eD, s', h', e2, x3, x4, x5, x6, x7, rfl, rfl, kn⟩ | ⟨eD, ⟨h2, e2, fr⟩, en⟩
  · have eD : beG B L = some D := eD
    rw [eD]
    have lA := kn.len
    have hl : D.length < 60 := by simp [ksG] at lA; omega
    have hm : (h ++ [Cell.dct (KG lv D)])[h.length]? = some (.dct (KG lv D)) := get_last
    have mk := mkP_ref T n (s := [some (ptv B), some (chv L), some (.ref h.length), x3, x4, x5, x6, x7]) (e := .var 2) (ev_var rfl) (.refl _ _) hm kn.1 hl
    refine (congrArg (fun r => finR 2 h (retOf r)) ((st_set e1).trans ((st_for it ((unlock_free rfl).trans e2)).trans (st_ret mk)))).trans ?_
    exact fin2_p (fr_app _ _ _) (pu_ptv _)
  · have eD : beG B L = none := eD
    rw [eD]
    refine (congrArg (fun r => finR 2 h (retOf r)) ((st_set e1).trans ((st_forE it ((unlock_free rfl)) en).trans e2))).trans ?_
    exact fin2_x fr rfl
theorem ev_bef (n : Nat) {s : Lo} {h h1 h2 : Hv} {e f : CE} {B : List (Str × Lm)} {L : List (Str × Pp)} (he : evE T (callN T (n + 2)) false e s h = .ok (ptv B) h1) (hf : evE T (callN T (n + 2)) false f s h1 = .ok (chv L) h2) (nb : (ksG B).Nodup) (lb : B.length < 25) (ll : L.length < 25) :
    evE T (callN T (n + 2)) false (.meth e 4 (.cons f .nil)) s h = match beG B L with
      | some D => .ok (ptv (D.filter fun q => la q.2)) h2
      | none => .ex 101 [] h2 := by
  have m := MtH.e (T := T) (c := 2) (m := 4)
  rw [evE, he]
  simp only [rb, tw0, asO, ptv, m, evEs, hf]
  exact pbef_ok T n h2 nb lb ll
end
end K01
end

section
set_option Elab.async false
set_option linter.all false
set_option maxRecDepth 100000
set_option maxHeartbeats 4000000
set_option autoImplicit false
namespace K01
open PySem L2 PyProof.Rows Core
def top (i : Nat) : Stmt := PySem.Challenge.pw_sceneskips_k13_notes_before_a_change.main.body.getD i (.Pass ⟨0, 0, 0, 0⟩)
def clsAt (s : Stmt) (j : Nat) : Stmt := match s with
  | .ClassDef _ _ _ b _ _ _ _ _ _ _ => b.getD j (.Pass ⟨0, 0, 0, 0⟩)
  | _ => .Pass ⟨0, 0, 0, 0⟩
def e_name_place : Ent := ⟨0, ⟨("name_place", none), "name_place", "name_place", defArgs (top 6), defBody (top 6), defScope (top 6), [], []⟩, f_name_place, ["name"], ["name", "place", "index"]⟩
def e_order_key : Ent := ⟨1, ⟨("order_key", none), "order_key", "order_key", defArgs (top 7), defBody (top 7), defScope (top 7), [], []⟩, f_order_key, ["values"], ["values", "total", "name", "marks"]⟩
def e_changed : Ent := ⟨2, ⟨("changed", none), "changed", "changed", defArgs (top 8), defBody (top 8), defScope (top 8), [], []⟩, f_changed, ["values", "listed"], ["values", "listed", "result", "name", "kind", "k"]⟩
def e_without_zeros : Ent := ⟨3, ⟨("without_zeros", none), "without_zeros", "without_zeros", defArgs (top 9), defBody (top 9), defScope (top 9), [], []⟩, f_without_zeros, ["values"], ["values", "name"]⟩
def e_joined : Ent := ⟨4, ⟨("joined", none), "joined", "joined", defArgs (top 10), defBody (top 10), defScope (top 10), [], []⟩, f_joined, ["part", "kind", "k"], ["part", "kind", "k"]⟩
def e_Changeu_initu : Ent := ⟨5, ⟨("Change", some "__init__"), "__init__", "Change.__init__", defArgs (clsAt (top 11) 0), defBody (clsAt (top 11) 0), defScope (clsAt (top 11) 0), [.non], []⟩, f_Changeu_initu, ["self", "parts"], ["self", "parts", "kept", "name", "kind", "k"]⟩
def e_Change_parts : Ent := ⟨6, ⟨("Change", some "parts"), "parts", "Change.parts", defArgs (clsAt (top 11) 1), defBody (clsAt (top 11) 1), defScope (clsAt (top 11) 1), [], []⟩, f_Change_parts, ["self"], ["self"]⟩
def e_Changeu_lenu : Ent := ⟨7, ⟨("Change", some "__len__"), "__len__", "Change.__len__", defArgs (clsAt (top 11) 2), defBody (clsAt (top 11) 2), defScope (clsAt (top 11) 2), [], []⟩, f_Changeu_lenu, ["self"], ["self"]⟩
def e_Changeu_equ : Ent := ⟨8, ⟨("Change", some "__eq__"), "__eq__", "Change.__eq__", defArgs (clsAt (top 11) 3), defBody (clsAt (top 11) 3), defScope (clsAt (top 11) 3), [], []⟩, f_Changeu_equ, ["self", "other"], ["self", "other"]⟩
def e_Changeu_rshiftu : Ent := ⟨9, ⟨("Change", some "__rshift__"), "__rshift__", "Change.__rshift__", defArgs (clsAt (top 11) 4), defBody (clsAt (top 11) 4), defScope (clsAt (top 11) 4), [], []⟩, f_Changeu_rshiftu, ["self", "other"], ["self", "other", "parts", "name", "kind", "k"]⟩
def e_Changeu_callu : Ent := ⟨10, ⟨("Change", some "__call__"), "__call__", "Change.__call__", defArgs (clsAt (top 11) 5), defBody (clsAt (top 11) 5), defScope (clsAt (top 11) 5), [], []⟩, f_Changeu_callu, ["self", "notes"], ["self", "notes"]⟩
def e_Notesu_initu : Ent := ⟨11, ⟨("Notes", some "__init__"), "__init__", "Notes.__init__", defArgs (clsAt (top 12) 0), defBody (clsAt (top 12) 0), defScope (clsAt (top 12) 0), [.non], []⟩, f_Notesu_initu, ["self", "values"], ["self", "values"]⟩
def e_Notesu_getitemu : Ent := ⟨12, ⟨("Notes", some "__getitem__"), "__getitem__", "Notes.__getitem__", defArgs (clsAt (top 12) 2), defBody (clsAt (top 12) 2), defScope (clsAt (top 12) 2), [], []⟩, f_Notesu_getitemu, ["self", "name"], ["self", "name"]⟩
def e_Notesu_setitemu : Ent := ⟨13, ⟨("Notes", some "__setitem__"), "__setitem__", "Notes.__setitem__", defArgs (clsAt (top 12) 3), defBody (clsAt (top 12) 3), defScope (clsAt (top 12) 3), [], []⟩, f_Notesu_setitemu, ["self", "name", "k"], ["self", "name", "k"]⟩
def e_Notesu_containsu : Ent := ⟨14, ⟨("Notes", some "__contains__"), "__contains__", "Notes.__contains__", defArgs (clsAt (top 12) 4), defBody (clsAt (top 12) 4), defScope (clsAt (top 12) 4), [], []⟩, f_Notesu_containsu, ["self", "name"], ["self", "name"]⟩
def e_Notesu_lenu : Ent := ⟨15, ⟨("Notes", some "__len__"), "__len__", "Notes.__len__", defArgs (clsAt (top 12) 5), defBody (clsAt (top 12) 5), defScope (clsAt (top 12) 5), [], []⟩, f_Notesu_lenu, ["self"], ["self"]⟩
def e_Notesu_addu : Ent := ⟨17, ⟨("Notes", some "__add__"), "__add__", "Notes.__add__", defArgs (clsAt (top 12) 7), defBody (clsAt (top 12) 7), defScope (clsAt (top 12) 7), [], []⟩, f_Notesu_addu, ["self", "change"], ["self", "change"]⟩
def e_Notesu_iaddu : Ent := ⟨18, ⟨("Notes", some "__iadd__"), "__iadd__", "Notes.__iadd__", defArgs (clsAt (top 12) 8), defBody (clsAt (top 12) 8), defScope (clsAt (top 12) 8), [], []⟩, f_Notesu_iaddu, ["self", "change"], ["self", "change"]⟩
def e_Notesu_equ : Ent := ⟨19, ⟨("Notes", some "__eq__"), "__eq__", "Notes.__eq__", defArgs (clsAt (top 12) 9), defBody (clsAt (top 12) 9), defScope (clsAt (top 12) 9), [], []⟩, f_Notesu_equ, ["self", "other"], ["self", "other"]⟩
def e_Notesu_ltu : Ent := ⟨20, ⟨("Notes", some "__lt__"), "__lt__", "Notes.__lt__", defArgs (clsAt (top 12) 10), defBody (clsAt (top 12) 10), defScope (clsAt (top 12) 10), [], []⟩, f_Notesu_ltu, ["self", "other"], ["self", "other"]⟩
def e_Notesu_leu : Ent := ⟨21, ⟨("Notes", some "__le__"), "__le__", "Notes.__le__", defArgs (clsAt (top 12) 11), defBody (clsAt (top 12) 11), defScope (clsAt (top 12) 11), [], []⟩, f_Notesu_leu, ["self", "other"], ["self", "other"]⟩
def e_Notesu_gtu : Ent := ⟨22, ⟨("Notes", some "__gt__"), "__gt__", "Notes.__gt__", defArgs (clsAt (top 12) 12), defBody (clsAt (top 12) 12), defScope (clsAt (top 12) 12), [], []⟩, f_Notesu_gtu, ["self", "other"], ["self", "other"]⟩
def e_Notesu_geu : Ent := ⟨23, ⟨("Notes", some "__ge__"), "__ge__", "Notes.__ge__", defArgs (clsAt (top 12) 13), defBody (clsAt (top 12) 13), defScope (clsAt (top 12) 13), [], []⟩, f_Notesu_geu, ["self", "other"], ["self", "other"]⟩
def e_within : Ent := ⟨24, ⟨("within", none), "within", "within", defArgs (top 14), defBody (top 14), defScope (top 14), [], []⟩, f_within, ["value", "low", "high"], ["value", "low", "high"]⟩
def e_common : Ent := ⟨25, ⟨("common", none), "common", "common", defArgs (top 15), defBody (top 15), defScope (top 15), [], []⟩, f_common, ["first", "second"], ["first", "second", "low", "high"]⟩
def e_sides : Ent := ⟨26, ⟨("sides", none), "sides", "sides", defArgs (top 16), defBody (top 16), defScope (top 16), [], []⟩, f_sides, ["low", "high"], ["low", "high", "found"]⟩
def e_nearest : Ent := ⟨27, ⟨("nearest", none), "nearest", "nearest", defArgs (top 17), defBody (top 17), defScope (top 17), [], []⟩, f_nearest, ["low", "high"], ["low", "high"]⟩
def e_moved : Ent := ⟨28, ⟨("moved", none), "moved", "moved", defArgs (top 18), defBody (top 18), defScope (top 18), [], []⟩, f_moved, ["limit", "k"], ["limit", "k"]⟩
def e_Patternu_initu : Ent := ⟨29, ⟨("Pattern", some "__init__"), "__init__", "Pattern.__init__", defArgs (clsAt (top 19) 0), defBody (clsAt (top 19) 0), defScope (clsAt (top 19) 0), [.non], []⟩, f_Patternu_initu, ["self", "limits"], ["self", "limits", "name"]⟩
def e_Pattern_limits : Ent := ⟨30, ⟨("Pattern", some "limits"), "limits", "Pattern.limits", defArgs (clsAt (top 19) 1), defBody (clsAt (top 19) 1), defScope (clsAt (top 19) 1), [], []⟩, f_Pattern_limits, ["self"], ["self"]⟩
def e_Patternu_containsu : Ent := ⟨31, ⟨("Pattern", some "__contains__"), "__contains__", "Pattern.__contains__", defArgs (clsAt (top 19) 2), defBody (clsAt (top 19) 2), defScope (clsAt (top 19) 2), [], []⟩, f_Patternu_containsu, ["self", "notes"], ["self", "notes", "name", "low", "high"]⟩
def e_Patternu_equ : Ent := ⟨32, ⟨("Pattern", some "__eq__"), "__eq__", "Pattern.__eq__", defArgs (clsAt (top 19) 3), defBody (clsAt (top 19) 3), defScope (clsAt (top 19) 3), [], []⟩, f_Patternu_equ, ["self", "other"], ["self", "other"]⟩
def e_Patternu_andu : Ent := ⟨33, ⟨("Pattern", some "__and__"), "__and__", "Pattern.__and__", defArgs (clsAt (top 19) 4), defBody (clsAt (top 19) 4), defScope (clsAt (top 19) 4), [], []⟩, f_Patternu_andu, ["self", "other"], ["self", "other", "bounds", "name", "low", "high", "both"]⟩
def e_Patternu_leu : Ent := ⟨34, ⟨("Pattern", some "__le__"), "__le__", "Pattern.__le__", defArgs (clsAt (top 19) 5), defBody (clsAt (top 19) 5), defScope (clsAt (top 19) 5), [], []⟩, f_Patternu_leu, ["self", "other"], ["self", "other", "name", "low", "high", "mine"]⟩
def e_Patternu_subu : Ent := ⟨35, ⟨("Pattern", some "__sub__"), "__sub__", "Pattern.__sub__", defArgs (clsAt (top 19) 6), defBody (clsAt (top 19) 6), defScope (clsAt (top 19) 6), [], []⟩, f_Patternu_subu, ["self", "other"], ["self", "other", "rest", "pieces", "name", "low", "high", "mine", "side", "part", "bounds", "both"]⟩
def e_Pattern_least : Ent := ⟨36, ⟨("Pattern", some "least"), "least", "Pattern.least", defArgs (clsAt (top 19) 7), defBody (clsAt (top 19) 7), defScope (clsAt (top 19) 7), [], []⟩, f_Pattern_least, ["self"], ["self", "name", "low", "high"]⟩
def e_Pattern_before : Ent := ⟨37, ⟨("Pattern", some "before"), "before", "Pattern.before", defArgs (clsAt (top 19) 8), defBody (clsAt (top 19) 8), defScope (clsAt (top 19) 8), [], []⟩, f_Pattern_before, ["self", "change"], ["self", "change", "bounds", "name", "kind", "k", "low", "high"]⟩
def e__law_pool : Ent := ⟨300, ⟨("_law_pool", none), "_law_pool", "_law_pool", defArgs (top 21), defBody (top 21), defScope (top 21), [], []⟩, f__law_pool, ["cell"], ["cell", "seed", "one", "two", "three", "four"]⟩
def e__law_draw : Ent := ⟨301, ⟨("_law_draw", none), "_law_draw", "_law_draw", defArgs (top 22), defBody (top 22), defScope (top 22), [], []⟩, f__law_draw, ["pool", "many"], ["pool", "many", "drawn"]⟩
def e__law_names : Ent := ⟨302, ⟨("_law_names", none), "_law_names", "_law_names", defArgs (top 23), defBody (top 23), defScope (top 23), [], []⟩, f__law_names, ["pool", "many"], ["pool", "many", "names", "k", "way", "size", "name", "j"]⟩
def e__law_is_integer : Ent := ⟨303, ⟨("_law_is_integer", none), "_law_is_integer", "_law_is_integer", defArgs (top 24), defBody (top 24), defScope (top 24), [], []⟩, f__law_is_integer, ["found"], ["found"]⟩
def e__law_far : Ent := ⟨304, ⟨("_law_far", none), "_law_far", "_law_far", defArgs (top 25), defBody (top 25), defScope (top 25), [], []⟩, f__law_far, ["pool"], ["pool"]⟩
def e__law_limits : Ent := ⟨305, ⟨("_law_limits", none), "_law_limits", "_law_limits", defArgs (top 26), defBody (top 26), defScope (top 26), [], []⟩, f__law_limits, ["pool", "names", "far"], ["pool", "names", "far", "limits", "name", "way", "low", "wide"]⟩
def e__law_listed : Ent := ⟨306, ⟨("_law_listed", none), "_law_listed", "_law_listed", defArgs (top 29), defBody (top 29), defScope (top 29), [], []⟩, f__law_listed, ["limits"], ["limits", "listed", "name", "n", "limit"]⟩
def e__law_is_limit : Ent := ⟨307, ⟨("_law_is_limit", none), "_law_is_limit", "_law_is_limit", defArgs (top 30), defBody (top 30), defScope (top 30), [], []⟩, f__law_is_limit, ["found", "due"], ["found", "due"]⟩
def e__law_same_limits : Ent := ⟨308, ⟨("_law_same_limits", none), "_law_same_limits", "_law_same_limits", defArgs (top 31), defBody (top 31), defScope (top 31), [], []⟩, f__law_same_limits, ["found", "due"], ["found", "due", "k", "limit"]⟩
def b__law_within : CSs := (.cons (.ret (.and_ (.or_ (.cmp .is_ (.var 1) .non) (.cmp .le (.var 1) (.var 0))) (.or_ (.cmp .is_ (.var 2) .non) (.cmp .le (.var 0) (.var 2))))) .nil)
def f__law_within : FDef := ⟨3, [], 3, 2, b__law_within⟩
def e__law_within : Ent := ⟨400, ⟨("_law_within", none), "_law_within", "_law_within", defArgs (top 27), defBody (top 27), defScope (top 27), [], []⟩, f__law_within, ["k", "low", "high"], ["k", "low", "high"]⟩
def b__law_inside : CSs := (.cons (.for_ (.var 2) (.val (.var 1)) (.cons (.ife (.not_ (.call 400 (.cons (.bm .get true (.var 0) (.cons (.var 2) (.cons (.int 0) .nil))) (.cons (.sub (.sub (.var 1) (.var 2)) (.int 0)) (.cons (.sub (.sub (.var 1) (.var 2)) (.int 1)) .nil))))) (.cons (.ret (.bl false)) .nil) .nil) .nil)) (.cons (.ret (.bl true)) .nil))
def f__law_inside : FDef := ⟨2, [], 3, 2, b__law_inside⟩
def e__law_inside : Ent := ⟨401, ⟨("_law_inside", none), "_law_inside", "_law_inside", defArgs (top 28), defBody (top 28), defScope (top 28), [], []⟩, f__law_inside, ["values", "limits"], ["values", "limits", "name"]⟩
def b__law_parts : CSs := (.cons (.set (.var 4) (.dct false .nil)) (.cons (.for_ (.var 5) (.val (.var 2)) (.cons (.set (.var 6) (.call 301 (.cons (.var 0) (.cons (.int 6) .nil)))) (.cons (.set (.tup (.cons (.var 7) (.cons (.var 8) .nil))) (.bm .get true (.var 1) (.cons (.var 5) (.cons (.tup (.cons .non (.cons .non .nil))) .nil)))) (.cons (.set (.var 9) (.bin .sub true (.bin .add true (.var 3) (.call 301 (.cons (.var 0) (.cons (.int 9) .nil)))) (.int 4))) (.cons (.ife (.and_ (.cmp .isnot (.var 7) .non) (.cmp .eq (.var 6) (.int 1))) (.cons (.set (.var 9) (.bin .sub true (.var 7) (.blt .int true (.cons (.cmp .eq (.call 301 (.cons (.var 0) (.cons (.int 7) .nil))) (.int 6)) .nil)))) .nil) .nil) (.cons (.ife (.and_ (.cmp .isnot (.var 8) .non) (.cmp .eq (.var 6) (.int 2))) (.cons (.set (.var 9) (.bin .add true (.var 8) (.blt .int true (.cons (.cmp .eq (.call 301 (.cons (.var 0) (.cons (.int 7) .nil))) (.int 6)) .nil)))) .nil) .nil) (.cons (.ife (.or_ (.cmp .eq (.var 6) (.int 1)) (.or_ (.cmp .eq (.var 6) (.int 2)) (.cmp .eq (.var 6) (.int 3)))) (.cons (.setI (.var 4) (.var 5) (.tup (.cons (.str "set") (.cons (.var 9) .nil)))) .nil) .nil) (.cons (.ife (.cmp .gt (.var 6) (.int 3)) (.cons (.setI (.var 4) (.var 5) (.tup (.cons (.str "add") (.cons (.sub (.lst true (.cons (.var 9) (.cons (.bin .sub true (.call 301 (.cons (.var 0) (.cons (.int 10) .nil))) (.int 5)) .nil))) (.bin .sub true (.var 6) (.int 4))) .nil)))) .nil) .nil) .nil)))))))) (.cons (.ret (.var 4)) .nil)))
def f__law_parts : FDef := ⟨4, [], 10, 2, b__law_parts⟩
def e__law_parts : Ent := ⟨402, ⟨("_law_parts", none), "_law_parts", "_law_parts", defArgs (top 32), defBody (top 32), defScope (top 32), [], []⟩, f__law_parts, ["pool", "limits", "names", "far"], ["pool", "limits", "names", "far", "parts", "name", "way", "low", "high", "k"]⟩
def b__law_back : CSs := (.cons (.set (.var 2) (.dct false .nil)) (.cons (.for_ (.var 3) (.val (.var 0)) (.cons (.set (.tup (.cons (.var 4) (.cons (.var 5) .nil))) (.sub (.var 0) (.var 3))) (.cons (.set (.tup (.cons (.var 6) (.cons (.var 7) .nil))) (.bm .get true (.var 1) (.cons (.var 3) (.cons (.tup (.cons (.str "add") (.cons (.int 0) .nil))) .nil)))) (.cons (.ife (.and_ (.cmp .eq (.var 6) (.str "set")) (.not_ (.call 400 (.cons (.var 7) (.cons (.var 4) (.cons (.var 5) .nil)))))) (.cons (.ret .non) .nil) .nil) (.cons (.ife (.and_ (.cmp .eq (.var 6) (.str "add")) (.cmp .isnot (.var 4) .non)) (.cons (.setI (.var 2) (.var 3) (.tup (.cons (.bin .sub true (.var 4) (.var 7)) (.cons .non .nil)))) .nil) .nil) (.cons (.ife (.and_ (.cmp .eq (.var 6) (.str "add")) (.cmp .isnot (.var 5) .non)) (.cons (.setI (.var 2) (.var 3) (.tup (.cons (.sub (.bm .get true (.var 2) (.cons (.var 3) (.cons (.tup (.cons .non (.cons .non .nil))) .nil))) (.int 0)) (.cons (.bin .sub true (.var 5) (.var 7)) .nil)))) .nil) .nil) .nil)))))) (.cons (.ret (.var 2)) .nil)))
def f__law_back : FDef := ⟨2, [], 8, 2, b__law_back⟩
def e__law_back : Ent := ⟨403, ⟨("_law_back", none), "_law_back", "_law_back", defArgs (top 33), defBody (top 33), defScope (top 33), [], []⟩, f__law_back, ["limits", "parts"], ["limits", "parts", "back", "name", "low", "high", "kind", "k"]⟩
def b__law_told : CSs := (.cons (.set (.var 2) .non) (.cons (.try_ (.cons (.set (.var 2) (.meth (.var 0) 4 (.cons (.var 1) .nil))) .nil) [⟨101, none, [.set 2 .non]⟩]) (.cons (.ret (.var 2)) .nil)))
def f__law_told : FDef := ⟨2, [], 3, 2, b__law_told⟩
def e__law_told : Ent := ⟨404, ⟨("_law_told", none), "_law_told", "_law_told", defArgs (top 34), defBody (top 34), defScope (top 34), [], []⟩, f__law_told, ["pattern", "change"], ["pattern", "change", "found"]⟩
def b__law_kind : CSs := (.cons (.set (.var 2) (.bl false)) (.cons (.try_ (.cons (.set (.var 3) (.meth (.var 0) 4 (.cons (.var 1) .nil))) (.cons .never .nil)) [⟨100, (some 4), [.set 2 (.and_ (.isx 101) (.and_ .isv (.not_ (.isx 108))))]⟩]) (.cons (.ret (.var 2)) .nil)))
def f__law_kind : FDef := ⟨2, [], 5, 2, b__law_kind⟩
def e__law_kind : Ent := ⟨405, ⟨("_law_kind", none), "_law_kind", "_law_kind", defArgs (top 35), defBody (top 35), defScope (top 35), [], []⟩, f__law_kind, ["pattern", "change"], ["pattern", "change", "right", "found", "e"]⟩
def b__law_right : CSs := (.cons (.set (.var 3) (.call 404 (.cons (.var 0) (.cons (.var 1) .nil)))) (.cons (.ife (.cmp .is_ (.var 2) .non) (.cons (.ret (.and_ (.cmp .is_ (.var 3) .non) (.call 405 (.cons (.var 0) (.cons (.var 1) .nil))))) .nil) .nil) (.cons (.ife (.or_ (.not_ (.isin (.var 3) (.cls 2))) (.not_ (.cmp .eq (.var 3) (.frz (.mk 2 (.cons (.blt .dict true (.cons (.var 2) .nil)) .nil)))))) (.cons (.ret (.bl false)) .nil) .nil) (.cons (.ret (.call 308 (.cons (.meth (.var 3) 2 .nil) (.cons (.call 306 (.cons (.var 2) .nil)) .nil)))) .nil))))
def f__law_right : FDef := ⟨3, [], 4, 2, b__law_right⟩
def e__law_right : Ent := ⟨406, ⟨("_law_right", none), "_law_right", "_law_right", defArgs (top 36), defBody (top 36), defScope (top 36), [], []⟩, f__law_right, ["pattern", "change", "due"], ["pattern", "change", "due", "found"]⟩
def b__law_same_notes : CSs := (.cons (.for_ (.tup (.cons (.var 5) (.cons (.var 6) .nil))) (.val (.var 4)) (.cons (.set (.var 7) (.dct false .nil)) (.cons (.for_ (.var 8) (.val (.var 3)) (.cons (.set (.tup (.cons (.var 9) (.cons (.var 10) .nil))) (.bm .get true (.or_ (.var 2) (.dct true .nil)) (.cons (.var 8) (.cons (.tup (.cons .non (.cons .non .nil))) .nil)))) (.cons (.setI (.var 7) (.var 8) (.or_ (.sub (.lst true (.cons (.var 9) (.cons (.var 10) .nil))) (.bin .mod true (.var 6) (.int 2))) (.int 0))) .nil))) (.cons (.setI (.var 7) (.sub (.var 3) (.var 5)) (.bin .add true (.sub (.var 7) (.sub (.var 3) (.var 5))) (.sub (.lst true (.cons (.int 0) (.cons (.int 1) (.cons (.neg (.int 1)) (.cons (.int 2) .nil))))) (.var 6)))) (.cons (.set (.var 11) (.cmp .in_ (.ocall (.var 1) (.cons (.frz (.mk 0 (.cons (.blt .dict true (.cons (.var 7) .nil)) .nil))) .nil)) (.var 0))) (.cons (.ife (.or_ (.and_ (.cmp .is_ (.var 2) .non) (.var 11)) (.and_ (.cmp .isnot (.var 2) .non) (.cmp .ne (.cmp .in_ (.frz (.mk 0 (.cons (.blt .dict true (.cons (.var 7) .nil)) .nil))) (.meth (.var 0) 4 (.cons (.var 1) .nil))) (.var 11)))) (.cons (.ret (.bl false)) .nil) .nil) .nil)))))) (.cons (.ret (.bl true)) .nil))
def f__law_same_notes : FDef := ⟨5, [], 12, 2, b__law_same_notes⟩
def e__law_same_notes : Ent := ⟨407, ⟨("_law_same_notes", none), "_law_same_notes", "_law_same_notes", defArgs (top 37), defBody (top 37), defScope (top 37), [], []⟩, f__law_same_notes, ["pattern", "change", "due", "names", "beside"], ["pattern", "change", "due", "names", "beside", "at", "way", "values", "name", "low", "high", "there"]⟩
def b_law : CSs := (.cons (.for_ (.var 1) (.val (.bin .add true (.lst true (.cons (.int 0) .nil)) (.var 0))) (.cons (.set (.var 2) (.call 300 (.cons (.var 1) .nil))) (.cons (.set (.var 3) (.lst true (.cons (.call 301 (.cons (.var 2) (.cons (.int 7) .nil))) (.cons (.call 301 (.cons (.var 2) (.cons (.int 7) .nil))) (.cons (.call 301 (.cons (.var 2) (.cons (.int 7) .nil))) .nil))))) (.cons (.set (.var 4) (.lc true [5] (.var 5) (.rng1 (.int 3)) .no (.tup (.cons (.call 301 (.cons (.var 2) (.cons (.int 6) .nil))) (.cons (.call 301 (.cons (.var 2) (.cons (.int 4) .nil))) .nil))))) (.cons (.set (.var 6) (.call 304 (.cons (.var 2) .nil))) (.cons (.set (.var 7) (.call 302 (.cons (.var 2) (.cons (.int 6) .nil)))) (.cons (.set (.var 8) (.call 305 (.cons (.var 2) (.cons (.slc true (.var 7) .no (.so (.sub (.var 3) (.int 0)))) (.cons (.var 6) .nil))))) (.cons (.set (.var 9) (.call 402 (.cons (.var 2) (.cons (.var 8) (.cons (.slc true (.var 7) (.so (.bin .sub true (.int 6) (.sub (.var 3) (.int 1)))) .no) (.cons (.var 6) .nil)))))) (.cons (.set (.var 10) (.frz (.mk 2 (.cons (.blt .dict true (.cons (.var 8) .nil)) .nil)))) (.cons (.set (.var 11) (.frz (.mk 1 (.cons (.blt .dict true (.cons (.var 9) .nil)) .nil)))) (.cons (.set (.var 12) (.call 403 (.cons (.var 8) (.cons (.var 9) .nil)))) (.cons (.ife (.not_ (.call 406 (.cons (.var 10) (.cons (.var 11) (.cons (.var 12) .nil))))) (.cons (.ret (.bl false)) .nil) .nil) (.cons (.ife (.not_ (.call 407 (.cons (.var 10) (.cons (.var 11) (.cons (.var 12) (.cons (.var 7) (.cons (.var 4) .nil))))))) (.cons (.ret (.bl false)) .nil) .nil) (.cons (.ife (.cmp .isnot (.var 12) .non) (.cons (.set (.var 13) (.call 402 (.cons (.var 2) (.cons (.var 12) (.cons (.slc true (.var 7) .no (.so (.sub (.var 3) (.int 2)))) (.cons (.var 6) .nil)))))) (.cons (.ife (.not_ (.call 406 (.cons (.meth (.var 10) 4 (.cons (.var 11) .nil)) (.cons (.frz (.mk 1 (.cons (.blt .dict true (.cons (.var 13) .nil)) .nil))) (.cons (.call 403 (.cons (.var 12) (.cons (.var 13) .nil))) .nil))))) (.cons (.ret (.bl false)) .nil) .nil) .nil)) .nil) (.cons (.ife (.not_ (.call 308 (.cons (.meth (.var 10) 2 .nil) (.cons (.call 306 (.cons (.var 8) .nil)) .nil)))) (.cons (.ret (.bl false)) .nil) .nil) (.cons (.ife (.not_ (.cmp .eq (.frz (.mk 1 (.cons (.blt .dict true (.cons (.var 9) .nil)) .nil))) (.var 11))) (.cons (.ret (.bl false)) .nil) .nil) .nil)))))))))))))))) (.cons (.ret (.bl true)) .nil))
def f_law : FDef := ⟨1, [], 14, 0, b_law⟩
def e_law : Ent := ⟨408, ⟨("law", none), "law", "law", defArgs (top 38), defBody (top 38), defScope (top 38), [], []⟩, f_law, ["script"], ["script", "cell", "pool", "sizes", "beside", "k", "far", "names", "limits", "parts", "pattern", "change", "due", "others"]⟩
def lw : Lw := ⟨[e_name_place, e_order_key, e_changed, e_without_zeros, e_joined, e_Changeu_initu, e_Change_parts, e_Changeu_lenu, e_Changeu_equ, e_Changeu_rshiftu, e_Changeu_callu, e_Notesu_initu, e_Notesu_getitemu, e_Notesu_setitemu, e_Notesu_containsu, e_Notesu_lenu, e_Notesu_addu, e_Notesu_iaddu, e_Notesu_equ, e_Notesu_ltu, e_Notesu_leu, e_Notesu_gtu, e_Notesu_geu, e_within, e_common, e_sides, e_nearest, e_moved, e_Patternu_initu, e_Pattern_limits, e_Patternu_containsu, e_Patternu_equ, e_Patternu_andu, e_Patternu_leu, e_Patternu_subu, e_Pattern_least, e_Pattern_before, e__law_pool, e__law_draw, e__law_names, e__law_is_integer, e__law_far, e__law_limits, e__law_listed, e__law_is_limit, e__law_same_limits, e__law_within, e__law_inside, e__law_parts, e__law_back, e__law_told, e__law_kind, e__law_right, e__law_same_notes, e_law], ["Notes", "Change", "Pattern", ⟨#[]⟩, ⟨#[]⟩, ⟨#[]⟩, ⟨#[]⟩], ["pairs", "parts", "limits", "least", "before"], ["rank", "held", "listed", "bounds", "index", "over", "name", "at"], [(0, "name_place"), (1, "order_key"), (2, "changed"), (3, "without_zeros"), (4, "joined"), (24, "within"), (25, "common"), (26, "sides"), (27, "nearest"), (28, "moved"), (300, "_law_pool"), (301, "_law_draw"), (302, "_law_names"), (303, "_law_is_integer"), (304, "_law_far"), (305, "_law_limits"), (306, "_law_listed"), (307, "_law_is_limit"), (308, "_law_same_limits"), (400, "_law_within"), (401, "_law_inside"), (402, "_law_parts"), (403, "_law_back"), (404, "_law_told"), (405, "_law_kind"), (406, "_law_right"), (407, "_law_same_notes"), (408, "law")], [(1, 1, 6), (2, 2, 30), (2, 3, 36), (2, 4, 37)], [(1, .init, 5), (1, .len, 7), (1, (.cmp .eq), 8), (1, (.bin .shr), 9), (1, .call, 10), (0, .init, 11), (0, .getitem, 12), (0, .setitem, 13), (0, (.cmp .in_), 14), (0, .len, 15), (0, (.bin .add), 17), (0, .iadd, 18), (0, (.cmp .eq), 19), (0, (.cmp .lt), 20), (0, (.cmp .le), 21), (0, (.cmp .gt), 22), (0, (.cmp .ge), 23), (2, .init, 29), (2, (.cmp .in_), 31), (2, (.cmp .eq), 32), (2, (.bin .band), 33), (2, (.cmp .le), 34), (2, (.bin .sub), 35)], [(0, 1), (0, 0), (1, 2), (2, 3), (2, 2)], 0, [("SceneError", true, [100, 102, 103, 104, 105, 106, 107, 109, 110, 111, 112, 113, 114, 115]), ("NoCommon", true, [100, 101, 102, 103, 104, 105, 106, 107, 109, 110, 111, 112, 113, 114, 115]), ("SceneError", true, [100, 102, 103, 104, 105, 106, 107, 109, 110, 111, 112, 113, 114, 115]), ("SceneError", true, [100, 102, 103, 104, 105, 106, 107, 109, 110, 111, 112, 113, 114, 115]), ("SceneError", true, [100, 102, 103, 104, 105, 106, 107, 109, 110, 111, 112, 113, 114, 115]), ("SceneError", true, [100, 102, 103, 104, 105, 106, 107, 109, 110, 111, 112, 113, 114, 115]), ("SceneError", true, [100, 102, 103, 104, 105, 106, 107, 109, 110, 111, 112, 113, 114, 115]), ("SceneError", true, [100, 102, 103, 104, 105, 106, 107, 109, 110, 111, 112, 113, 114, 115]), ("TooMany", true, [100, 102, 103, 104, 105, 106, 107, 108, 109, 110, 111, 112, 113, 114, 115]), ("SceneError", true, [100, 102, 103, 104, 105, 106, 107, 109, 110, 111, 112, 113, 114, 115]), ("SceneError", true, [100, 102, 103, 104, 105, 106, 107, 109, 110, 111, 112, 113, 114, 115]), ("SceneError", true, [100, 102, 103, 104, 105, 106, 107, 109, 110, 111, 112, 113, 114, 115]), ("SceneError", true, [100, 102, 103, 104, 105, 106, 107, 109, 110, 111, 112, 113, 114, 115]), ("SceneError", true, [100, 102, 103, 104, 105, 106, 107, 109, 110, 111, 112, 113, 114, 115]), ("SceneError", true, [100, 102, 103, 104, 105, 106, 107, 109, 110, 111, 112, 113, 114, 115]), ("SceneError", true, [100, 102, 103, 104, 105, 106, 107, 109, 110, 111, 112, 113, 114, 115])], []⟩
end K01
end

section
set_option Elab.async false
set_option linter.all false
set_option maxRecDepth 100000
set_option maxHeartbeats 4000000
set_option autoImplicit false
namespace K01
open PySem L2 PyProof.Rows Core
theorem k_name_place (K : PySem.W.Frag) : BindOk K e_name_place := fun f fd F n h1 h2 => by
  have e : n = 1 := Nat.le_antisymm h1 h2
  subst e
  exact ⟨[], [], .nil, F.bindsN fun _ _ _ _ _ _ us hl => match us, hl with | [_], _ => rfl, rfl, fun _ _ => .nil⟩
theorem k_order_key (K : PySem.W.Frag) : BindOk K e_order_key := fun f fd F n h1 h2 => by
  have e : n = 1 := Nat.le_antisymm h1 h2
  subst e
  exact ⟨[], [], .nil, F.bindsN fun _ _ _ _ _ _ us hl => match us, hl with | [_], _ => rfl, rfl, fun _ _ => .nil⟩
theorem k_changed (K : PySem.W.Frag) : BindOk K e_changed := fun f fd F n h1 h2 => by
  have e : n = 2 := Nat.le_antisymm h1 h2
  subst e
  exact ⟨[], [], .nil, F.bindsN fun _ _ _ _ _ _ us hl => match us, hl with | [_, _], _ => rfl, rfl, fun _ _ => .nil⟩
theorem k_without_zeros (K : PySem.W.Frag) : BindOk K e_without_zeros := fun f fd F n h1 h2 => by
  have e : n = 1 := Nat.le_antisymm h1 h2
  subst e
  exact ⟨[], [], .nil, F.bindsN fun _ _ _ _ _ _ us hl => match us, hl with | [_], _ => rfl, rfl, fun _ _ => .nil⟩
theorem k_joined (K : PySem.W.Frag) : BindOk K e_joined := fun f fd F n h1 h2 => by
  have e : n = 3 := Nat.le_antisymm h1 h2
  subst e
  exact ⟨[], [], .nil, F.bindsN fun _ _ _ _ _ _ us hl => match us, hl with | [_, _, _], _ => rfl, rfl, fun _ _ => .nil⟩
theorem k_Changeu_initu (K : PySem.W.Frag) : BindOk K e_Changeu_initu := fun f fd F n h1 h2 => by
  have h1 : n ≤ 2 := h1
  have h2 : 2 ≤ n + 1 := h2
  have e : n = 1 ∨ n = 2 := by omega
  rcases e with rfl | rfl
  · obtain ⟨ds, hv, hb⟩ := F.binds1 (ps := e_Changeu_initu.ps) 1 0 (fun z => nomatch z) rfl fun T kV doc pm an cdv ct us its l1 l2 => by
      match us, its, l1, l2 with
      | [_], [_], _, _ => exact ⟨_, rfl, by kernel_rfl⟩
    exact ⟨ds, [.non], hv, hb, rfl, fun _ _ => (.cons .non .nil)⟩
  · obtain ⟨ds, hv, hb⟩ := F.binds1 (ps := e_Changeu_initu.ps) 2 1 (fun z => nomatch z) rfl fun T kV doc pm an cdv ct us its l1 l2 => by
      match us, its, l1, l2 with
      | [_, _], [_], _, _ => exact ⟨_, rfl, by kernel_rfl⟩
    exact ⟨ds, [], hv, hb, rfl, fun _ _ => .nil⟩
theorem k_Change_parts (K : PySem.W.Frag) : BindOk K e_Change_parts := fun f fd F n h1 h2 => by
  have e : n = 1 := Nat.le_antisymm h1 h2
  subst e
  exact ⟨[], [], .nil, F.bindsN fun _ _ _ _ _ _ us hl => match us, hl with | [_], _ => rfl, rfl, fun _ _ => .nil⟩
theorem k_Changeu_lenu (K : PySem.W.Frag) : BindOk K e_Changeu_lenu := fun f fd F n h1 h2 => by
  have e : n = 1 := Nat.le_antisymm h1 h2
  subst e
  exact ⟨[], [], .nil, F.bindsN fun _ _ _ _ _ _ us hl => match us, hl with | [_], _ => rfl, rfl, fun _ _ => .nil⟩
theorem k_Changeu_equ (K : PySem.W.Frag) : BindOk K e_Changeu_equ := fun f fd F n h1 h2 => by
  have e : n = 2 := Nat.le_antisymm h1 h2
  subst e
  exact ⟨[], [], .nil, F.bindsN fun _ _ _ _ _ _ us hl => match us, hl with | [_, _], _ => rfl, rfl, fun _ _ => .nil⟩
theorem k_Changeu_rshiftu (K : PySem.W.Frag) : BindOk K e_Changeu_rshiftu := fun f fd F n h1 h2 => by
  have e : n = 2 := Nat.le_antisymm h1 h2
  subst e
  exact ⟨[], [], .nil, F.bindsN fun _ _ _ _ _ _ us hl => match us, hl with | [_, _], _ => rfl, rfl, fun _ _ => .nil⟩
theorem k_Changeu_callu (K : PySem.W.Frag) : BindOk K e_Changeu_callu := fun f fd F n h1 h2 => by
  have e : n = 2 := Nat.le_antisymm h1 h2
  subst e
  exact ⟨[], [], .nil, F.bindsN fun _ _ _ _ _ _ us hl => match us, hl with | [_, _], _ => rfl, rfl, fun _ _ => .nil⟩
theorem k_Notesu_initu (K : PySem.W.Frag) : BindOk K e_Notesu_initu := fun f fd F n h1 h2 => by
  have h1 : n ≤ 2 := h1
  have h2 : 2 ≤ n + 1 := h2
  have e : n = 1 ∨ n = 2 := by omega
  rcases e with rfl | rfl
  · obtain ⟨ds, hv, hb⟩ := F.binds1 (ps := e_Notesu_initu.ps) 1 0 (fun z => nomatch z) rfl fun T kV doc pm an cdv ct us its l1 l2 => by
      match us, its, l1, l2 with
      | [_], [_], _, _ => exact ⟨_, rfl, by kernel_rfl⟩
    exact ⟨ds, [.non], hv, hb, rfl, fun _ _ => (.cons .non .nil)⟩
  · obtain ⟨ds, hv, hb⟩ := F.binds1 (ps := e_Notesu_initu.ps) 2 1 (fun z => nomatch z) rfl fun T kV doc pm an cdv ct us its l1 l2 => by
      match us, its, l1, l2 with
      | [_, _], [_], _, _ => exact ⟨_, rfl, by kernel_rfl⟩
    exact ⟨ds, [], hv, hb, rfl, fun _ _ => .nil⟩
theorem k_Notesu_getitemu (K : PySem.W.Frag) : BindOk K e_Notesu_getitemu := fun f fd F n h1 h2 => by
  have e : n = 2 := Nat.le_antisymm h1 h2
  subst e
  exact ⟨[], [], .nil, F.bindsN fun _ _ _ _ _ _ us hl => match us, hl with | [_, _], _ => rfl, rfl, fun _ _ => .nil⟩
theorem k_Notesu_setitemu (K : PySem.W.Frag) : BindOk K e_Notesu_setitemu := fun f fd F n h1 h2 => by
  have e : n = 3 := Nat.le_antisymm h1 h2
  subst e
  exact ⟨[], [], .nil, F.bindsN fun _ _ _ _ _ _ us hl => match us, hl with | [_, _, _], _ => rfl, rfl, fun _ _ => .nil⟩
theorem k_Notesu_containsu (K : PySem.W.Frag) : BindOk K e_Notesu_containsu := fun f fd F n h1 h2 => by
  have e : n = 2 := Nat.le_antisymm h1 h2
  subst e
  exact ⟨[], [], .nil, F.bindsN fun _ _ _ _ _ _ us hl => match us, hl with | [_, _], _ => rfl, rfl, fun _ _ => .nil⟩
theorem k_Notesu_lenu (K : PySem.W.Frag) : BindOk K e_Notesu_lenu := fun f fd F n h1 h2 => by
  have e : n = 1 := Nat.le_antisymm h1 h2
  subst e
  exact ⟨[], [], .nil, F.bindsN fun _ _ _ _ _ _ us hl => match us, hl with | [_], _ => rfl, rfl, fun _ _ => .nil⟩
theorem k_Notesu_addu (K : PySem.W.Frag) : BindOk K e_Notesu_addu := fun f fd F n h1 h2 => by
  have e : n = 2 := Nat.le_antisymm h1 h2
  subst e
  exact ⟨[], [], .nil, F.bindsN fun _ _ _ _ _ _ us hl => match us, hl with | [_, _], _ => rfl, rfl, fun _ _ => .nil⟩
theorem k_Notesu_iaddu (K : PySem.W.Frag) : BindOk K e_Notesu_iaddu := fun f fd F n h1 h2 => by
  have e : n = 2 := Nat.le_antisymm h1 h2
  subst e
  exact ⟨[], [], .nil, F.bindsN fun _ _ _ _ _ _ us hl => match us, hl with | [_, _], _ => rfl, rfl, fun _ _ => .nil⟩
theorem k_Notesu_equ (K : PySem.W.Frag) : BindOk K e_Notesu_equ := fun f fd F n h1 h2 => by
  have e : n = 2 := Nat.le_antisymm h1 h2
  subst e
  exact ⟨[], [], .nil, F.bindsN fun _ _ _ _ _ _ us hl => match us, hl with | [_, _], _ => rfl, rfl, fun _ _ => .nil⟩
theorem k_Notesu_ltu (K : PySem.W.Frag) : BindOk K e_Notesu_ltu := fun f fd F n h1 h2 => by
  have e : n = 2 := Nat.le_antisymm h1 h2
  subst e
  exact ⟨[], [], .nil, F.bindsN fun _ _ _ _ _ _ us hl => match us, hl with | [_, _], _ => rfl, rfl, fun _ _ => .nil⟩
theorem k_Notesu_leu (K : PySem.W.Frag) : BindOk K e_Notesu_leu := fun f fd F n h1 h2 => by
  have e : n = 2 := Nat.le_antisymm h1 h2
  subst e
  exact ⟨[], [], .nil, F.bindsN fun _ _ _ _ _ _ us hl => match us, hl with | [_, _], _ => rfl, rfl, fun _ _ => .nil⟩
theorem k_Notesu_gtu (K : PySem.W.Frag) : BindOk K e_Notesu_gtu := fun f fd F n h1 h2 => by
  have e : n = 2 := Nat.le_antisymm h1 h2
  subst e
  exact ⟨[], [], .nil, F.bindsN fun _ _ _ _ _ _ us hl => match us, hl with | [_, _], _ => rfl, rfl, fun _ _ => .nil⟩
theorem k_Notesu_geu (K : PySem.W.Frag) : BindOk K e_Notesu_geu := fun f fd F n h1 h2 => by
  have e : n = 2 := Nat.le_antisymm h1 h2
  subst e
  exact ⟨[], [], .nil, F.bindsN fun _ _ _ _ _ _ us hl => match us, hl with | [_, _], _ => rfl, rfl, fun _ _ => .nil⟩
theorem k_within (K : PySem.W.Frag) : BindOk K e_within := fun f fd F n h1 h2 => by
  have e : n = 3 := Nat.le_antisymm h1 h2
  subst e
  exact ⟨[], [], .nil, F.bindsN fun _ _ _ _ _ _ us hl => match us, hl with | [_, _, _], _ => rfl, rfl, fun _ _ => .nil⟩
theorem k_common (K : PySem.W.Frag) : BindOk K e_common := fun f fd F n h1 h2 => by
  have e : n = 2 := Nat.le_antisymm h1 h2
  subst e
  exact ⟨[], [], .nil, F.bindsN fun _ _ _ _ _ _ us hl => match us, hl with | [_, _], _ => rfl, rfl, fun _ _ => .nil⟩
theorem k_sides (K : PySem.W.Frag) : BindOk K e_sides := fun f fd F n h1 h2 => by
  have e : n = 2 := Nat.le_antisymm h1 h2
  subst e
  exact ⟨[], [], .nil, F.bindsN fun _ _ _ _ _ _ us hl => match us, hl with | [_, _], _ => rfl, rfl, fun _ _ => .nil⟩
theorem k_nearest (K : PySem.W.Frag) : BindOk K e_nearest := fun f fd F n h1 h2 => by
  have e : n = 2 := Nat.le_antisymm h1 h2
  subst e
  exact ⟨[], [], .nil, F.bindsN fun _ _ _ _ _ _ us hl => match us, hl with | [_, _], _ => rfl, rfl, fun _ _ => .nil⟩
theorem k_moved (K : PySem.W.Frag) : BindOk K e_moved := fun f fd F n h1 h2 => by
  have e : n = 2 := Nat.le_antisymm h1 h2
  subst e
  exact ⟨[], [], .nil, F.bindsN fun _ _ _ _ _ _ us hl => match us, hl with | [_, _], _ => rfl, rfl, fun _ _ => .nil⟩
theorem k_Patternu_initu (K : PySem.W.Frag) : BindOk K e_Patternu_initu := fun f fd F n h1 h2 => by
  have h1 : n ≤ 2 := h1
  have h2 : 2 ≤ n + 1 := h2
  have e : n = 1 ∨ n = 2 := by omega
  rcases e with rfl | rfl
  · obtain ⟨ds, hv, hb⟩ := F.binds1 (ps := e_Patternu_initu.ps) 1 0 (fun z => nomatch z) rfl fun T kV doc pm an cdv ct us its l1 l2 => by
      match us, its, l1, l2 with
      | [_], [_], _, _ => exact ⟨_, rfl, by kernel_rfl⟩
    exact ⟨ds, [.non], hv, hb, rfl, fun _ _ => (.cons .non .nil)⟩
  · obtain ⟨ds, hv, hb⟩ := F.binds1 (ps := e_Patternu_initu.ps) 2 1 (fun z => nomatch z) rfl fun T kV doc pm an cdv ct us its l1 l2 => by
      match us, its, l1, l2 with
      | [_, _], [_], _, _ => exact ⟨_, rfl, by kernel_rfl⟩
    exact ⟨ds, [], hv, hb, rfl, fun _ _ => .nil⟩
theorem k_Pattern_limits (K : PySem.W.Frag) : BindOk K e_Pattern_limits := fun f fd F n h1 h2 => by
  have e : n = 1 := Nat.le_antisymm h1 h2
  subst e
  exact ⟨[], [], .nil, F.bindsN fun _ _ _ _ _ _ us hl => match us, hl with | [_], _ => rfl, rfl, fun _ _ => .nil⟩
theorem k_Patternu_containsu (K : PySem.W.Frag) : BindOk K e_Patternu_containsu := fun f fd F n h1 h2 => by
  have e : n = 2 := Nat.le_antisymm h1 h2
  subst e
  exact ⟨[], [], .nil, F.bindsN fun _ _ _ _ _ _ us hl => match us, hl with | [_, _], _ => rfl, rfl, fun _ _ => .nil⟩
theorem k_Patternu_equ (K : PySem.W.Frag) : BindOk K e_Patternu_equ := fun f fd F n h1 h2 => by
  have e : n = 2 := Nat.le_antisymm h1 h2
  subst e
  exact ⟨[], [], .nil, F.bindsN fun _ _ _ _ _ _ us hl => match us, hl with | [_, _], _ => rfl, rfl, fun _ _ => .nil⟩
theorem k_Patternu_andu (K : PySem.W.Frag) : BindOk K e_Patternu_andu := fun f fd F n h1 h2 => by
  have e : n = 2 := Nat.le_antisymm h1 h2
  subst e
  exact ⟨[], [], .nil, F.bindsN fun _ _ _ _ _ _ us hl => match us, hl with | [_, _], _ => rfl, rfl, fun _ _ => .nil⟩
theorem k_Patternu_leu (K : PySem.W.Frag) : BindOk K e_Patternu_leu := fun f fd F n h1 h2 => by
  have e : n = 2 := Nat.le_antisymm h1 h2
  subst e
  exact ⟨[], [], .nil, F.bindsN fun _ _ _ _ _ _ us hl => match us, hl with | [_, _], _ => rfl, rfl, fun _ _ => .nil⟩
theorem k_Patternu_subu (K : PySem.W.Frag) : BindOk K e_Patternu_subu := fun f fd F n h1 h2 => by
  have e : n = 2 := Nat.le_antisymm h1 h2
  subst e
  exact ⟨[], [], .nil, F.bindsN fun _ _ _ _ _ _ us hl => match us, hl with | [_, _], _ => rfl, rfl, fun _ _ => .nil⟩
theorem k_Pattern_least (K : PySem.W.Frag) : BindOk K e_Pattern_least := fun f fd F n h1 h2 => by
  have e : n = 1 := Nat.le_antisymm h1 h2
  subst e
  exact ⟨[], [], .nil, F.bindsN fun _ _ _ _ _ _ us hl => match us, hl with | [_], _ => rfl, rfl, fun _ _ => .nil⟩
theorem k_Pattern_before (K : PySem.W.Frag) : BindOk K e_Pattern_before := fun f fd F n h1 h2 => by
  have e : n = 2 := Nat.le_antisymm h1 h2
  subst e
  exact ⟨[], [], .nil, F.bindsN fun _ _ _ _ _ _ us hl => match us, hl with | [_, _], _ => rfl, rfl, fun _ _ => .nil⟩
theorem k__law_pool (K : PySem.W.Frag) : BindOk K e__law_pool := fun f fd F n h1 h2 => by
  have e : n = 1 := Nat.le_antisymm h1 h2
  subst e
  exact ⟨[], [], .nil, F.bindsN fun _ _ _ _ _ _ us hl => match us, hl with | [_], _ => rfl, rfl, fun _ _ => .nil⟩
theorem k__law_draw (K : PySem.W.Frag) : BindOk K e__law_draw := fun f fd F n h1 h2 => by
  have e : n = 2 := Nat.le_antisymm h1 h2
  subst e
  exact ⟨[], [], .nil, F.bindsN fun _ _ _ _ _ _ us hl => match us, hl with | [_, _], _ => rfl, rfl, fun _ _ => .nil⟩
theorem k__law_names (K : PySem.W.Frag) : BindOk K e__law_names := fun f fd F n h1 h2 => by
  have e : n = 2 := Nat.le_antisymm h1 h2
  subst e
  exact ⟨[], [], .nil, F.bindsN fun _ _ _ _ _ _ us hl => match us, hl with | [_, _], _ => rfl, rfl, fun _ _ => .nil⟩
theorem k__law_is_integer (K : PySem.W.Frag) : BindOk K e__law_is_integer := fun f fd F n h1 h2 => by
  have e : n = 1 := Nat.le_antisymm h1 h2
  subst e
  exact ⟨[], [], .nil, F.bindsN fun _ _ _ _ _ _ us hl => match us, hl with | [_], _ => rfl, rfl, fun _ _ => .nil⟩
theorem k__law_far (K : PySem.W.Frag) : BindOk K e__law_far := fun f fd F n h1 h2 => by
  have e : n = 1 := Nat.le_antisymm h1 h2
  subst e
  exact ⟨[], [], .nil, F.bindsN fun _ _ _ _ _ _ us hl => match us, hl with | [_], _ => rfl, rfl, fun _ _ => .nil⟩
theorem k__law_limits (K : PySem.W.Frag) : BindOk K e__law_limits := fun f fd F n h1 h2 => by
  have e : n = 3 := Nat.le_antisymm h1 h2
  subst e
  exact ⟨[], [], .nil, F.bindsN fun _ _ _ _ _ _ us hl => match us, hl with | [_, _, _], _ => rfl, rfl, fun _ _ => .nil⟩
theorem k__law_listed (K : PySem.W.Frag) : BindOk K e__law_listed := fun f fd F n h1 h2 => by
  have e : n = 1 := Nat.le_antisymm h1 h2
  subst e
  exact ⟨[], [], .nil, F.bindsN fun _ _ _ _ _ _ us hl => match us, hl with | [_], _ => rfl, rfl, fun _ _ => .nil⟩
theorem k__law_is_limit (K : PySem.W.Frag) : BindOk K e__law_is_limit := fun f fd F n h1 h2 => by
  have e : n = 2 := Nat.le_antisymm h1 h2
  subst e
  exact ⟨[], [], .nil, F.bindsN fun _ _ _ _ _ _ us hl => match us, hl with | [_, _], _ => rfl, rfl, fun _ _ => .nil⟩
theorem k__law_same_limits (K : PySem.W.Frag) : BindOk K e__law_same_limits := fun f fd F n h1 h2 => by
  have e : n = 2 := Nat.le_antisymm h1 h2
  subst e
  exact ⟨[], [], .nil, F.bindsN fun _ _ _ _ _ _ us hl => match us, hl with | [_, _], _ => rfl, rfl, fun _ _ => .nil⟩
theorem k__law_within (K : PySem.W.Frag) : BindOk K e__law_within := fun f fd F n h1 h2 => by
  have e : n = 3 := Nat.le_antisymm h1 h2
  subst e
  exact ⟨[], [], .nil, F.bindsN fun _ _ _ _ _ _ us hl => match us, hl with | [_, _, _], _ => rfl, rfl, fun _ _ => .nil⟩
theorem k__law_inside (K : PySem.W.Frag) : BindOk K e__law_inside := fun f fd F n h1 h2 => by
  have e : n = 2 := Nat.le_antisymm h1 h2
  subst e
  exact ⟨[], [], .nil, F.bindsN fun _ _ _ _ _ _ us hl => match us, hl with | [_, _], _ => rfl, rfl, fun _ _ => .nil⟩
theorem k__law_parts (K : PySem.W.Frag) : BindOk K e__law_parts := fun f fd F n h1 h2 => by
  have e : n = 4 := Nat.le_antisymm h1 h2
  subst e
  exact ⟨[], [], .nil, F.bindsN fun _ _ _ _ _ _ us hl => match us, hl with | [_, _, _, _], _ => rfl, rfl, fun _ _ => .nil⟩
theorem k__law_back (K : PySem.W.Frag) : BindOk K e__law_back := fun f fd F n h1 h2 => by
  have e : n = 2 := Nat.le_antisymm h1 h2
  subst e
  exact ⟨[], [], .nil, F.bindsN fun _ _ _ _ _ _ us hl => match us, hl with | [_, _], _ => rfl, rfl, fun _ _ => .nil⟩
theorem k__law_told (K : PySem.W.Frag) : BindOk K e__law_told := fun f fd F n h1 h2 => by
  have e : n = 2 := Nat.le_antisymm h1 h2
  subst e
  exact ⟨[], [], .nil, F.bindsN fun _ _ _ _ _ _ us hl => match us, hl with | [_, _], _ => rfl, rfl, fun _ _ => .nil⟩
theorem k__law_kind (K : PySem.W.Frag) : BindOk K e__law_kind := fun f fd F n h1 h2 => by
  have e : n = 2 := Nat.le_antisymm h1 h2
  subst e
  exact ⟨[], [], .nil, F.bindsN fun _ _ _ _ _ _ us hl => match us, hl with | [_, _], _ => rfl, rfl, fun _ _ => .nil⟩
theorem k__law_right (K : PySem.W.Frag) : BindOk K e__law_right := fun f fd F n h1 h2 => by
  have e : n = 3 := Nat.le_antisymm h1 h2
  subst e
  exact ⟨[], [], .nil, F.bindsN fun _ _ _ _ _ _ us hl => match us, hl with | [_, _, _], _ => rfl, rfl, fun _ _ => .nil⟩
theorem k__law_same_notes (K : PySem.W.Frag) : BindOk K e__law_same_notes := fun f fd F n h1 h2 => by
  have e : n = 5 := Nat.le_antisymm h1 h2
  subst e
  exact ⟨[], [], .nil, F.bindsN fun _ _ _ _ _ _ us hl => match us, hl with | [_, _, _, _, _], _ => rfl, rfl, fun _ _ => .nil⟩
theorem k_law (K : PySem.W.Frag) : BindOk K e_law := fun f fd F n h1 h2 => by
  have e : n = 1 := Nat.le_antisymm h1 h2
  subst e
  exact ⟨[], [], .nil, F.bindsN fun _ _ _ _ _ _ us hl => match us, hl with | [_], _ => rfl, rfl, fun _ _ => .nil⟩
theorem allc {α : Type} {P : α → Prop} {a : α} {l : List α} (h : P a) (r : ∀ x ∈ l, P x) : ∀ x ∈ a :: l, P x := fun x hx => (List.mem_cons.mp hx).elim (fun e => e ▸ h) (r x)
theorem bind_all (K : PySem.W.Frag) : ∀ e ∈ lw.fns, BindOk K e := (allc (k_name_place K) (allc (k_order_key K) (allc (k_changed K) (allc (k_without_zeros K) (allc (k_joined K) (allc (k_Changeu_initu K) (allc (k_Change_parts K) (allc (k_Changeu_lenu K) (allc (k_Changeu_equ K) (allc (k_Changeu_rshiftu K) (allc (k_Changeu_callu K) (allc (k_Notesu_initu K) (allc (k_Notesu_getitemu K) (allc (k_Notesu_setitemu K) (allc (k_Notesu_containsu K) (allc (k_Notesu_lenu K) (allc (k_Notesu_addu K) (allc (k_Notesu_iaddu K) (allc (k_Notesu_equ K) (allc (k_Notesu_ltu K) (allc (k_Notesu_leu K) (allc (k_Notesu_gtu K) (allc (k_Notesu_geu K) (allc (k_within K) (allc (k_common K) (allc (k_sides K) (allc (k_nearest K) (allc (k_moved K) (allc (k_Patternu_initu K) (allc (k_Pattern_limits K) (allc (k_Patternu_containsu K) (allc (k_Patternu_equ K) (allc (k_Patternu_andu K) (allc (k_Patternu_leu K) (allc (k_Patternu_subu K) (allc (k_Pattern_least K) (allc (k_Pattern_before K) (allc (k__law_pool K) (allc (k__law_draw K) (allc (k__law_names K) (allc (k__law_is_integer K) (allc (k__law_far K) (allc (k__law_limits K) (allc (k__law_listed K) (allc (k__law_is_limit K) (allc (k__law_same_limits K) (allc (k__law_within K) (allc (k__law_inside K) (allc (k__law_parts K) (allc (k__law_back K) (allc (k__law_told K) (allc (k__law_kind K) (allc (k__law_right K) (allc (k__law_same_notes K) (allc (k_law K) (fun _ h => absurd h List.not_mem_nil))))))))))))))))))))))))))))))))))))))))))))))))))))))))
theorem sc_name_place : FnScope e_name_place.N e_name_place.ps e_name_place.D.scope := scB_ok (by decide +kernel)
theorem sc_order_key : FnScope e_order_key.N e_order_key.ps e_order_key.D.scope := scB_ok (by decide +kernel)
theorem sc_changed : FnScope e_changed.N e_changed.ps e_changed.D.scope := scB_ok (by decide +kernel)
theorem sc_without_zeros : FnScope e_without_zeros.N e_without_zeros.ps e_without_zeros.D.scope := scB_ok (by decide +kernel)
theorem sc_joined : FnScope e_joined.N e_joined.ps e_joined.D.scope := scB_ok (by decide +kernel)
theorem sc_Changeu_initu : FnScope e_Changeu_initu.N e_Changeu_initu.ps e_Changeu_initu.D.scope := scB_ok (by decide +kernel)
theorem sc_Change_parts : FnScope e_Change_parts.N e_Change_parts.ps e_Change_parts.D.scope := scB_ok (by decide +kernel)
theorem sc_Changeu_lenu : FnScope e_Changeu_lenu.N e_Changeu_lenu.ps e_Changeu_lenu.D.scope := scB_ok (by decide +kernel)
theorem sc_Changeu_equ : FnScope e_Changeu_equ.N e_Changeu_equ.ps e_Changeu_equ.D.scope := scB_ok (by decide +kernel)
theorem sc_Changeu_rshiftu : FnScope e_Changeu_rshiftu.N e_Changeu_rshiftu.ps e_Changeu_rshiftu.D.scope := scB_ok (by decide +kernel)
theorem sc_Changeu_callu : FnScope e_Changeu_callu.N e_Changeu_callu.ps e_Changeu_callu.D.scope := scB_ok (by decide +kernel)
theorem sc_Notesu_initu : FnScope e_Notesu_initu.N e_Notesu_initu.ps e_Notesu_initu.D.scope := scB_ok (by decide +kernel)
theorem sc_Notesu_getitemu : FnScope e_Notesu_getitemu.N e_Notesu_getitemu.ps e_Notesu_getitemu.D.scope := scB_ok (by decide +kernel)
theorem sc_Notesu_setitemu : FnScope e_Notesu_setitemu.N e_Notesu_setitemu.ps e_Notesu_setitemu.D.scope := scB_ok (by decide +kernel)
theorem sc_Notesu_containsu : FnScope e_Notesu_containsu.N e_Notesu_containsu.ps e_Notesu_containsu.D.scope := scB_ok (by decide +kernel)
theorem sc_Notesu_lenu : FnScope e_Notesu_lenu.N e_Notesu_lenu.ps e_Notesu_lenu.D.scope := scB_ok (by decide +kernel)
theorem sc_Notesu_addu : FnScope e_Notesu_addu.N e_Notesu_addu.ps e_Notesu_addu.D.scope := scB_ok (by decide +kernel)
theorem sc_Notesu_iaddu : FnScope e_Notesu_iaddu.N e_Notesu_iaddu.ps e_Notesu_iaddu.D.scope := scB_ok (by decide +kernel)
theorem sc_Notesu_equ : FnScope e_Notesu_equ.N e_Notesu_equ.ps e_Notesu_equ.D.scope := scB_ok (by decide +kernel)
theorem sc_Notesu_ltu : FnScope e_Notesu_ltu.N e_Notesu_ltu.ps e_Notesu_ltu.D.scope := scB_ok (by decide +kernel)
theorem sc_Notesu_leu : FnScope e_Notesu_leu.N e_Notesu_leu.ps e_Notesu_leu.D.scope := scB_ok (by decide +kernel)
theorem sc_Notesu_gtu : FnScope e_Notesu_gtu.N e_Notesu_gtu.ps e_Notesu_gtu.D.scope := scB_ok (by decide +kernel)
theorem sc_Notesu_geu : FnScope e_Notesu_geu.N e_Notesu_geu.ps e_Notesu_geu.D.scope := scB_ok (by decide +kernel)
theorem sc_within : FnScope e_within.N e_within.ps e_within.D.scope := scB_ok (by decide +kernel)
theorem sc_common : FnScope e_common.N e_common.ps e_common.D.scope := scB_ok (by decide +kernel)
theorem sc_sides : FnScope e_sides.N e_sides.ps e_sides.D.scope := scB_ok (by decide +kernel)
theorem sc_nearest : FnScope e_nearest.N e_nearest.ps e_nearest.D.scope := scB_ok (by decide +kernel)
theorem sc_moved : FnScope e_moved.N e_moved.ps e_moved.D.scope := scB_ok (by decide +kernel)
theorem sc_Patternu_initu : FnScope e_Patternu_initu.N e_Patternu_initu.ps e_Patternu_initu.D.scope := scB_ok (by decide +kernel)
theorem sc_Pattern_limits : FnScope e_Pattern_limits.N e_Pattern_limits.ps e_Pattern_limits.D.scope := scB_ok (by decide +kernel)
theorem sc_Patternu_containsu : FnScope e_Patternu_containsu.N e_Patternu_containsu.ps e_Patternu_containsu.D.scope := scB_ok (by decide +kernel)
theorem sc_Patternu_equ : FnScope e_Patternu_equ.N e_Patternu_equ.ps e_Patternu_equ.D.scope := scB_ok (by decide +kernel)
theorem sc_Patternu_andu : FnScope e_Patternu_andu.N e_Patternu_andu.ps e_Patternu_andu.D.scope := scB_ok (by decide +kernel)
theorem sc_Patternu_leu : FnScope e_Patternu_leu.N e_Patternu_leu.ps e_Patternu_leu.D.scope := scB_ok (by decide +kernel)
theorem sc_Patternu_subu : FnScope e_Patternu_subu.N e_Patternu_subu.ps e_Patternu_subu.D.scope := scB_ok (by decide +kernel)
theorem sc_Pattern_least : FnScope e_Pattern_least.N e_Pattern_least.ps e_Pattern_least.D.scope := scB_ok (by decide +kernel)
theorem sc_Pattern_before : FnScope e_Pattern_before.N e_Pattern_before.ps e_Pattern_before.D.scope := scB_ok (by decide +kernel)
theorem sc__law_pool : FnScope e__law_pool.N e__law_pool.ps e__law_pool.D.scope := scB_ok (by decide +kernel)
theorem sc__law_draw : FnScope e__law_draw.N e__law_draw.ps e__law_draw.D.scope := scB_ok (by decide +kernel)
theorem sc__law_names : FnScope e__law_names.N e__law_names.ps e__law_names.D.scope := scB_ok (by decide +kernel)
theorem sc__law_is_integer : FnScope e__law_is_integer.N e__law_is_integer.ps e__law_is_integer.D.scope := scB_ok (by decide +kernel)
theorem sc__law_far : FnScope e__law_far.N e__law_far.ps e__law_far.D.scope := scB_ok (by decide +kernel)
theorem sc__law_limits : FnScope e__law_limits.N e__law_limits.ps e__law_limits.D.scope := scB_ok (by decide +kernel)
theorem sc__law_listed : FnScope e__law_listed.N e__law_listed.ps e__law_listed.D.scope := scB_ok (by decide +kernel)
theorem sc__law_is_limit : FnScope e__law_is_limit.N e__law_is_limit.ps e__law_is_limit.D.scope := scB_ok (by decide +kernel)
theorem sc__law_same_limits : FnScope e__law_same_limits.N e__law_same_limits.ps e__law_same_limits.D.scope := scB_ok (by decide +kernel)
theorem sc__law_within : FnScope e__law_within.N e__law_within.ps e__law_within.D.scope := scB_ok (by decide +kernel)
theorem sc__law_inside : FnScope e__law_inside.N e__law_inside.ps e__law_inside.D.scope := scB_ok (by decide +kernel)
theorem sc__law_parts : FnScope e__law_parts.N e__law_parts.ps e__law_parts.D.scope := scB_ok (by decide +kernel)
theorem sc__law_back : FnScope e__law_back.N e__law_back.ps e__law_back.D.scope := scB_ok (by decide +kernel)
theorem sc__law_told : FnScope e__law_told.N e__law_told.ps e__law_told.D.scope := scB_ok (by decide +kernel)
theorem sc__law_kind : FnScope e__law_kind.N e__law_kind.ps e__law_kind.D.scope := scB_ok (by decide +kernel)
theorem sc__law_right : FnScope e__law_right.N e__law_right.ps e__law_right.D.scope := scB_ok (by decide +kernel)
theorem sc__law_same_notes : FnScope e__law_same_notes.N e__law_same_notes.ps e__law_same_notes.D.scope := scB_ok (by decide +kernel)
theorem sc_law : FnScope e_law.N e_law.ps e_law.D.scope := scB_ok (by decide +kernel)
theorem sc_all : ∀ e ∈ lw.fns, FnScope e.N e.ps e.D.scope := (allc sc_name_place (allc sc_order_key (allc sc_changed (allc sc_without_zeros (allc sc_joined (allc sc_Changeu_initu (allc sc_Change_parts (allc sc_Changeu_lenu (allc sc_Changeu_equ (allc sc_Changeu_rshiftu (allc sc_Changeu_callu (allc sc_Notesu_initu (allc sc_Notesu_getitemu (allc sc_Notesu_setitemu (allc sc_Notesu_containsu (allc sc_Notesu_lenu (allc sc_Notesu_addu (allc sc_Notesu_iaddu (allc sc_Notesu_equ (allc sc_Notesu_ltu (allc sc_Notesu_leu (allc sc_Notesu_gtu (allc sc_Notesu_geu (allc sc_within (allc sc_common (allc sc_sides (allc sc_nearest (allc sc_moved (allc sc_Patternu_initu (allc sc_Pattern_limits (allc sc_Patternu_containsu (allc sc_Patternu_equ (allc sc_Patternu_andu (allc sc_Patternu_leu (allc sc_Patternu_subu (allc sc_Pattern_least (allc sc_Pattern_before (allc sc__law_pool (allc sc__law_draw (allc sc__law_names (allc sc__law_is_integer (allc sc__law_far (allc sc__law_limits (allc sc__law_listed (allc sc__law_is_limit (allc sc__law_same_limits (allc sc__law_within (allc sc__law_inside (allc sc__law_parts (allc sc__law_back (allc sc__law_told (allc sc__law_kind (allc sc__law_right (allc sc__law_same_notes (allc sc_law (fun _ h => absurd h List.not_mem_nil))))))))))))))))))))))))))))))))))))))))))))))))))))))))
theorem m_name_place : mtSs lw.M e_name_place.N e_name_place.D.scope e_name_place.d.body e_name_place.D.body = true := by decide +kernel
theorem m_order_key : mtSs lw.M e_order_key.N e_order_key.D.scope e_order_key.d.body e_order_key.D.body = true := by decide +kernel
theorem m_changed : mtSs lw.M e_changed.N e_changed.D.scope e_changed.d.body e_changed.D.body = true := by decide +kernel
theorem m_without_zeros : mtSs lw.M e_without_zeros.N e_without_zeros.D.scope e_without_zeros.d.body e_without_zeros.D.body = true := by decide +kernel
theorem m_joined : mtSs lw.M e_joined.N e_joined.D.scope e_joined.d.body e_joined.D.body = true := by decide +kernel
theorem m_Changeu_initu : mtSs lw.M e_Changeu_initu.N e_Changeu_initu.D.scope e_Changeu_initu.d.body e_Changeu_initu.D.body = true := by decide +kernel
theorem m_Change_parts : mtSs lw.M e_Change_parts.N e_Change_parts.D.scope e_Change_parts.d.body e_Change_parts.D.body = true := by decide +kernel
theorem m_Changeu_lenu : mtSs lw.M e_Changeu_lenu.N e_Changeu_lenu.D.scope e_Changeu_lenu.d.body e_Changeu_lenu.D.body = true := by decide +kernel
theorem m_Changeu_equ : mtSs lw.M e_Changeu_equ.N e_Changeu_equ.D.scope e_Changeu_equ.d.body e_Changeu_equ.D.body = true := by decide +kernel
theorem m_Changeu_rshiftu : mtSs lw.M e_Changeu_rshiftu.N e_Changeu_rshiftu.D.scope e_Changeu_rshiftu.d.body e_Changeu_rshiftu.D.body = true := by decide +kernel
theorem m_Changeu_callu : mtSs lw.M e_Changeu_callu.N e_Changeu_callu.D.scope e_Changeu_callu.d.body e_Changeu_callu.D.body = true := by decide +kernel
theorem m_Notesu_initu : mtSs lw.M e_Notesu_initu.N e_Notesu_initu.D.scope e_Notesu_initu.d.body e_Notesu_initu.D.body = true := by decide +kernel
theorem m_Notesu_getitemu : mtSs lw.M e_Notesu_getitemu.N e_Notesu_getitemu.D.scope e_Notesu_getitemu.d.body e_Notesu_getitemu.D.body = true := by decide +kernel
theorem m_Notesu_setitemu : mtSs lw.M e_Notesu_setitemu.N e_Notesu_setitemu.D.scope e_Notesu_setitemu.d.body e_Notesu_setitemu.D.body = true := by decide +kernel
theorem m_Notesu_containsu : mtSs lw.M e_Notesu_containsu.N e_Notesu_containsu.D.scope e_Notesu_containsu.d.body e_Notesu_containsu.D.body = true := by decide +kernel
theorem m_Notesu_lenu : mtSs lw.M e_Notesu_lenu.N e_Notesu_lenu.D.scope e_Notesu_lenu.d.body e_Notesu_lenu.D.body = true := by decide +kernel
theorem m_Notesu_addu : mtSs lw.M e_Notesu_addu.N e_Notesu_addu.D.scope e_Notesu_addu.d.body e_Notesu_addu.D.body = true := by decide +kernel
theorem m_Notesu_iaddu : mtSs lw.M e_Notesu_iaddu.N e_Notesu_iaddu.D.scope e_Notesu_iaddu.d.body e_Notesu_iaddu.D.body = true := by decide +kernel
theorem m_Notesu_equ : mtSs lw.M e_Notesu_equ.N e_Notesu_equ.D.scope e_Notesu_equ.d.body e_Notesu_equ.D.body = true := by decide +kernel
theorem m_Notesu_ltu : mtSs lw.M e_Notesu_ltu.N e_Notesu_ltu.D.scope e_Notesu_ltu.d.body e_Notesu_ltu.D.body = true := by decide +kernel
theorem m_Notesu_leu : mtSs lw.M e_Notesu_leu.N e_Notesu_leu.D.scope e_Notesu_leu.d.body e_Notesu_leu.D.body = true := by decide +kernel
theorem m_Notesu_gtu : mtSs lw.M e_Notesu_gtu.N e_Notesu_gtu.D.scope e_Notesu_gtu.d.body e_Notesu_gtu.D.body = true := by decide +kernel
theorem m_Notesu_geu : mtSs lw.M e_Notesu_geu.N e_Notesu_geu.D.scope e_Notesu_geu.d.body e_Notesu_geu.D.body = true := by decide +kernel
theorem m_within : mtSs lw.M e_within.N e_within.D.scope e_within.d.body e_within.D.body = true := by decide +kernel
theorem m_common : mtSs lw.M e_common.N e_common.D.scope e_common.d.body e_common.D.body = true := by decide +kernel
theorem m_sides : mtSs lw.M e_sides.N e_sides.D.scope e_sides.d.body e_sides.D.body = true := by decide +kernel
theorem m_nearest : mtSs lw.M e_nearest.N e_nearest.D.scope e_nearest.d.body e_nearest.D.body = true := by decide +kernel
theorem m_moved : mtSs lw.M e_moved.N e_moved.D.scope e_moved.d.body e_moved.D.body = true := by decide +kernel
theorem m_Patternu_initu : mtSs lw.M e_Patternu_initu.N e_Patternu_initu.D.scope e_Patternu_initu.d.body e_Patternu_initu.D.body = true := by decide +kernel
theorem m_Pattern_limits : mtSs lw.M e_Pattern_limits.N e_Pattern_limits.D.scope e_Pattern_limits.d.body e_Pattern_limits.D.body = true := by decide +kernel
theorem m_Patternu_containsu : mtSs lw.M e_Patternu_containsu.N e_Patternu_containsu.D.scope e_Patternu_containsu.d.body e_Patternu_containsu.D.body = true := by decide +kernel
theorem m_Patternu_equ : mtSs lw.M e_Patternu_equ.N e_Patternu_equ.D.scope e_Patternu_equ.d.body e_Patternu_equ.D.body = true := by decide +kernel
theorem m_Patternu_andu : mtSs lw.M e_Patternu_andu.N e_Patternu_andu.D.scope e_Patternu_andu.d.body e_Patternu_andu.D.body = true := by decide +kernel
theorem m_Patternu_leu : mtSs lw.M e_Patternu_leu.N e_Patternu_leu.D.scope e_Patternu_leu.d.body e_Patternu_leu.D.body = true := by decide +kernel
theorem m_Patternu_subu : mtSs lw.M e_Patternu_subu.N e_Patternu_subu.D.scope e_Patternu_subu.d.body e_Patternu_subu.D.body = true := by decide +kernel
theorem m_Pattern_least : mtSs lw.M e_Pattern_least.N e_Pattern_least.D.scope e_Pattern_least.d.body e_Pattern_least.D.body = true := by decide +kernel
theorem m_Pattern_before : mtSs lw.M e_Pattern_before.N e_Pattern_before.D.scope e_Pattern_before.d.body e_Pattern_before.D.body = true := by decide +kernel
theorem m__law_pool : mtSs lw.M e__law_pool.N e__law_pool.D.scope e__law_pool.d.body e__law_pool.D.body = true := by decide +kernel
theorem m__law_draw : mtSs lw.M e__law_draw.N e__law_draw.D.scope e__law_draw.d.body e__law_draw.D.body = true := by decide +kernel
theorem m__law_names : mtSs lw.M e__law_names.N e__law_names.D.scope e__law_names.d.body e__law_names.D.body = true := by decide +kernel
theorem m__law_is_integer : mtSs lw.M e__law_is_integer.N e__law_is_integer.D.scope e__law_is_integer.d.body e__law_is_integer.D.body = true := by decide +kernel
theorem m__law_far : mtSs lw.M e__law_far.N e__law_far.D.scope e__law_far.d.body e__law_far.D.body = true := by decide +kernel
theorem m__law_limits : mtSs lw.M e__law_limits.N e__law_limits.D.scope e__law_limits.d.body e__law_limits.D.body = true := by decide +kernel
theorem m__law_listed : mtSs lw.M e__law_listed.N e__law_listed.D.scope e__law_listed.d.body e__law_listed.D.body = true := by decide +kernel
theorem m__law_is_limit : mtSs lw.M e__law_is_limit.N e__law_is_limit.D.scope e__law_is_limit.d.body e__law_is_limit.D.body = true := by decide +kernel
theorem m__law_same_limits : mtSs lw.M e__law_same_limits.N e__law_same_limits.D.scope e__law_same_limits.d.body e__law_same_limits.D.body = true := by decide +kernel
theorem m__law_within : mtSs lw.M e__law_within.N e__law_within.D.scope e__law_within.d.body e__law_within.D.body = true := by decide +kernel
theorem m__law_inside : mtSs lw.M e__law_inside.N e__law_inside.D.scope e__law_inside.d.body e__law_inside.D.body = true := by decide +kernel
theorem m__law_parts : mtSs lw.M e__law_parts.N e__law_parts.D.scope e__law_parts.d.body e__law_parts.D.body = true := by decide +kernel
theorem m__law_back : mtSs lw.M e__law_back.N e__law_back.D.scope e__law_back.d.body e__law_back.D.body = true := by decide +kernel
theorem m__law_told : mtSs lw.M e__law_told.N e__law_told.D.scope e__law_told.d.body e__law_told.D.body = true := by decide +kernel
theorem m__law_kind : mtSs lw.M e__law_kind.N e__law_kind.D.scope e__law_kind.d.body e__law_kind.D.body = true := by decide +kernel
theorem m__law_right : mtSs lw.M e__law_right.N e__law_right.D.scope e__law_right.d.body e__law_right.D.body = true := by decide +kernel
theorem m__law_same_notes : mtSs lw.M e__law_same_notes.N e__law_same_notes.D.scope e__law_same_notes.d.body e__law_same_notes.D.body = true := by decide +kernel
theorem m_law : mtSs lw.M e_law.N e_law.D.scope e_law.d.body e_law.D.body = true := by decide +kernel
theorem st_ok : lw.stB = true := by
  unfold Lw.stB
  simp only [Bool.and_eq_true]
  refine ⟨⟨⟨⟨⟨⟨by decide +kernel, by decide +kernel⟩, by decide +kernel⟩, by decide +kernel⟩, by decide +kernel⟩, by decide +kernel⟩, List.all_eq_true.mpr (allc (by simp only [Bool.and_eq_true]; exact ⟨⟨by decide +kernel, by decide +kernel⟩, m_name_place⟩) (allc (by simp only [Bool.and_eq_true]; exact ⟨⟨by decide +kernel, by decide +kernel⟩, m_order_key⟩) (allc (by simp only [Bool.and_eq_true]; exact ⟨⟨by decide +kernel, by decide +kernel⟩, m_changed⟩) (allc (by simp only [Bool.and_eq_true]; exact ⟨⟨by decide +kernel, by decide +kernel⟩, m_without_zeros⟩) (allc (by simp only [Bool.and_eq_true]; exact ⟨⟨by decide +kernel, by decide +kernel⟩, m_joined⟩) (allc (by simp only [Bool.and_eq_true]; exact ⟨⟨by decide +kernel, by decide +kernel⟩, m_Changeu_initu⟩) (allc (by simp only [Bool.and_eq_true]; exact ⟨⟨by decide +kernel, by decide +kernel⟩, m_Change_parts⟩) (allc (by simp only [Bool.and_eq_true]; exact ⟨⟨by decide +kernel, by decide +kernel⟩, m_Changeu_lenu⟩) (allc (by simp only [Bool.and_eq_true]; exact ⟨⟨by decide +kernel, by decide +kernel⟩, m_Changeu_equ⟩) (allc (by simp only [Bool.and_eq_true]; exact ⟨⟨by decide +kernel, by decide +kernel⟩, m_Changeu_rshiftu⟩) (allc (by simp only [Bool.and_eq_true]; exact ⟨⟨by decide +kernel, by decide +kernel⟩, m_Changeu_callu⟩) (allc (by simp only [Bool.and_eq_true]; exact ⟨⟨by decide +kernel, by decide +kernel⟩, m_Notesu_initu⟩) (allc (by simp only [Bool.and_eq_true]; exact ⟨⟨by decide +kernel, by decide +kernel⟩, m_Notesu_getitemu⟩) (allc (by simp only [Bool.and_eq_true]; exact ⟨⟨by decide +kernel, by decide +kernel⟩, m_Notesu_setitemu⟩) (allc (by simp only [Bool.and_eq_true]; exact ⟨⟨by decide +kernel, by decide +kernel⟩, m_Notesu_containsu⟩) (allc (by simp only [Bool.and_eq_true]; exact ⟨⟨by decide +kernel, by decide +kernel⟩, m_Notesu_lenu⟩) (allc (by simp only [Bool.and_eq_true]; exact ⟨⟨by decide +kernel, by decide +kernel⟩, m_Notesu_addu⟩) (allc (by simp only [Bool.and_eq_true]; exact ⟨⟨by decide +kernel, by decide +kernel⟩, m_Notesu_iaddu⟩) (allc (by simp only [Bool.and_eq_true]; exact ⟨⟨by decide +kernel, by decide +kernel⟩, m_Notesu_equ⟩) (allc (by simp only [Bool.and_eq_true]; exact ⟨⟨by decide +kernel, by decide +kernel⟩, m_Notesu_ltu⟩) (allc (by simp only [Bool.and_eq_true]; exact ⟨⟨by decide +kernel, by decide +kernel⟩, m_Notesu_leu⟩) (allc (by simp only [Bool.and_eq_true]; exact ⟨⟨by decide +kernel, by decide +kernel⟩, m_Notesu_gtu⟩) (allc (by simp only [Bool.and_eq_true]; exact ⟨⟨by decide +kernel, by decide +kernel⟩, m_Notesu_geu⟩) (allc (by simp only [Bool.and_eq_true]; exact ⟨⟨by decide +kernel, by decide +kernel⟩, m_within⟩) (allc (by simp only [Bool.and_eq_true]; exact ⟨⟨by decide +kernel, by decide +kernel⟩, m_common⟩) (allc (by simp only [Bool.and_eq_true]; exact ⟨⟨by decide +kernel, by decide +kernel⟩, m_sides⟩) (allc (by simp only [Bool.and_eq_true]; exact ⟨⟨by decide +kernel, by decide +kernel⟩, m_nearest⟩) (allc (by simp only [Bool.and_eq_true]; exact ⟨⟨by decide +kernel, by decide +kernel⟩, m_moved⟩) (allc (by simp only [Bool.and_eq_true]; exact ⟨⟨by decide +kernel, by decide +kernel⟩, m_Patternu_initu⟩) (allc (by simp only [Bool.and_eq_true]; exact ⟨⟨by decide +kernel, by decide +kernel⟩, m_Pattern_limits⟩) (allc (by simp only [Bool.and_eq_true]; exact ⟨⟨by decide +kernel, by decide +kernel⟩, m_Patternu_containsu⟩) (allc (by simp only [Bool.and_eq_true]; exact ⟨⟨by decide +kernel, by decide +kernel⟩, m_Patternu_equ⟩) (allc (by simp only [Bool.and_eq_true]; exact ⟨⟨by decide +kernel, by decide +kernel⟩, m_Patternu_andu⟩) (allc (by simp only [Bool.and_eq_true]; exact ⟨⟨by decide +kernel, by decide +kernel⟩, m_Patternu_leu⟩) (allc (by simp only [Bool.and_eq_true]; exact ⟨⟨by decide +kernel, by decide +kernel⟩, m_Patternu_subu⟩) (allc (by simp only [Bool.and_eq_true]; exact ⟨⟨by decide +kernel, by decide +kernel⟩, m_Pattern_least⟩) (allc (by simp only [Bool.and_eq_true]; exact ⟨⟨by decide +kernel, by decide +kernel⟩, m_Pattern_before⟩) (allc (by simp only [Bool.and_eq_true]; exact ⟨⟨by decide +kernel, by decide +kernel⟩, m__law_pool⟩) (allc (by simp only [Bool.and_eq_true]; exact ⟨⟨by decide +kernel, by decide +kernel⟩, m__law_draw⟩) (allc (by simp only [Bool.and_eq_true]; exact ⟨⟨by decide +kernel, by decide +kernel⟩, m__law_names⟩) (allc (by simp only [Bool.and_eq_true]; exact ⟨⟨by decide +kernel, by decide +kernel⟩, m__law_is_integer⟩) (allc (by simp only [Bool.and_eq_true]; exact ⟨⟨by decide +kernel, by decide +kernel⟩, m__law_far⟩) (allc (by simp only [Bool.and_eq_true]; exact ⟨⟨by decide +kernel, by decide +kernel⟩, m__law_limits⟩) (allc (by simp only [Bool.and_eq_true]; exact ⟨⟨by decide +kernel, by decide +kernel⟩, m__law_listed⟩) (allc (by simp only [Bool.and_eq_true]; exact ⟨⟨by decide +kernel, by decide +kernel⟩, m__law_is_limit⟩) (allc (by simp only [Bool.and_eq_true]; exact ⟨⟨by decide +kernel, by decide +kernel⟩, m__law_same_limits⟩) (allc (by simp only [Bool.and_eq_true]; exact ⟨⟨by decide +kernel, by decide +kernel⟩, m__law_within⟩) (allc (by simp only [Bool.and_eq_true]; exact ⟨⟨by decide +kernel, by decide +kernel⟩, m__law_inside⟩) (allc (by simp only [Bool.and_eq_true]; exact ⟨⟨by decide +kernel, by decide +kernel⟩, m__law_parts⟩) (allc (by simp only [Bool.and_eq_true]; exact ⟨⟨by decide +kernel, by decide +kernel⟩, m__law_back⟩) (allc (by simp only [Bool.and_eq_true]; exact ⟨⟨by decide +kernel, by decide +kernel⟩, m__law_told⟩) (allc (by simp only [Bool.and_eq_true]; exact ⟨⟨by decide +kernel, by decide +kernel⟩, m__law_kind⟩) (allc (by simp only [Bool.and_eq_true]; exact ⟨⟨by decide +kernel, by decide +kernel⟩, m__law_right⟩) (allc (by simp only [Bool.and_eq_true]; exact ⟨⟨by decide +kernel, by decide +kernel⟩, m__law_same_notes⟩) (allc (by simp only [Bool.and_eq_true]; exact ⟨⟨by decide +kernel, by decide +kernel⟩, m_law⟩) (fun _ h => absurd h List.not_mem_nil))))))))))))))))))))))))))))))))))))))))))))))))))))))))⟩
end K01
end

section
set_option Elab.async false
set_option linter.all false
set_option maxRecDepth 100000
set_option maxHeartbeats 0
namespace K01
open PySem PySem.Spec PyProof.Rows L2 Core
abbrev R : PySem.W.OpenRow := PySem.W.OpenLaw.row PySem.Challenge.rw_sceneskips_k13_notes_before_a_change
abbrev hk : PySem.W.Hook := hookL 4 lw
def ob (s : PySem.W.SharedT) : He.AlD := obsLG 4 lw (HandSHeadRun.getT s)
theorem ob_eq (s : PySem.W.SharedT) : ob s = hk.obs s.abs := obsLG_eq (HandSHeadRun.getT_eq s)
theorem run (w : World) : HandSHeadRun.RunEq R (PySem.W.view R.prog [38]) hk ob 4000 ((["_wall", "SceneError", "NoCommon", "TooMany", "name_place", "order_key", "changed", "without_zeros", "joined", "Change", "Notes", "within", "common", "sides", "nearest", "moved", "Pattern", "_law_pool", "_law_draw", "_law_names", "_law_is_integer", "_law_far", "_law_limits", "_law_within", "_law_inside"] : List PySem.Str) ++ (["_law_listed", "_law_is_limit", "_law_same_limits", "_law_parts", "_law_back", "_law_told", "_law_kind", "_law_right", "_law_same_notes"] : List PySem.Str)) w := by
  intro os
  kernel_rfl
theorem law_bind {K : PySem.W.Frag} {f : Addr} {fd : FuncData} (F : FunD K e_law.D.name e_law.D.qual e_law.D.params e_law.D.body e_law.D.scope [] [] f fd) (s : Shared) (v : Value) : BindsTo s fd ⟨[v], []⟩ [("script", v)] :=
  F.bindsA (ps := ["script"]) (fun _ _ _ _ _ _ us hl => match us, hl with | [_], _ => rfl) s [v] rfl
end K01
open PySem PySem.W PySem.Calls PyProof.Rows
theorem K01.holds_of (ans : ∀ ns : List Int, ns.length ≤ 63 → ∃ h, Core.callN K01.lw.T 8 408 [.fl (ns.map .int)] [] = .ok (.bl true) h) : PySem.Challenge.rw_sceneskips_k13_notes_before_a_change.Holds := by
  w_on; o_law
  refine HandSHeadRun.head_any (r := OpenLaw.row PySem.Challenge.rw_sceneskips_k13_notes_before_a_change) (q := view (OpenLaw.row PySem.Challenge.rw_sceneskips_k13_notes_before_a_change).prog [38]) (H := K01.hk) (ob := K01.ob) (M := 4000) (loose := ((["_wall", "SceneError", "NoCommon", "TooMany", "name_place", "order_key", "changed", "without_zeros", "joined", "Change", "Notes", "within", "common", "sides", "nearest", "moved", "Pattern", "_law_pool", "_law_draw", "_law_names", "_law_is_integer", "_law_far", "_law_limits", "_law_within", "_law_inside"] : List PySem.Str) ++ (["_law_listed", "_law_is_limit", "_law_same_limits", "_law_parts", "_law_back", "_law_told", "_law_kind", "_law_right", "_law_same_notes"] : List PySem.Str))) (d := HandSHeadRun.topDef (OpenLaw.row PySem.Challenge.rw_sceneskips_k13_notes_before_a_change).prog 38) (kwd := []) K01.ob_eq
    (by kernel_rfl) (fun s => by kernel_rfl) K01.run (by kernel_rfl) (by kernel_rfl) (by kernel_rfl) (by rfl) (by first | assumption | decide +kernel) (by decide +kernel) ⟨rfl, rfl, rfl, rfl, rfl, by decide +kernel⟩ ?hw ?hc
  case hw => w_witness2
  case hc =>
    refine L2.walk_ofE (l := PySem.Challenge.rw_sceneskips_k13_notes_before_a_change) (n := 63) (k := 32) (x := "script") (CX := L2.CX0) rfl (by decide) (by kernel_rfl) ⟨rfl, by decide, by decide⟩ ?F (fun _ _ _ _ z => z)
    intro w mg fa h Y Gm hmg0
    obtain ⟨K, KX, c⟩ := Y
    obtain ⟨F, hF, stc, ti, df⟩ := Core.facts_of KX Gm c K01.st_ok K01.sc_all (K01.bind_all K) (by intro z; cases z)
    obtain ⟨a1, a2, a3⟩ := hF 408 K01.e_law rfl
    have hmg : mg ("law" : PySem.Str) = some (.ref fa) := by
      have e : (HandSHeadRun.topDef (OpenLaw.row PySem.Challenge.rw_sceneskips_k13_notes_before_a_change).prog 38).name = ("law" : PySem.Str) := by kernel_rfl
      rw [← e]
      exact hmg0
    have hk := (stc.fn 408 "law" rfl).1
    rw [hmg] at hk
    cases hk
    refine ⟨K, F.fD 408, Core.spL K 63, KX, fun s u => K01.law_bind a3 s u, fun H a ns hl _ hS => ⟨a, ns, rfl, hl, hS, fun _ => rfl⟩, fun base _ _ => ?_⟩
    have hq := Core.fnok_to0 (Core.law_ok (P := (PySem.Challenge.rw_sceneskips_k13_notes_before_a_change).prog) (w := w) (base := base) stc ti df (n := 8) (f := 408) (e := K01.e_law) rfl rfl ans) (fun _ _ _ _ _ q => q)
    rw [a2] at hq
    exact hq
end

section
set_option Elab.async false
set_option linter.all false
set_option maxRecDepth 100000
set_option maxHeartbeats 4000000
set_option autoImplicit false
namespace K01
open PySem L2 Core
instance : D0 lw.T := ⟨rfl⟩
instance : D1 lw.T := ⟨rfl⟩
instance : D2 lw.T := ⟨rfl⟩
instance : D3 lw.T := ⟨rfl⟩
instance : D5 lw.T := ⟨rfl⟩
instance : D6 lw.T := ⟨rfl⟩
instance : D8 lw.T := ⟨rfl⟩
instance : D10 lw.T := ⟨rfl⟩
instance : D11 lw.T := ⟨rfl⟩
instance : D12 lw.T := ⟨rfl⟩
instance : D24 lw.T := ⟨rfl⟩
instance : D25 lw.T := ⟨rfl⟩
instance : D28 lw.T := ⟨rfl⟩
instance : D29 lw.T := ⟨rfl⟩
instance : D30 lw.T := ⟨rfl⟩
instance : D31 lw.T := ⟨rfl⟩
instance : D32 lw.T := ⟨rfl⟩
instance : D37 lw.T := ⟨rfl⟩
instance : D300 lw.T := ⟨rfl⟩
instance : D301 lw.T := ⟨rfl⟩
instance : D302 lw.T := ⟨rfl⟩
instance : D303 lw.T := ⟨rfl⟩
instance : D304 lw.T := ⟨rfl⟩
instance : D305 lw.T := ⟨rfl⟩
instance : D306 lw.T := ⟨rfl⟩
instance : D307 lw.T := ⟨rfl⟩
instance : D308 lw.T := ⟨rfl⟩
instance : FdH lw.T 0 0 := ⟨by decide +kernel⟩
instance : FdH lw.T 0 1 := ⟨by decide +kernel⟩
instance : FdH lw.T 1 2 := ⟨by decide +kernel⟩
instance : FdH lw.T 2 2 := ⟨by decide +kernel⟩
instance : FdH lw.T 2 3 := ⟨by decide +kernel⟩
instance : SpH lw.T 0 (.init) 11 := ⟨by decide +kernel⟩
instance : SpH lw.T 1 (.init) 5 := ⟨by decide +kernel⟩
instance : SpH lw.T 2 (.init) 29 := ⟨by decide +kernel⟩
instance : SpH lw.T 0 (.getitem) 12 := ⟨by decide +kernel⟩
instance : SpH lw.T 1 (.call) 10 := ⟨by decide +kernel⟩
instance : SpH lw.T 2 (.cmp .eq) 32 := ⟨by decide +kernel⟩
instance : SpH lw.T 1 (.cmp .eq) 8 := ⟨by decide +kernel⟩
instance : SpH lw.T 2 (.cmp .in_) 31 := ⟨by decide +kernel⟩
instance : MtH lw.T 2 2 30 := ⟨by decide +kernel⟩
instance : MtH lw.T 1 1 6 := ⟨by decide +kernel⟩
instance : MtH lw.T 2 4 37 := ⟨by decide +kernel⟩
instance : ClH lw.T 1 := ⟨by decide +kernel⟩
instance : ClH lw.T 2 := ⟨by decide +kernel⟩
instance : XcH lw.T 101 := ⟨by decide +kernel⟩
abbrev T : Tab := lw.T
theorem c400 (n : Nat) (a b c : Vl) (h : Hv) : callN T (n + 1) 400 [a, b, c] h = finR 2 h (retOf (evSs T (callN T n) b__law_within [some a, some b, some c] h)) := rfl
theorem c402 (n : Nat) (a b c d : Vl) (h : Hv) : callN T (n + 1) 402 [a, b, c, d] h = finR 2 h (retOf (evSs T (callN T n) b__law_parts [some a, some b, some c, some d, none, none, none, none, none, none] h)) := rfl
theorem c403 (n : Nat) (a b : Vl) (h : Hv) : callN T (n + 1) 403 [a, b] h = finR 2 h (retOf (evSs T (callN T n) b__law_back [some a, some b, none, none, none, none, none, none] h)) := rfl
theorem c404 (n : Nat) (a b : Vl) (h : Hv) : callN T (n + 1) 404 [a, b] h = finR 2 h (retOf (evSs T (callN T n) b__law_told [some a, some b, none] h)) := rfl
theorem c405 (n : Nat) (a b : Vl) (h : Hv) : callN T (n + 1) 405 [a, b] h = finR 2 h (retOf (evSs T (callN T n) b__law_kind [some a, some b, none, none, none] h)) := rfl
theorem c406 (n : Nat) (a b c : Vl) (h : Hv) : callN T (n + 1) 406 [a, b, c] h = finR 2 h (retOf (evSs T (callN T n) b__law_right [some a, some b, some c, none] h)) := rfl
theorem c407 (n : Nat) (a b c d e : Vl) (h : Hv) : callN T (n + 1) 407 [a, b, c, d, e] h = finR 2 h (retOf (evSs T (callN T n) b__law_same_notes [some a, some b, some c, some d, some e, none, none, none, none, none, none, none] h)) := rfl
theorem lwithin_ok (n : Nat) (k : Int) (l : Lm) (h : Hv) : callN T (n + 1) 400 [.int k, ow l.1, ow l.2] h = .ok (.bl (wi k l)) h := by
  rw [c400]
  refine Eq.trans (congrArg (finR 2 h) ?_) (fin2_0 (show pu (.bl _) from rfl))
  unfold b__law_within wi
  obtain ⟨a, b⟩ := l
  cases a with
  | none => cases b <;> simp only [↓rb, ↓tw0, ↓tw1, ↓evSs, ↓evS, ↓evE, ↓evEs, ↓evI, ↓evC, ↓evO, ↓evPs, ag1, ag2, ag3, ag4, chkT, ofO, List.getElem?_cons_zero, List.getElem?_cons_succ, List.set_cons_zero, List.set_cons_succ, Bool.false_eq_true, if_false, if_true, Option.bind_some, Option.map_some, tru1, subD, setD, cmpD, cmpO, binD, bltD, asS, asL, asD, asO, keyOf, truV, cf_eq_i, cf_ne_i, cf_eq_s, cf_ne_s, cf_eq_b, cf_ne_b, cf_lt_i, cf_gt_i, cf_le_i, cf_ge_i, cf_is0, cf_isr, cf_isnot0, cf_ist, kd_dec, kd_dec2, subF, ix10, ix20, ix21, ix30, ix31, ix32, ln1, ln2, ln3, lim0, lim1, lim2, lim3, lim4, lim5, lim6, decide_true, decide_false, decide_not, Bool.not_true, Bool.not_false, Bool.true_or, Bool.or_true, Bool.false_or, Bool.or_false, not_true, not_false_eq_true, eq_self, reduceCtorEq, Bool.and_true, Bool.true_and, Bool.and_false, Bool.false_and, ow, cf_isi, retOf]
  | some a =>
    by_cases hh : a ≤ k <;> cases b <;> simp only [↓rb, ↓tw0, ↓tw1, ↓evSs, ↓evS, ↓evE, ↓evEs, ↓evI, ↓evC, ↓evO, ↓evPs, ag1, ag2, ag3, ag4, chkT, ofO, List.getElem?_cons_zero, List.getElem?_cons_succ, List.set_cons_zero, List.set_cons_succ, Bool.false_eq_true, if_false, if_true, Option.bind_some, Option.map_some, tru1, subD, setD, cmpD, cmpO, binD, bltD, asS, asL, asD, asO, keyOf, truV, cf_eq_i, cf_ne_i, cf_eq_s, cf_ne_s, cf_eq_b, cf_ne_b, cf_lt_i, cf_gt_i, cf_le_i, cf_ge_i, cf_is0, cf_isr, cf_isnot0, cf_ist, kd_dec, kd_dec2, subF, ix10, ix20, ix21, ix30, ix31, ix32, ln1, ln2, ln3, lim0, lim1, lim2, lim3, lim4, lim5, lim6, decide_true, decide_false, decide_not, Bool.not_true, Bool.not_false, Bool.true_or, Bool.or_true, Bool.false_or, Bool.or_false, not_true, not_false_eq_true, eq_self, reduceCtorEq, Bool.and_true, Bool.true_and, Bool.and_false, Bool.false_and, ow, cf_isi, retOf, hh]
/-! ### the limits before, as the law tells them -/
def bk2 (A : List (Str × Lm)) (x : Str) (l : Lm) (k : Int) : List (Str × Lm) :=
  let A1 := match l.1 with | some a => ptG A x (some (a - k), none) | none => A
  match l.2 with | some b => ptG A1 x ((gt A1 x).1, some (b - k)) | none => A1
def bkS (P : List (Str × Pp)) (A : List (Str × Lm)) (q : Str × Lm) : Option (List (Str × Lm)) := match (lkG P q.1).getD (false, 0) with
  | (true, k) => if wi k q.2 then some A else none
  | (false, k) => some (bk2 A q.1 q.2 k)
def backG (P : List (Str × Pp)) (A L : List (Str × Lm)) : Option (List (Str × Lm)) := L.foldlM (bkS P) A
theorem nd_bk2 {A : List (Str × Lm)} (nd : (ksG A).Nodup) (x : Str) (l : Lm) (k : Int) : (ksG (bk2 A x l k)).Nodup := by
  obtain ⟨a, b⟩ := l
  cases a <;> cases b <;> simp only [bk2]
  · exact nd
  · exact ndG_ptG nd _ _
  · exact ndG_ptG nd _ _
  · exact ndG_ptG (ndG_ptG nd _ _) _ _
theorem gt_bk2 {A : List (Str × Lm)} {x : Str} (h0 : gt A x = (none, none)) (l : Lm) (k : Int) (y : Str) : gt (bk2 A x l k) y = if y = x then mv k l else gt A y := by
  obtain ⟨a, b⟩ := l
  by_cases hy : y = x
  · subst hy
    rw [if_pos rfl]
    cases a <;> cases b <;> simp [bk2, gt_ptG, mv, h0]
  · rw [if_neg hy]
    cases a <;> cases b <;> simp [bk2, gt_ptG, hy]
theorem kn_bk2 {ns : List Str} {A : List (Str × Lm)} (kn : Kn ns A) {x : Str} (hx : x ∈ ns) (l : Lm) (k : Int) : Kn ns (bk2 A x l k) := by
  obtain ⟨a, b⟩ := l
  cases a <;> cases b <;> simp only [bk2]
  · exact kn
  · exact kn.pt hx _
  · exact kn.pt hx _
  · exact (kn.pt hx _).pt hx _
theorem VD_of {D : List (Str × Lm)} (nd : (ksG D).Nodup) (h : ∀ x, vd (gt D x) = true) : VD D := fun q hq => by rw [← gt_mem nd hq]; exact h q.1
theorem backG_spec (P : List (Str × Pp)) : ∀ (L A : List (Str × Lm)), (ksG L).Nodup → (∀ x ∈ ksG L, gt A x = (none, none)) → (ksG A).Nodup → (backG P A L = none ↔ ∃ x, be1 (gt L x) (lkG P x) = none) ∧ ∀ D, backG P A L = some D → (ksG D).Nodup ∧ ∀ x, some (gt D x) = if x ∈ ksG L then be1 (gt L x) (lkG P x) else some (gt A x)
  | [], A, _, _, nd => by
    refine ⟨⟨fun z => (by cases z), fun ⟨x, z⟩ => (by rw [show gt [] x = (none, none) from rfl, be1_nn] at z; cases z)⟩, fun D e => ?_⟩
    cases (show some A = some D from e)
    exact ⟨nd, fun x => by rw [if_neg (by simp [ksG])]⟩
  | q :: L, A, nl, h0, nd => by
    have n2 : (ksG L).Nodup ∧ q.1 ∉ ksG L := by
      unfold ksG at nl ⊢
      rw [List.map_cons, List.nodup_cons] at nl
      exact ⟨nl.2, nl.1⟩
    have gq : gt (q :: L) q.1 = q.2 := by unfold gt; rw [lkG_cons, if_pos rfl]; rfl
    have gn : ∀ y, y ≠ q.1 → gt (q :: L) y = gt L y := fun y hy => by unfold gt; rw [lkG_cons, if_neg (Ne.symm hy)]
    have gl : gt L q.1 = (none, none) := by unfold gt; rw [lkG_none.mp n2.2]; rfl
    have mk : ∀ y, y ∈ ksG (q :: L) ↔ y = q.1 ∨ y ∈ ksG L := fun y => by simp [ksG]
    have hq0 : gt A q.1 = (none, none) := h0 _ ((mk _).mpr (.inl rfl))
    have e1 : backG P A (q :: L) = (bkS P A q).bind fun A' => backG P A' L := by unfold backG; rw [List.foldlM_cons]; rfl
    have go : ∀ (m : Lm) (A' : List (Str × Lm)), be1 q.2 (lkG P q.1) = some m → bkS P A q = some A' → (ksG A').Nodup → (∀ y, gt A' y = if y = q.1 then m else gt A y) → (backG P A (q :: L) = none ↔ ∃ x, be1 (gt (q :: L) x) (lkG P x) = none) ∧ ∀ D, backG P A (q :: L) = some D → (ksG D).Nodup ∧ ∀ x, some (gt D x) = if x ∈ ksG (q :: L) then be1 (gt (q :: L) x) (lkG P x) else some (gt A x) := fun m A' eb es na ga => by
      obtain ⟨i1, i2⟩ := backG_spec P L A' n2.1 (fun x hx => by rw [ga, if_neg (show ¬ x = q.1 from fun z => n2.2 (z ▸ hx))]; exact h0 x ((mk x).mpr (.inr hx))) na
      rw [e1, es]
      show (backG P A' L = none ↔ _) ∧ ∀ D, backG P A' L = some D → _
      refine ⟨?_, fun D e => ?_⟩
      · rw [i1]
        constructor
        · rintro ⟨x, hx⟩
          refine ⟨x, ?_⟩
          by_cases c : x = q.1
          · subst c; rw [gl, be1_nn] at hx; cases hx
          · rw [gn x c]; exact hx
        · rintro ⟨x, hx⟩
          refine ⟨x, ?_⟩
          by_cases c : x = q.1
          · subst c; rw [gq, eb] at hx; cases hx
          · rw [gn x c] at hx; exact hx
      · obtain ⟨a, b⟩ := i2 D e
        refine ⟨a, fun x => ?_⟩
        rw [b]
        by_cases c : x = q.1
        · subst c
          rw [if_neg n2.2, if_pos ((mk _).mpr (.inl rfl)), gq, eb, ga, if_pos rfl]
        · rw [gn x c, ga, if_neg c]
          by_cases cl : x ∈ ksG L
          · rw [if_pos cl, if_pos ((mk _).mpr (.inr cl))]
          · rw [if_neg cl, if_neg (fun z => ((mk _).mp z).elim c cl)]
    cases hp : lkG P q.1 with
    | none =>
      refine go (mv 0 q.2) (bk2 A q.1 q.2 0) (by rw [hp, mv_0]; rfl) (by simp only [bkS, hp, Option.getD_none]) (nd_bk2 nd _ _ _) (gt_bk2 hq0 _ _)
    | some p =>
      obtain ⟨b, k⟩ := p
      cases b with
      | false => exact go (mv k q.2) (bk2 A q.1 q.2 k) (by rw [hp]; rfl) (by simp only [bkS, hp, Option.getD_some]) (nd_bk2 nd _ _ _) (gt_bk2 hq0 _ _)
      | true =>
        cases hw : wi k q.2 with
        | true => exact go (none, none) A (by rw [hp]; simp only [be1, hw, if_true]) (by simp only [bkS, hp, Option.getD_some, hw, if_true]) nd (fun y => by by_cases c : y = q.1 <;> simp [c, hq0])
        | false =>
          rw [e1]
          have : bkS P A q = none := by simp only [bkS, hp, Option.getD_some, hw, Bool.false_eq_true, if_false]
          rw [this]
          exact ⟨⟨fun _ => ⟨q.1, by rw [gq, hp]; simp only [be1, hw, Bool.false_eq_true, if_false]⟩, fun _ => rfl⟩, fun D z => (by cases z)⟩
/-- so both are alike -/
theorem back_both {A B : List (Str × Lm)} {P L : List (Str × Pp)} (nA : (ksG A).Nodup) (nB : (ksG B).Nodup) (nL : (ksG L).Nodup) (vB : VD B) (h : ∀ x, be1 (gt B x) (lkG L x) = be1 (gt A x) (lkG P x)) :
    (beG B L = none ∧ backG P [] A = none ∧ ∃ x, be1 (gt A x) (lkG P x) = none) ∨ ∃ D D', beG B L = some D ∧ backG P [] A = some D' ∧ duL D = duL D' ∧ (ksG D).Nodup ∧ (ksG D').Nodup ∧ VD D' ∧ (∀ x, gt D x = gt D' x) ∧ ∀ x, be1 (gt A x) (lkG P x) = some (gt D' x) := by
  obtain ⟨a1, a2⟩ := beG_spec L B nL vB nB
  obtain ⟨b1, b2⟩ := backG_spec P A [] nA (fun _ _ => rfl) .nil
  cases e1 : beG B L with
  | none =>
    obtain ⟨x, hx⟩ := a1.mp e1
    rw [h] at hx
    exact .inl ⟨rfl, b1.mpr ⟨x, hx⟩, x, hx⟩
  | some D =>
    cases e2 : backG P [] A with
    | none =>
      obtain ⟨x, hx⟩ := b1.mp e2
      have := a1.mpr ⟨x, by rw [h]; exact hx⟩
      rw [this] at e1; cases e1
    | some D' =>
      obtain ⟨n1, v1, g1⟩ := a2 D e1
      obtain ⟨n2, g2⟩ := b2 D' e2
      have g2' : ∀ x, some (gt D' x) = be1 (gt A x) (lkG P x) := fun x => by
        rw [g2]
        by_cases c : x ∈ ksG A
        · rw [if_pos c]
        · rw [if_neg c, show gt A x = (none, none) from by unfold gt; rw [lkG_none.mp c]; rfl, be1_nn]; rfl
      have gg : ∀ x, gt D x = gt D' x := fun x => Option.some.inj ((g1 x).trans ((h x).trans (g2' x).symm))
      exact .inr ⟨D, D', rfl, rfl, (duL_iff n1 n2).mpr gg, n1, n2, VD_of n2 (fun x => by rw [← gg]; exact v1.gt n1 x), gg, fun x => (g2' x).symm⟩
theorem kn_backG {ns : List Str} {P : List (Str × Pp)} : ∀ {L A D : List (Str × Lm)}, Kn ns A → (∀ x ∈ ksG L, x ∈ ns) → backG P A L = some D → Kn ns D
  | [], A, D, k, _, e => by cases (show some A = some D from e); exact k
  | q :: L, A, D, k, hx, e => by
    have e1 : backG P A (q :: L) = (bkS P A q).bind fun A' => backG P A' L := by unfold backG; rw [List.foldlM_cons]; rfl
    rw [e1] at e
    cases c : bkS P A q with
    | none => rw [c] at e; cases e
    | some A' =>
      rw [c] at e
      refine kn_backG (A := A') ?_ (fun x h => hx x (by simp [ksG] at h ⊢; exact .inr h)) e
      unfold bkS at c
      split at c
      · split at c
        · cases c; exact k
        · cases c
      · cases c; exact kn_bk2 k (hx q.1 (by simp [ksG])) _ _
end K01
end

section
set_option Elab.async false
set_option linter.all false
set_option maxRecDepth 100000
set_option maxHeartbeats 4000000
set_option autoImplicit false
namespace K01
open PySem L2 Core
def bkV : Option (List (Str × Lm)) → Vl
  | none => .non
  | some D => .fd (KG lv D)
theorem it_fdL {α : Type} {T : Tab} {cl : Cl} {s : Lo} {h : Hv} {e : CE} {pe : α → Vl} {D : List (Str × α)} (he : evE T cl false e s h = .ok (.fd (KG pe D)) h) : evI T cl (.val e) s h = .ok (.free (D.map fun q => .str q.1)) h := by
  rw [it_fdG he]
  simp [ksG, Function.comp_def]
abbrev bkb : CSs := (.cons (.set (.tup (.cons (.var 4) (.cons (.var 5) .nil))) (.sub (.var 0) (.var 3))) (.cons (.set (.tup (.cons (.var 6) (.cons (.var 7) .nil))) (.bm .get true (.var 1) (.cons (.var 3) (.cons (.tup (.cons (.str "add") (.cons (.int 0) .nil))) .nil)))) (.cons (.ife (.and_ (.cmp .eq (.var 6) (.str "set")) (.not_ (.call 400 (.cons (.var 7) (.cons (.var 4) (.cons (.var 5) .nil)))))) (.cons (.ret .non) .nil) .nil) (.cons (.ife (.and_ (.cmp .eq (.var 6) (.str "add")) (.cmp .isnot (.var 4) .non)) (.cons (.setI (.var 2) (.var 3) (.tup (.cons (.bin .sub true (.var 4) (.var 7)) (.cons .non .nil)))) .nil) .nil) (.cons (.ife (.and_ (.cmp .eq (.var 6) (.str "add")) (.cmp .isnot (.var 5) .non)) (.cons (.setI (.var 2) (.var 3) (.tup (.cons (.sub (.bm .get true (.var 2) (.cons (.var 3) (.cons (.tup (.cons .non (.cons .non .nil))) .nil))) (.int 0)) (.cons (.bin .sub true (.var 5) (.var 7)) .nil)))) .nil) .nil) .nil)))))
theorem getp {h : Hv} {P : List (Str × Pp)} {x : Str} {fz : Bool} : bmF .get fz (.fd (KG pv P)) [.str x, .tup [.str "add", .int 0]] h = .ok (pv ((lkG P x).getD (false, 0))) h := by
  simp only [bmF, getF, asD, keyOf, look_KG]
  cases lkG P x <;> rfl
theorem bk_step (n : Nat) {h : Hv} {D A : List (Str × Lm)} {P : List (Str × Pp)} {x : Str} {l : Lm} {x4 x5 x6 x7 : Option Vl} (e1 : look (KG lv D) (.inr x) = some (lv l)) (hl : A.length < 100) :
    (∃ A', bkS P A (x, l) = some A' ∧ ∃ y4 y5 y6 y7, evSs T (callN T (n + 1)) bkb [some (.fd (KG lv D)), some (.fd (KG pv P)), some (.ref h.length), some (.str x), x4, x5, x6, x7] (h ++ [.dct (KG lv A)]) = .ok (.nx [some (.fd (KG lv D)), some (.fd (KG pv P)), some (.ref h.length), some (.str x), y4, y5, y6, y7]) (h ++ [.dct (KG lv A')])) ∨ (bkS P A (x, l) = none ∧ evSs T (callN T (n + 1)) bkb [some (.fd (KG lv D)), some (.fd (KG pv P)), some (.ref h.length), some (.str x), x4, x5, x6, x7] (h ++ [.dct (KG lv A)]) = .ok (.rt .non) (h ++ [.dct (KG lv A)])) := by
  have g := getp (h := h ++ [.dct (KG lv A)]) (P := P) (x := x) (fz := true)
  have hmG : ∀ E : List (Str × Lm), (h ++ [Cell.dct (KG lv E)])[h.length]? = some (.dct (KG lv E)) := fun _ => get_last
  have gG : ∀ E : List (Str × Lm), bmF .get true (.ref h.length) [.str x, .tup [.non, .non]] (h ++ [.dct (KG lv E)]) = .ok (.tup [ow (gt E x).1, ow (gt E x).2]) (h ++ [.dct (KG lv E)]) := fun E => get_ref (hmG E)
  have e2 : (KG lv A).length < LIM := by simp [KG, LIM]; omega
  have e3 : ∀ m, (KG lv (ptG A x m)).length < LIM := fun m => by have := lenG_ptG A x m; simp [KG, LIM]; omega
  have bs : ∀ (i j : Int) (h : Hv), binF .sub true (.int i) (.int j) h = .ok (.int (i - j)) h := fun _ _ _ => rfl
  have pA : ∀ (E : List (Str × Lm)) (i : Int), put (KG lv E) (.inr x) (.tup [.int i, .non]) = KG lv (ptG E x (some i, none)) := fun E i => put_lv E x (some i) none
  have pB : ∀ (E : List (Str × Lm)) (o : Option Int) (i : Int), put (KG lv E) (.inr x) (.tup [ow o, .int i]) = KG lv (ptG E x (o, some i)) := fun E o i => put_lv E x o (some i)
  have wo := fun k => lwithin_ok n k l (h ++ [.dct (KG lv A)])
  unfold bkS
  simp only
  generalize (lkG P x).getD (false, 0) = p at g ⊢
  obtain ⟨b, k⟩ := p
  have wo := wo k
  cases b with
  | true =>
    cases hw : wi k l with
    | true =>
      rw [hw] at wo
      refine .inl ⟨A, by simp only [hw, if_true], some (ow l.1), some (ow l.2), some (.str (kd true)), some (.int k), ?_⟩
      simp only [↓rb, ↓tw0, ↓tw1, ↓evSs, ↓evS, ↓evE, ↓evEs, ↓evI, ↓evC, ↓evO, ↓evPs, ag1, ag2, ag3, ag4, chkT, ofO, List.getElem?_cons_zero, List.getElem?_cons_succ, List.set_cons_zero, List.set_cons_succ, Bool.false_eq_true, if_false, if_true, Option.bind_some, Option.map_some, tru1, subD, setD, cmpD, cmpO, binD, bltD, asS, asL, asD, asO, keyOf, truV, cf_eq_i, cf_ne_i, cf_eq_s, cf_ne_s, cf_eq_b, cf_ne_b, cf_lt_i, cf_gt_i, cf_le_i, cf_ge_i, cf_is0, cf_isr, cf_isnot0, cf_ist, kd_dec, kd_dec2, subF, ix10, ix20, ix21, ix30, ix31, ix32, ln1, ln2, ln3, lim0, lim1, lim2, lim3, lim4, lim5, lim6, decide_true, decide_false, decide_not, Bool.not_true, Bool.not_false, Bool.true_or, Bool.or_true, Bool.false_or, Bool.or_false, not_true, not_false_eq_true, eq_self, reduceCtorEq, Bool.and_true, Bool.true_and, Bool.and_false, Bool.false_and, e1, lv, bmK, g, pv, chk, Option.isSome_some, wo]
    | false =>
      rw [hw] at wo
      refine .inr ⟨by simp only [hw, Bool.false_eq_true, if_false], ?_⟩
      simp only [↓rb, ↓tw0, ↓tw1, ↓evSs, ↓evS, ↓evE, ↓evEs, ↓evI, ↓evC, ↓evO, ↓evPs, ag1, ag2, ag3, ag4, chkT, ofO, List.getElem?_cons_zero, List.getElem?_cons_succ, List.set_cons_zero, List.set_cons_succ, Bool.false_eq_true, if_false, if_true, Option.bind_some, Option.map_some, tru1, subD, setD, cmpD, cmpO, binD, bltD, asS, asL, asD, asO, keyOf, truV, cf_eq_i, cf_ne_i, cf_eq_s, cf_ne_s, cf_eq_b, cf_ne_b, cf_lt_i, cf_gt_i, cf_le_i, cf_ge_i, cf_is0, cf_isr, cf_isnot0, cf_ist, kd_dec, kd_dec2, subF, ix10, ix20, ix21, ix30, ix31, ix32, ln1, ln2, ln3, lim0, lim1, lim2, lim3, lim4, lim5, lim6, decide_true, decide_false, decide_not, Bool.not_true, Bool.not_false, Bool.true_or, Bool.or_true, Bool.false_or, Bool.or_false, not_true, not_false_eq_true, eq_self, reduceCtorEq, Bool.and_true, Bool.true_and, Bool.and_false, Bool.false_and, e1, lv, bmK, g, pv, chk, Option.isSome_some, wo]
  | false =>
    refine .inl ⟨bk2 A x l k, rfl, some (ow l.1), some (ow l.2), some (.str (kd false)), some (.int k), ?_⟩
    obtain ⟨lo, hi⟩ := l
    cases lo with
    | none =>
      cases hi with
      | none => simp only [↓rb, ↓tw0, ↓tw1, ↓evSs, ↓evS, ↓evE, ↓evEs, ↓evI, ↓evC, ↓evO, ↓evPs, ag1, ag2, ag3, ag4, chkT, ofO, List.getElem?_cons_zero, List.getElem?_cons_succ, List.set_cons_zero, List.set_cons_succ, Bool.false_eq_true, if_false, if_true, Option.bind_some, Option.map_some, tru1, subD, setD, cmpD, cmpO, binD, bltD, asS, asL, asD, asO, keyOf, truV, cf_eq_i, cf_ne_i, cf_eq_s, cf_ne_s, cf_eq_b, cf_ne_b, cf_lt_i, cf_gt_i, cf_le_i, cf_ge_i, cf_is0, cf_isr, cf_isnot0, cf_ist, kd_dec, kd_dec2, subF, ix10, ix20, ix21, ix30, ix31, ix32, ln1, ln2, ln3, lim0, lim1, lim2, lim3, lim4, lim5, lim6, decide_true, decide_false, decide_not, Bool.not_true, Bool.not_false, Bool.true_or, Bool.or_true, Bool.false_or, Bool.or_false, not_true, not_false_eq_true, eq_self, reduceCtorEq, Bool.and_true, Bool.true_and, Bool.and_false, Bool.false_and, e1, lv, bmK, g, pv, chk, Option.isSome_some, ow, bk2]
      | some b => simp only [↓rb, ↓tw0, ↓tw1, ↓evSs, ↓evS, ↓evE, ↓evEs, ↓evI, ↓evC, ↓evO, ↓evPs, ag1, ag2, ag3, ag4, chkT, ofO, List.getElem?_cons_zero, List.getElem?_cons_succ, List.set_cons_zero, List.set_cons_succ, Bool.false_eq_true, if_false, if_true, Option.bind_some, Option.map_some, tru1, subD, setD, cmpD, cmpO, binD, bltD, asS, asL, asD, asO, keyOf, truV, cf_eq_i, cf_ne_i, cf_eq_s, cf_ne_s, cf_eq_b, cf_ne_b, cf_lt_i, cf_gt_i, cf_le_i, cf_ge_i, cf_is0, cf_isr, cf_isnot0, cf_ist, kd_dec, kd_dec2, subF, ix10, ix20, ix21, ix30, ix31, ix32, ln1, ln2, ln3, lim0, lim1, lim2, lim3, lim4, lim5, lim6, decide_true, decide_false, decide_not, Bool.not_true, Bool.not_false, Bool.true_or, Bool.or_true, Bool.false_or, Bool.or_false, not_true, not_false_eq_true, eq_self, reduceCtorEq, Bool.and_true, Bool.true_and, Bool.and_false, Bool.false_and, e1, lv, bmK, g, pv, chk, Option.isSome_some, show ow none = .non from rfl, show ow (some b) = .int b from rfl, cf_isni, bs, hmG, gG, e2, pB, set_last, bk2]
    | some a =>
      cases hi with
      | none => simp only [↓rb, ↓tw0, ↓tw1, ↓evSs, ↓evS, ↓evE, ↓evEs, ↓evI, ↓evC, ↓evO, ↓evPs, ag1, ag2, ag3, ag4, chkT, ofO, List.getElem?_cons_zero, List.getElem?_cons_succ, List.set_cons_zero, List.set_cons_succ, Bool.false_eq_true, if_false, if_true, Option.bind_some, Option.map_some, tru1, subD, setD, cmpD, cmpO, binD, bltD, asS, asL, asD, asO, keyOf, truV, cf_eq_i, cf_ne_i, cf_eq_s, cf_ne_s, cf_eq_b, cf_ne_b, cf_lt_i, cf_gt_i, cf_le_i, cf_ge_i, cf_is0, cf_isr, cf_isnot0, cf_ist, kd_dec, kd_dec2, subF, ix10, ix20, ix21, ix30, ix31, ix32, ln1, ln2, ln3, lim0, lim1, lim2, lim3, lim4, lim5, lim6, decide_true, decide_false, decide_not, Bool.not_true, Bool.not_false, Bool.true_or, Bool.or_true, Bool.false_or, Bool.or_false, not_true, not_false_eq_true, eq_self, reduceCtorEq, Bool.and_true, Bool.true_and, Bool.and_false, Bool.false_and, e1, lv, bmK, g, pv, chk, Option.isSome_some, show ow none = .non from rfl, show ow (some a) = .int a from rfl, cf_isni, bs, hmG, gG, e2, pA, set_last, bk2]
      | some b => simp only [↓rb, ↓tw0, ↓tw1, ↓evSs, ↓evS, ↓evE, ↓evEs, ↓evI, ↓evC, ↓evO, ↓evPs, ag1, ag2, ag3, ag4, chkT, ofO, List.getElem?_cons_zero, List.getElem?_cons_succ, List.set_cons_zero, List.set_cons_succ, Bool.false_eq_true, if_false, if_true, Option.bind_some, Option.map_some, tru1, subD, setD, cmpD, cmpO, binD, bltD, asS, asL, asD, asO, keyOf, truV, cf_eq_i, cf_ne_i, cf_eq_s, cf_ne_s, cf_eq_b, cf_ne_b, cf_lt_i, cf_gt_i, cf_le_i, cf_ge_i, cf_is0, cf_isr, cf_isnot0, cf_ist, kd_dec, kd_dec2, subF, ix10, ix20, ix21, ix30, ix31, ix32, ln1, ln2, ln3, lim0, lim1, lim2, lim3, lim4, lim5, lim6, decide_true, decide_false, decide_not, Bool.not_true, Bool.not_false, Bool.true_or, Bool.or_true, Bool.false_or, Bool.or_false, not_true, not_false_eq_true, eq_self, reduceCtorEq, Bool.and_true, Bool.true_and, Bool.and_false, Bool.false_and, e1, lv, bmK, g, pv, chk, Option.isSome_some, show ow (some a) = .int a from rfl, show ow (some b) = .int b from rfl, cf_isni, bs, hmG, gG, e2, e3, pA, pB, set_last, bk2]
theorem back_ok (n : Nat) {D : List (Str × Lm)} {P : List (Str × Pp)} (h : Hv) (nD : (ksG D).Nodup) (lD : D.length < 25) : callN T (n + 2) 403 [.fd (KG lv D), .fd (KG pv P)] h = .ok (bkV (backG P [] D)) h := by
  rw [c403]
  unfold b__law_back
  have e1 : evE T (callN T (n + 1)) false (.dct false .nil) [some (.fd (KG lv D)), some (.fd (KG pv P)), none, none, none, none, none, none] h = .ok (.ref h.length) (h ++ [.dct (KG lv [])]) := by
    simp only [↓rb, ↓tw0, ↓tw1, ↓evSs, ↓evS, ↓evE, ↓evEs, ↓evI, ↓evC, ↓evO, ↓evPs, ag1, ag2, ag3, ag4, chkT, ofO, List.getElem?_cons_zero, List.getElem?_cons_succ, List.set_cons_zero, List.set_cons_succ, Bool.false_eq_true, if_false, if_true, Option.bind_some, Option.map_some, tru1, subD, setD, cmpD, cmpO, binD, bltD, asS, asL, asD, asO, keyOf, truV, cf_eq_i, cf_ne_i, cf_eq_s, cf_ne_s, cf_eq_b, cf_ne_b, cf_lt_i, cf_gt_i, cf_le_i, cf_ge_i, cf_is0, cf_isr, cf_isnot0, cf_ist, kd_dec, kd_dec2, subF, ix10, ix20, ix21, ix30, ix31, ix32, ln1, ln2, ln3, lim0, lim1, lim2, lim3, lim4, lim5, lim6, decide_true, decide_false, decide_not, Bool.not_true, Bool.not_false, Bool.true_or, Bool.or_true, Bool.false_or, Bool.or_false, not_true, not_false_eq_true, eq_self, reduceCtorEq, Bool.and_true, Bool.true_and, Bool.and_false, Bool.false_and, chk, mkD, mergeD, List.foldl_nil]; rfl
  have it : evI T (callN T (n + 1)) (.val (.var 0)) [some (.fd (KG lv D)), some (.fd (KG pv P)), some (.ref h.length), none, none, none, none, none] (h ++ [.dct (KG lv [])]) = .ok (.free (D.map fun q => .str q.1)) (h ++ [.dct (KG lv [])]) := it_fdL (ev_var rfl)
  have lp := forR_fold (src := .free) (t := .var 3) (body := evSs T (callN T (n + 1)) bkb) (fun q : Str × Lm => .str q.1)
    (fun A s h2 => ∃ x3 x4 x5 x6 x7, s = [some (.fd (KG lv D)), some (.fd (KG pv P)), some (.ref h.length), x3, x4, x5, x6, x7] ∧ h2 = h ++ [.dct (KG lv A)] ∧ Kn (ksG D) A) (bkS P) (fun r => ∃ h2, r = .ok (.rt .non) h2 ∧ Fr [] h h2) (fun _ _ _ _ => trivial) D
    (fun q hq A s h2 ⟨x3, x4, x5, x6, x7, es, eh, kn⟩ => by
      subst es eh
      obtain ⟨x, l⟩ := q
      have hx : x ∈ ksG D := List.mem_map.mpr ⟨_, hq, rfl⟩
      have lA := kn.len
      have e1 : look (KG lv D) (.inr x) = some (lv l) := by rw [look_KG, (lkG_iff nD).mpr hq]; rfl
      refine ⟨[some (.fd (KG lv D)), some (.fd (KG pv P)), some (.ref h.length), some (.str x), x4, x5, x6, x7], rfl, ?_⟩
      rcases bk_step n (h := h) (A := A) (P := P) (x4 := x4) (x5 := x5) (x6 := x6) (x7 := x7) e1 (by simp [ksG] at lA; omega) with ⟨A', ea, y4, y5, y6, y7, ev⟩ | ⟨ea, ev⟩
      · refine .inl ⟨A', ea, _, _, ev, _, _, _, _, _, rfl, rfl, ?_⟩
        unfold bkS at ea
        split at ea
        · split at ea
          · cases ea; exact kn
          · cases ea
        · cases ea; exact kn_bk2 kn hx _ _
      · exact .inr ⟨ea, ⟨_, ev, fr_app _ _ _⟩, .inl ⟨_, _, ev⟩⟩) [] [some (.fd (KG lv D)), some (.fd (KG pv P)), some (.ref h.length), none, none, none, none, none] (h ++ [.dct (KG lv [])]) ⟨_, _, _, _, _, rfl, rfl, kn_nil⟩
  rcases lp with ⟨A, eA, s', h', e2, x3, x4, x5, x6, x7, rfl, rfl, kn⟩ | ⟨eA, ⟨h2, e2, fr⟩, en⟩
  · have eA : backG P [] D = some A := eA
    rw [eA]
    refine (congrArg (fun r => finR 2 h (retOf r)) ((st_set e1).trans ((st_for it ((unlock_free rfl).trans e2)).trans (st_ret (ev_var rfl))))).trans ?_
    exact fin2_d (fr_app _ _ _) get_last (Nat.le_refl _) (pu_KG pu_lv _)
  · have eA : backG P [] D = none := eA
    rw [eA]
    refine (congrArg (fun r => finR 2 h (retOf r)) ((st_set e1).trans ((st_forE it ((unlock_free rfl)) en).trans e2))).trans ?_
    exact fin2_p fr rfl
def toldV : Option (List (Str × Lm)) → Vl
  | none => .non
  | some D => ptv (D.filter fun q => la q.2)
theorem told_ok (n : Nat) {B : List (Str × Lm)} {L : List (Str × Pp)} (h : Hv) (nb : (ksG B).Nodup) (lb : B.length < 25) (ll : L.length < 25) : callN T (n + 3) 404 [ptv B, chv L] h = .ok (toldV (beG B L)) h := by
  rw [c404]
  unfold b__law_told
  have ea := ev_bef T n (s := [some (ptv B), some (chv L), some .non]) (h := h) (e := .var 0) (f := .var 1) (ev_var rfl) (ev_var rfl) nb lb ll
  cases c : beG B L with
  | none =>
    rw [c] at ea
    refine Eq.trans (congrArg (finR 2 h) ?_) (fin2_0 (show pu .non from rfl))
    have sb : T.sub 101 101 = true := by decide +kernel
    have ix : T.isX 101 = true := by decide +kernel
    simp only [↓rb, ↓tw0, ↓tw1, ↓evSs, ↓evS, ↓evE, ↓evEs, ↓evI, ↓evC, ↓evO, ↓evPs, ag1, ag2, ag3, ag4, chkT, ofO, List.getElem?_cons_zero, List.getElem?_cons_succ, List.set_cons_zero, List.set_cons_succ, Bool.false_eq_true, if_false, if_true, Option.bind_some, Option.map_some, tru1, subD, setD, cmpD, cmpO, binD, bltD, asS, asL, asD, asO, keyOf, truV, cf_eq_i, cf_ne_i, cf_eq_s, cf_ne_s, cf_eq_b, cf_ne_b, cf_lt_i, cf_gt_i, cf_le_i, cf_ge_i, cf_is0, cf_isr, cf_isnot0, cf_ist, kd_dec, kd_dec2, subF, ix10, ix20, ix21, ix30, ix31, ix32, ln1, ln2, ln3, lim0, lim1, lim2, lim3, lim4, lim5, lim6, decide_true, decide_false, decide_not, Bool.not_true, Bool.not_false, Bool.true_or, Bool.or_true, Bool.false_or, Bool.or_false, not_true, not_false_eq_true, eq_self, reduceCtorEq, Bool.and_true, Bool.true_and, Bool.and_false, Bool.false_and, ↓ea, hdR, sb, ix, and_self, asgSs, asgS, ctVs, wipeL, suU, seE, onN, offN, retOf, toldV, List.append_nil]
  | some D =>
    rw [c] at ea
    refine Eq.trans (congrArg (finR 2 h) ?_) (fin2_0 (pu_ptv _))
    have es : evSs T (callN T (n + 2)) (.cons (.set (.var 2) (.meth (.var 0) 4 (.cons (.var 1) .nil))) .nil) [some (ptv B), some (chv L), some .non] h = .ok (.nx [some (ptv B), some (chv L), some (ptv (D.filter fun q => la q.2))]) h := (st_set ea).trans (by rw [evSs]; rfl)
    simp only [↓evSs, ↓evS, ↓es, evE, tw0, ag1, List.set_cons_zero, List.set_cons_succ, List.getElem?_cons_zero, List.getElem?_cons_succ, rb, retOf, toldV]
theorem kind_ok (n : Nat) {B : List (Str × Lm)} {L : List (Str × Pp)} (h : Hv) (nb : (ksG B).Nodup) (lb : B.length < 25) (ll : L.length < 25) (c : beG B L = none) : callN T (n + 3) 405 [ptv B, chv L] h = .ok (.bl true) h := by
  rw [c405]
  unfold b__law_kind
  have ea := ev_bef T n (s := [some (ptv B), some (chv L), some (.bl false), none, none]) (h := h) (e := .var 0) (f := .var 1) (ev_var rfl) (ev_var rfl) nb lb ll
  rw [c] at ea
  refine Eq.trans (congrArg (finR 2 h) ?_) (fin2_0 (show pu (.bl true) from rfl))
  have s1 : T.sub 101 100 = true := by decide +kernel
  have s2 : T.sub 101 101 = true := by decide +kernel
  have s4 : T.sub 101 108 = false := by decide +kernel
  have i0 : T.isX 100 = true := by decide +kernel
  have i1 : T.isX 101 = true := by decide +kernel
  have i8 : T.isX 108 = true := by decide +kernel
  simp only [↓rb, ↓tw0, ↓tw1, ↓evSs, ↓evS, ↓evE, ↓evEs, ↓evI, ↓evC, ↓evO, ↓evPs, ag1, ag2, ag3, ag4, chkT, ofO, List.getElem?_cons_zero, List.getElem?_cons_succ, List.set_cons_zero, List.set_cons_succ, Bool.false_eq_true, if_false, if_true, Option.bind_some, Option.map_some, tru1, subD, setD, cmpD, cmpO, binD, bltD, asS, asL, asD, asO, keyOf, truV, cf_eq_i, cf_ne_i, cf_eq_s, cf_ne_s, cf_eq_b, cf_ne_b, cf_lt_i, cf_gt_i, cf_le_i, cf_ge_i, cf_is0, cf_isr, cf_isnot0, cf_ist, kd_dec, kd_dec2, subF, ix10, ix20, ix21, ix30, ix31, ix32, ln1, ln2, ln3, lim0, lim1, lim2, lim3, lim4, lim5, lim6, decide_true, decide_false, decide_not, Bool.not_true, Bool.not_false, Bool.true_or, Bool.or_true, Bool.false_or, Bool.or_false, not_true, not_false_eq_true, eq_self, reduceCtorEq, Bool.and_true, Bool.true_and, Bool.and_false, Bool.false_and, ↓ea, hdR, s1, s2, s4, i0, i1, i8, and_self, asgSs, asgS, ctVs, ctsVs, wipeL, suU, seE, onN, offN, retOf, List.append_nil]
end K01
end

section
set_option Elab.async false
set_option linter.all false
set_option maxRecDepth 100000
set_option maxHeartbeats 4000000
set_option autoImplicit false
namespace K01
open PySem L2 Core
abbrev ptb : CSs := (.cons (.set (.var 6) (.call 301 (.cons (.var 0) (.cons (.int 6) .nil)))) (.cons (.set (.tup (.cons (.var 7) (.cons (.var 8) .nil))) (.bm .get true (.var 1) (.cons (.var 5) (.cons (.tup (.cons .non (.cons .non .nil))) .nil)))) (.cons (.set (.var 9) (.bin .sub true (.bin .add true (.var 3) (.call 301 (.cons (.var 0) (.cons (.int 9) .nil)))) (.int 4))) (.cons (.ife (.and_ (.cmp .isnot (.var 7) .non) (.cmp .eq (.var 6) (.int 1))) (.cons (.set (.var 9) (.bin .sub true (.var 7) (.blt .int true (.cons (.cmp .eq (.call 301 (.cons (.var 0) (.cons (.int 7) .nil))) (.int 6)) .nil)))) .nil) .nil) (.cons (.ife (.and_ (.cmp .isnot (.var 8) .non) (.cmp .eq (.var 6) (.int 2))) (.cons (.set (.var 9) (.bin .add true (.var 8) (.blt .int true (.cons (.cmp .eq (.call 301 (.cons (.var 0) (.cons (.int 7) .nil))) (.int 6)) .nil)))) .nil) .nil) (.cons (.ife (.or_ (.cmp .eq (.var 6) (.int 1)) (.or_ (.cmp .eq (.var 6) (.int 2)) (.cmp .eq (.var 6) (.int 3)))) (.cons (.setI (.var 4) (.var 5) (.tup (.cons (.str "set") (.cons (.var 9) .nil)))) .nil) .nil) (.cons (.ife (.cmp .gt (.var 6) (.int 3)) (.cons (.setI (.var 4) (.var 5) (.tup (.cons (.str "add") (.cons (.sub (.lst true (.cons (.var 9) (.cons (.bin .sub true (.call 301 (.cons (.var 0) (.cons (.int 10) .nil))) (.int 5)) .nil))) (.bin .sub true (.var 6) (.int 4))) .nil)))) .nil) .nil) .nil)))))))
theorem parts_step (n : Nat) {k q : Nat} {f : Int} {ns : Vl} {x : Str} {D : List (Str × Lm)} {A : List (Str × Pp)} {x6 x7 x8 x9 : Option Vl} {a : Hv} (hk : PAt a k) (hq : q = a.length) (hl : A.length < 100) :
    ∃ (y6 y7 y8 y9 : Option Vl) (A' : List (Str × Pp)) (a' : Hv), evSs T (callN T (n + 1)) ptb [some (.ref k), some (.fd (KG lv D)), some ns, some (.int f), some (.ref q), some (.str x), x6, x7, x8, x9] (a ++ [.dct (KG pv A)]) = .ok (.nx [some (.ref k), some (.fd (KG lv D)), some ns, some (.int f), some (.ref q), some (.str x), y6, y7, y8, y9]) (a' ++ [.dct (KG pv A')]) ∧ Same k a a' ∧ (A' = A ∨ ∃ p, A' = ptG A x p) := by
  obtain ⟨d1, g1, u1, v1, w1, t1⟩ := drawC T n 6 (h := a ++ [.dct (KG pv A)]) hk.app (by decide) (by decide +kernel)
  obtain ⟨a1, rfl, s1⟩ := t1.split hk.lt
  have hk1 := s1.at hk
  obtain ⟨d2, g2, u2, v2, w2, t2⟩ := drawC T n 9 (h := a1 ++ [.dct (KG pv A)]) hk1.app (by decide) (by decide +kernel)
  obtain ⟨a2, rfl, s2⟩ := t2.split hk1.lt
  have hk2 := s2.at hk1
  obtain ⟨d3, g3, u3, v3, w3, t3⟩ := drawC T n 7 (h := a2 ++ [.dct (KG pv A)]) hk2.app (by decide) (by decide +kernel)
  obtain ⟨a3, rfl, s3⟩ := t3.split hk2.lt
  obtain ⟨d4, g4, u4, v4, w4, t4⟩ := drawC T n 10 (h := a2 ++ [.dct (KG pv A)]) hk2.app (by decide) (by decide +kernel)
  obtain ⟨a4, rfl, s4⟩ := t4.split hk2.lt
  have S2 := s1.trans s2
  have S3 := S2.trans s3
  have S4 := S2.trans s4
  have hq2 : q = a2.length := hq.trans S2.len.symm
  have hq3 : q = a3.length := hq.trans S3.len.symm
  have hq4 : q = a4.length := hq.trans S4.len.symm
  have q2 : (a2 ++ [Cell.dct (KG pv A)])[q]? = some (.dct (KG pv A)) := get_last' hq2
  have q3 : (a3 ++ [Cell.dct (KG pv A)])[q]? = some (.dct (KG pv A)) := get_last' hq3
  have q4 : (a4 ++ [Cell.dct (KG pv A)])[q]? = some (.dct (KG pv A)) := get_last' hq4
  have z2 : ∀ c, (a2 ++ [Cell.dct (KG pv A)]).set q c = a2 ++ [c] := fun c => set_last' hq2
  have z3 : ∀ c, (a3 ++ [Cell.dct (KG pv A)]).set q c = a3 ++ [c] := fun c => set_last' hq3
  have z4 : ∀ c, (a4 ++ [Cell.dct (KG pv A)]).set q c = a4 ++ [c] := fun c => set_last' hq4
  have e2 : (KG pv A).length < LIM := by simp [KG, LIM]; omega
  have g := fun h => get_fd (h := h) (A := D) (x := x) (fz := true)
  have ba : ∀ (i j : Int) (h : Hv), binF .add true (.int i) (.int j) h = .ok (.int (i + j)) h := fun _ _ _ => rfl
  have bs : ∀ (i j : Int) (h : Hv), binF .sub true (.int i) (.int j) h = .ok (.int (i - j)) h := fun _ _ _ => rfl
  have pS : ∀ i : Int, put (KG pv A) (.inr x) (.tup [.str "set", .int i]) = KG pv (ptG A x (true, i)) := fun i => put_KG pv A x (true, i)
  have pA : ∀ i : Int, put (KG pv A) (.inr x) (.tup [.str "add", .int i]) = KG pv (ptG A x (false, i)) := fun i => put_KG pv A x (false, i)
  generalize gt D x = l at g
  obtain ⟨lo, hi⟩ := l
  have fin : ∀ (r : Res Fl) (y9 : Option Vl) (A' : List (Str × Pp)) (a' : Hv), Same k a a' → (A' = A ∨ ∃ p, A' = ptG A x p) → r = .ok (.nx [some (.ref k), some (.fd (KG lv D)), some ns, some (.int f), some (.ref q), some (.str x), some (.int d1), some (ow lo), some (ow hi), y9]) (a' ++ [.dct (KG pv A')]) → ∃ (y6 y7 y8 y9 : Option Vl) (A' : List (Str × Pp)) (a' : Hv), r = .ok (.nx [some (.ref k), some (.fd (KG lv D)), some ns, some (.int f), some (.ref q), some (.str x), y6, y7, y8, y9]) (a' ++ [.dct (KG pv A')]) ∧ Same k a a' ∧ (A' = A ∨ ∃ p, A' = ptG A x p) := fun r y9 A' a' S c e => ⟨_, _, _, y9, A', a', e, S, c⟩
  have E : d1 = 0 ∨ d1 = 1 ∨ d1 = 2 ∨ d1 = 3 ∨ d1 = 4 ∨ d1 = 5 := by omega
  rcases E with rfl | rfl | rfl | rfl | rfl | rfl
  · exact fin _ (some (.int (f + d2 - 4))) A a2 S2 (.inl rfl) (by cases lo <;> cases hi <;> simp only [↓rb, ↓tw0, ↓tw1, ↓evSs, ↓evS, ↓evE, ↓evEs, ↓evI, ↓evC, ↓evO, ↓evPs, ag1, ag2, ag3, ag4, chkT, ofO, List.getElem?_cons_zero, List.getElem?_cons_succ, List.set_cons_zero, List.set_cons_succ, Bool.false_eq_true, if_false, if_true, Option.bind_some, Option.map_some, tru1, subD, setD, cmpD, cmpO, binD, bltD, asS, asL, asD, asO, keyOf, truV, cf_eq_i, cf_ne_i, cf_eq_s, cf_ne_s, cf_eq_b, cf_ne_b, cf_lt_i, cf_gt_i, cf_le_i, cf_ge_i, cf_is0, cf_isr, cf_isnot0, cf_ist, kd_dec, kd_dec2, subF, ix10, ix20, ix21, ix30, ix31, ix32, ln1, ln2, ln3, lim0, lim1, lim2, lim3, lim4, lim5, lim6, decide_true, decide_false, decide_not, Bool.not_true, Bool.not_false, Bool.true_or, Bool.or_true, Bool.false_or, Bool.or_false, not_true, not_false_eq_true, eq_self, reduceCtorEq, Bool.and_true, Bool.true_and, Bool.and_false, Bool.false_and, u1, u2, bmK, g, lv, ow, chk, Option.isSome_some, cf_isni, ba, bs, Int.reduceEq, Int.reduceLT])
  · cases lo with
    | none => exact fin _ (some (.int (f + d2 - 4))) _ a2 S2 (.inr ⟨(true, f + d2 - 4), rfl⟩) (by cases hi <;> simp only [↓rb, ↓tw0, ↓tw1, ↓evSs, ↓evS, ↓evE, ↓evEs, ↓evI, ↓evC, ↓evO, ↓evPs, ag1, ag2, ag3, ag4, chkT, ofO, List.getElem?_cons_zero, List.getElem?_cons_succ, List.set_cons_zero, List.set_cons_succ, Bool.false_eq_true, if_false, if_true, Option.bind_some, Option.map_some, tru1, subD, setD, cmpD, cmpO, binD, bltD, asS, asL, asD, asO, keyOf, truV, cf_eq_i, cf_ne_i, cf_eq_s, cf_ne_s, cf_eq_b, cf_ne_b, cf_lt_i, cf_gt_i, cf_le_i, cf_ge_i, cf_is0, cf_isr, cf_isnot0, cf_ist, kd_dec, kd_dec2, subF, ix10, ix20, ix21, ix30, ix31, ix32, ln1, ln2, ln3, lim0, lim1, lim2, lim3, lim4, lim5, lim6, decide_true, decide_false, decide_not, Bool.not_true, Bool.not_false, Bool.true_or, Bool.or_true, Bool.false_or, Bool.or_false, not_true, not_false_eq_true, eq_self, reduceCtorEq, Bool.and_true, Bool.true_and, Bool.and_false, Bool.false_and, u1, u2, bmK, g, lv, ow, chk, Option.isSome_some, cf_isni, ba, bs, Int.reduceEq, Int.reduceLT, q2, e2, pS, z2])
    | some lo => exact fin _ (some (.int (lo - if decide (d3 = 6) then 1 else 0))) _ a3 S3 (.inr ⟨(true, lo - if decide (d3 = 6) then 1 else 0), rfl⟩) (by cases hi <;> simp only [↓rb, ↓tw0, ↓tw1, ↓evSs, ↓evS, ↓evE, ↓evEs, ↓evI, ↓evC, ↓evO, ↓evPs, ag1, ag2, ag3, ag4, chkT, ofO, List.getElem?_cons_zero, List.getElem?_cons_succ, List.set_cons_zero, List.set_cons_succ, Bool.false_eq_true, if_false, if_true, Option.bind_some, Option.map_some, tru1, subD, setD, cmpD, cmpO, binD, bltD, asS, asL, asD, asO, keyOf, truV, cf_eq_i, cf_ne_i, cf_eq_s, cf_ne_s, cf_eq_b, cf_ne_b, cf_lt_i, cf_gt_i, cf_le_i, cf_ge_i, cf_is0, cf_isr, cf_isnot0, cf_ist, kd_dec, kd_dec2, subF, ix10, ix20, ix21, ix30, ix31, ix32, ln1, ln2, ln3, lim0, lim1, lim2, lim3, lim4, lim5, lim6, decide_true, decide_false, decide_not, Bool.not_true, Bool.not_false, Bool.true_or, Bool.or_true, Bool.false_or, Bool.or_false, not_true, not_false_eq_true, eq_self, reduceCtorEq, Bool.and_true, Bool.true_and, Bool.and_false, Bool.false_and, u1, u2, u3, bmK, g, lv, ow, chk, Option.isSome_some, cf_isni, ba, bs, Int.reduceEq, Int.reduceLT, int_b, q3, e2, pS, z3])
  · cases hi with
    | none => exact fin _ (some (.int (f + d2 - 4))) _ a2 S2 (.inr ⟨(true, f + d2 - 4), rfl⟩) (by cases lo <;> simp only [↓rb, ↓tw0, ↓tw1, ↓evSs, ↓evS, ↓evE, ↓evEs, ↓evI, ↓evC, ↓evO, ↓evPs, ag1, ag2, ag3, ag4, chkT, ofO, List.getElem?_cons_zero, List.getElem?_cons_succ, List.set_cons_zero, List.set_cons_succ, Bool.false_eq_true, if_false, if_true, Option.bind_some, Option.map_some, tru1, subD, setD, cmpD, cmpO, binD, bltD, asS, asL, asD, asO, keyOf, truV, cf_eq_i, cf_ne_i, cf_eq_s, cf_ne_s, cf_eq_b, cf_ne_b, cf_lt_i, cf_gt_i, cf_le_i, cf_ge_i, cf_is0, cf_isr, cf_isnot0, cf_ist, kd_dec, kd_dec2, subF, ix10, ix20, ix21, ix30, ix31, ix32, ln1, ln2, ln3, lim0, lim1, lim2, lim3, lim4, lim5, lim6, decide_true, decide_false, decide_not, Bool.not_true, Bool.not_false, Bool.true_or, Bool.or_true, Bool.false_or, Bool.or_false, not_true, not_false_eq_true, eq_self, reduceCtorEq, Bool.and_true, Bool.true_and, Bool.and_false, Bool.false_and, u1, u2, bmK, g, lv, ow, chk, Option.isSome_some, cf_isni, ba, bs, Int.reduceEq, Int.reduceLT, q2, e2, pS, z2])
    | some hi => exact fin _ (some (.int (hi + if decide (d3 = 6) then 1 else 0))) _ a3 S3 (.inr ⟨(true, hi + if decide (d3 = 6) then 1 else 0), rfl⟩) (by cases lo <;> simp only [↓rb, ↓tw0, ↓tw1, ↓evSs, ↓evS, ↓evE, ↓evEs, ↓evI, ↓evC, ↓evO, ↓evPs, ag1, ag2, ag3, ag4, chkT, ofO, List.getElem?_cons_zero, List.getElem?_cons_succ, List.set_cons_zero, List.set_cons_succ, Bool.false_eq_true, if_false, if_true, Option.bind_some, Option.map_some, tru1, subD, setD, cmpD, cmpO, binD, bltD, asS, asL, asD, asO, keyOf, truV, cf_eq_i, cf_ne_i, cf_eq_s, cf_ne_s, cf_eq_b, cf_ne_b, cf_lt_i, cf_gt_i, cf_le_i, cf_ge_i, cf_is0, cf_isr, cf_isnot0, cf_ist, kd_dec, kd_dec2, subF, ix10, ix20, ix21, ix30, ix31, ix32, ln1, ln2, ln3, lim0, lim1, lim2, lim3, lim4, lim5, lim6, decide_true, decide_false, decide_not, Bool.not_true, Bool.not_false, Bool.true_or, Bool.or_true, Bool.false_or, Bool.or_false, not_true, not_false_eq_true, eq_self, reduceCtorEq, Bool.and_true, Bool.true_and, Bool.and_false, Bool.false_and, u1, u2, u3, bmK, g, lv, ow, chk, Option.isSome_some, cf_isni, ba, bs, Int.reduceEq, Int.reduceLT, int_b, q3, e2, pS, z3])
  · exact fin _ (some (.int (f + d2 - 4))) _ a2 S2 (.inr ⟨(true, f + d2 - 4), rfl⟩) (by cases lo <;> cases hi <;> simp only [↓rb, ↓tw0, ↓tw1, ↓evSs, ↓evS, ↓evE, ↓evEs, ↓evI, ↓evC, ↓evO, ↓evPs, ag1, ag2, ag3, ag4, chkT, ofO, List.getElem?_cons_zero, List.getElem?_cons_succ, List.set_cons_zero, List.set_cons_succ, Bool.false_eq_true, if_false, if_true, Option.bind_some, Option.map_some, tru1, subD, setD, cmpD, cmpO, binD, bltD, asS, asL, asD, asO, keyOf, truV, cf_eq_i, cf_ne_i, cf_eq_s, cf_ne_s, cf_eq_b, cf_ne_b, cf_lt_i, cf_gt_i, cf_le_i, cf_ge_i, cf_is0, cf_isr, cf_isnot0, cf_ist, kd_dec, kd_dec2, subF, ix10, ix20, ix21, ix30, ix31, ix32, ln1, ln2, ln3, lim0, lim1, lim2, lim3, lim4, lim5, lim6, decide_true, decide_false, decide_not, Bool.not_true, Bool.not_false, Bool.true_or, Bool.or_true, Bool.false_or, Bool.or_false, not_true, not_false_eq_true, eq_self, reduceCtorEq, Bool.and_true, Bool.true_and, Bool.and_false, Bool.false_and, u1, u2, bmK, g, lv, ow, chk, Option.isSome_some, cf_isni, ba, bs, Int.reduceEq, Int.reduceLT, q2, e2, pS, z2])
  · exact fin _ (some (.int (f + d2 - 4))) _ a4 S4 (.inr ⟨(false, f + d2 - 4), rfl⟩) (by cases lo <;> cases hi <;> simp only [↓rb, ↓tw0, ↓tw1, ↓evSs, ↓evS, ↓evE, ↓evEs, ↓evI, ↓evC, ↓evO, ↓evPs, ag1, ag2, ag3, ag4, chkT, ofO, List.getElem?_cons_zero, List.getElem?_cons_succ, List.set_cons_zero, List.set_cons_succ, Bool.false_eq_true, if_false, if_true, Option.bind_some, Option.map_some, tru1, subD, setD, cmpD, cmpO, binD, bltD, asS, asL, asD, asO, keyOf, truV, cf_eq_i, cf_ne_i, cf_eq_s, cf_ne_s, cf_eq_b, cf_ne_b, cf_lt_i, cf_gt_i, cf_le_i, cf_ge_i, cf_is0, cf_isr, cf_isnot0, cf_ist, kd_dec, kd_dec2, subF, ix10, ix20, ix21, ix30, ix31, ix32, ln1, ln2, ln3, lim0, lim1, lim2, lim3, lim4, lim5, lim6, decide_true, decide_false, decide_not, Bool.not_true, Bool.not_false, Bool.true_or, Bool.or_true, Bool.false_or, Bool.or_false, not_true, not_false_eq_true, eq_self, reduceCtorEq, Bool.and_true, Bool.true_and, Bool.and_false, Bool.false_and, u1, u2, u4, bmK, g, lv, ow, chk, Option.isSome_some, cf_isni, ba, bs, Int.reduceEq, Int.reduceLT, Int.reduceSub, mkL, q4, e2, pA, z4])
  · exact fin _ (some (.int (f + d2 - 4))) _ a4 S4 (.inr ⟨(false, d4 - 5), rfl⟩) (by cases lo <;> cases hi <;> simp only [↓rb, ↓tw0, ↓tw1, ↓evSs, ↓evS, ↓evE, ↓evEs, ↓evI, ↓evC, ↓evO, ↓evPs, ag1, ag2, ag3, ag4, chkT, ofO, List.getElem?_cons_zero, List.getElem?_cons_succ, List.set_cons_zero, List.set_cons_succ, Bool.false_eq_true, if_false, if_true, Option.bind_some, Option.map_some, tru1, subD, setD, cmpD, cmpO, binD, bltD, asS, asL, asD, asO, keyOf, truV, cf_eq_i, cf_ne_i, cf_eq_s, cf_ne_s, cf_eq_b, cf_ne_b, cf_lt_i, cf_gt_i, cf_le_i, cf_ge_i, cf_is0, cf_isr, cf_isnot0, cf_ist, kd_dec, kd_dec2, subF, ix10, ix20, ix21, ix30, ix31, ix32, ln1, ln2, ln3, lim0, lim1, lim2, lim3, lim4, lim5, lim6, decide_true, decide_false, decide_not, Bool.not_true, Bool.not_false, Bool.true_or, Bool.or_true, Bool.false_or, Bool.or_false, not_true, not_false_eq_true, eq_self, reduceCtorEq, Bool.and_true, Bool.true_and, Bool.and_false, Bool.false_and, u1, u2, u4, bmK, g, lv, ow, chk, Option.isSome_some, cf_isni, ba, bs, Int.reduceEq, Int.reduceLT, Int.reduceSub, mkL, q4, e2, pA, z4])
theorem lparts_ok (n : Nat) {k : Nat} {f : Int} {xs : List Str} {D : List (Str × Lm)} {h : Hv} (hk : PAt h k) (hx : xs.length ≤ 60) :
    ∃ (P : List (Str × Pp)) (a : Hv), callN T (n + 2) 402 [.ref k, .fd (KG lv D), .fl (xs.map .str), .int f] h = .ok (.fd (KG pv P)) a ∧ Same k h a ∧ Kn xs P := by
  rw [c402]
  unfold b__law_parts
  have e0 : evE T (callN T (n + 1)) false (.dct false .nil) [some (.ref k), some (.fd (KG lv D)), some (.fl (xs.map .str)), some (.int f), none, none, none, none, none, none] h = .ok (.ref h.length) (h ++ [.dct (KG pv [])]) := by simp only [↓rb, ↓tw0, ↓tw1, ↓evSs, ↓evS, ↓evE, ↓evEs, ↓evI, ↓evC, ↓evO, ↓evPs, ag1, ag2, ag3, ag4, chkT, ofO, List.getElem?_cons_zero, List.getElem?_cons_succ, List.set_cons_zero, List.set_cons_succ, Bool.false_eq_true, if_false, if_true, Option.bind_some, Option.map_some, tru1, subD, setD, cmpD, cmpO, binD, bltD, asS, asL, asD, asO, keyOf, truV, cf_eq_i, cf_ne_i, cf_eq_s, cf_ne_s, cf_eq_b, cf_ne_b, cf_lt_i, cf_gt_i, cf_le_i, cf_ge_i, cf_is0, cf_isr, cf_isnot0, cf_ist, kd_dec, kd_dec2, subF, ix10, ix20, ix21, ix30, ix31, ix32, ln1, ln2, ln3, lim0, lim1, lim2, lim3, lim4, lim5, lim6, decide_true, decide_false, decide_not, Bool.not_true, Bool.not_false, Bool.true_or, Bool.or_true, Bool.false_or, Bool.or_false, not_true, not_false_eq_true, eq_self, reduceCtorEq, Bool.and_true, Bool.true_and, Bool.and_false, Bool.false_and, chk, mkD, mergeD, List.foldl_nil]; rfl
  have it : evI T (callN T (n + 1)) (.val (.var 2)) [some (.ref k), some (.fd (KG lv D)), some (.fl (xs.map .str)), some (.int f), some (.ref h.length), none, none, none, none, none] (h ++ [.dct (KG pv [])]) = .ok (.free (xs.map .str)) (h ++ [.dct (KG pv [])]) := by
    simp only [↓rb, ↓tw0, ↓tw1, ↓evSs, ↓evS, ↓evE, ↓evEs, ↓evI, ↓evC, ↓evO, ↓evPs, ag1, ag2, ag3, ag4, chkT, ofO, List.getElem?_cons_zero, List.getElem?_cons_succ, List.set_cons_zero, List.set_cons_succ, Bool.false_eq_true, if_false, if_true, Option.bind_some, Option.map_some, tru1, subD, setD, cmpD, cmpO, binD, bltD, asS, asL, asD, asO, keyOf, truV, cf_eq_i, cf_ne_i, cf_eq_s, cf_ne_s, cf_eq_b, cf_ne_b, cf_lt_i, cf_gt_i, cf_le_i, cf_ge_i, cf_is0, cf_isr, cf_isnot0, cf_ist, kd_dec, kd_dec2, subF, ix10, ix20, ix21, ix30, ix31, ix32, ln1, ln2, ln3, lim0, lim1, lim2, lim3, lim4, lim5, lim6, decide_true, decide_false, decide_not, Bool.not_true, Bool.not_false, Bool.true_or, Bool.or_true, Bool.false_or, Bool.or_false, not_true, not_false_eq_true, eq_self, reduceCtorEq, Bool.and_true, Bool.true_and, Bool.and_false, Bool.false_and, itD]
  obtain ⟨s', h', e1, x5, x6, x7, x8, x9, X, A, a, rfl, rfl, sm, kn, hl, er⟩ := forR_run (src := .free) (t := .var 5) (body := evSs T (callN T (n + 1)) ptb)
    (fun r s h4 => ∃ (x5 x6 x7 x8 x9 : Option Vl) (X : List Str) (A : List (Str × Pp)) (a : Hv), s = [some (.ref k), some (.fd (KG lv D)), some (.fl (xs.map .str)), some (.int f), some (.ref h.length), x5, x6, x7, x8, x9] ∧ h4 = a ++ [.dct (KG pv A)] ∧ Same k h a ∧ Kn xs A ∧ (∀ x ∈ X, x ∈ xs) ∧ r = X.map .str)
    (fun _ _ _ _ => trivial) (fun v r s h4 ⟨x5, x6, x7, x8, x9, X, A, a, es, eh, sm, kn, hX, er⟩ => by
      subst es eh
      cases X with
      | nil => cases er
      | cons x X =>
        obtain ⟨rfl, rfl⟩ := List.cons.inj er
        have ln := kn.len
        obtain ⟨y6, y7, y8, y9, A', a', e, S, c⟩ := parts_step n (f := f) (D := D) (ns := .fl (xs.map .str)) (x := x) (A := A) (x6 := x6) (x7 := x7) (x8 := x8) (x9 := x9) (sm.at hk) sm.len.symm (by omega)
        refine ⟨_, _, _, rfl, .inl e, _, y6, y7, y8, y9, X, A', a', rfl, rfl, sm.trans S, ?_, fun z hz => hX z (List.mem_cons_of_mem _ hz), rfl⟩
        rcases c with rfl | ⟨p, rfl⟩
        · exact kn
        · exact kn.pt (hX x List.mem_cons_self) p) (xs.map .str) [some (.ref k), some (.fd (KG lv D)), some (.fl (xs.map .str)), some (.int f), some (.ref h.length), none, none, none, none, none] (h ++ [.dct (KG pv [])]) ⟨_, _, _, _, _, xs, [], h, rfl, rfl, Same.refl hk, kn_nil, fun _ z => z, rfl⟩
  refine ⟨A, a, (congrArg (fun r => finR 2 h (retOf r)) ((st_set e0).trans ((st_for it ((unlock_free rfl).trans e1)).trans (st_ret (ev_var rfl))))).trans ?_, sm, kn⟩
  obtain ⟨q, rfl⟩ := sm
  exact fin2_dS ((fr_set (by simp)).trans (fr_app _ _ _)) (get_app (by simp [hk.lt])) hk.lt (get_last' (by simp)) (Nat.le_refl _) (pu_KG pu_pv _)
theorem ll_du {D : List (Str × Lm)} (n : (ksG D).Nodup) (l : D.length < 25) : (duL D).length < 60 := by
  have := len_lstG (ndG_filter n la)
  unfold duL
  rw [this]
  exact Nat.lt_of_le_of_lt (List.length_filter_le _ _) (by omega)
theorem right_ok (n : Nat) {A B : List (Str × Lm)} {P L : List (Str × Pp)} (h : Hv) (nA : (ksG A).Nodup) (nB : (ksG B).Nodup) (nL : (ksG L).Nodup) (vB : VD B) (lA : A.length < 20) (lB : B.length < 20) (lL : L.length < 20) (lP : ∀ D, backG P [] A = some D → D.length < 25) (hb : ∀ x, be1 (gt B x) (lkG L x) = be1 (gt A x) (lkG P x)) :
    callN T (n + 4) 406 [ptv B, chv L, bkV (backG P [] A)] h = .ok (.bl true) h := by
  rw [c406]
  refine Eq.trans (congrArg (finR 2 h) ?_) (fin2_0 (show pu (.bl true) from rfl))
  unfold b__law_right
  have to := told_ok n h nB (by omega) (by omega : L.length < 25)
  rcases back_both nA nB nL vB hb with ⟨e1, e2, _⟩ | ⟨D, D', e1, e2, du, n1, n2, v2, _, _⟩
  · have ki := kind_ok n h nB (by omega) (by omega : L.length < 25) e1
    rw [e2]
    rw [e1] at to
    simp only [↓rb, ↓tw0, ↓tw1, ↓evSs, ↓evS, ↓evE, ↓evEs, ↓evI, ↓evC, ↓evO, ↓evPs, ag1, ag2, ag3, ag4, chkT, ofO, List.getElem?_cons_zero, List.getElem?_cons_succ, List.set_cons_zero, List.set_cons_succ, Bool.false_eq_true, if_false, if_true, Option.bind_some, Option.map_some, tru1, subD, setD, cmpD, cmpO, binD, bltD, asS, asL, asD, asO, keyOf, truV, cf_eq_i, cf_ne_i, cf_eq_s, cf_ne_s, cf_eq_b, cf_ne_b, cf_lt_i, cf_gt_i, cf_le_i, cf_ge_i, cf_is0, cf_isr, cf_isnot0, cf_ist, kd_dec, kd_dec2, subF, ix10, ix20, ix21, ix30, ix31, ix32, ln1, ln2, ln3, lim0, lim1, lim2, lim3, lim4, lim5, lim6, decide_true, decide_false, decide_not, Bool.not_true, Bool.not_false, Bool.true_or, Bool.or_true, Bool.false_or, Bool.or_false, not_true, not_false_eq_true, eq_self, reduceCtorEq, Bool.and_true, Bool.true_and, Bool.and_false, Bool.false_and, to, toldV, bkV, ki, retOf]
  · have lD := lP D' e2
    rw [e2]
    rw [e1] at to
    have z1 : evE T (callN T (n + 3)) false (.call 404 (.cons (.var 0) (.cons (.var 1) .nil))) [some (ptv B), some (chv L), some (bkV (some D')), none] h = .ok (ptv (D.filter fun q => la q.2)) h := (ev_call2 (ev_var (x := 0) rfl) (ev_var (x := 1) rfl)).trans to
    have isf : ∀ h, cmpF .is_ (.fd (KG lv D')) .non h = some false := fun _ => rfl
    have c2 : evE T (callN T (n + 3)) true (.cmp .is_ (.var 2) .non) [some (ptv B), some (chv L), some (bkV (some D')), some (ptv (D.filter fun q => la q.2))] h = .ok (.bl false) h := by simp only [↓rb, ↓tw0, ↓tw1, ↓evSs, ↓evS, ↓evE, ↓evEs, ↓evI, ↓evC, ↓evO, ↓evPs, ag1, ag2, ag3, ag4, chkT, ofO, List.getElem?_cons_zero, List.getElem?_cons_succ, List.set_cons_zero, List.set_cons_succ, Bool.false_eq_true, if_false, if_true, Option.bind_some, Option.map_some, tru1, subD, setD, cmpD, cmpO, binD, bltD, asS, asL, asD, asO, keyOf, truV, cf_eq_i, cf_ne_i, cf_eq_s, cf_ne_s, cf_eq_b, cf_ne_b, cf_lt_i, cf_gt_i, cf_le_i, cf_ge_i, cf_is0, cf_isr, cf_isnot0, cf_ist, kd_dec, kd_dec2, subF, ix10, ix20, ix21, ix30, ix31, ix32, ln1, ln2, ln3, lim0, lim1, lim2, lim3, lim4, lim5, lim6, decide_true, decide_false, decide_not, Bool.not_true, Bool.not_false, Bool.true_or, Bool.or_true, Bool.false_or, Bool.or_false, not_true, not_false_eq_true, eq_self, reduceCtorEq, Bool.and_true, Bool.true_and, Bool.and_false, Bool.false_and, bkV, isf]
    have mk := mkP_fd T (n + 2) (s := [some (ptv B), some (chv L), some (bkV (some D')), some (ptv (D.filter fun q => la q.2))]) (h := h) (e := .blt .dict true (.cons (.var 2) .nil)) (D := D') (by simp only [↓rb, ↓tw0, ↓tw1, ↓evSs, ↓evS, ↓evE, ↓evEs, ↓evI, ↓evC, ↓evO, ↓evPs, ag1, ag2, ag3, ag4, chkT, ofO, List.getElem?_cons_zero, List.getElem?_cons_succ, List.set_cons_zero, List.set_cons_succ, Bool.false_eq_true, if_false, if_true, Option.bind_some, Option.map_some, tru1, subD, setD, cmpD, cmpO, binD, bltD, asS, asL, asD, asO, keyOf, truV, cf_eq_i, cf_ne_i, cf_eq_s, cf_ne_s, cf_eq_b, cf_ne_b, cf_lt_i, cf_gt_i, cf_le_i, cf_ge_i, cf_is0, cf_isr, cf_isnot0, cf_ist, kd_dec, kd_dec2, subF, ix10, ix20, ix21, ix30, ix31, ix32, ln1, ln2, ln3, lim0, lim1, lim2, lim3, lim4, lim5, lim6, decide_true, decide_false, decide_not, Bool.not_true, Bool.not_false, Bool.true_or, Bool.or_true, Bool.false_or, Bool.or_false, not_true, not_false_eq_true, eq_self, reduceCtorEq, Bool.and_true, Bool.true_and, Bool.and_false, Bool.false_and, bkV, bltF, mkD]) n2 (by omega)
    have pe := ev_peq T (n + 2) (s := [some (ptv B), some (chv L), some (bkV (some D')), some (ptv (D.filter fun q => la q.2))]) (h := h) (e := .var 3) (ev_var rfl) mk true
    rw [decide_eq_true (show lstG (D.filter fun q => la q.2) = lstG (D'.filter fun q => la q.2) from du)] at pe
    have i1 : evE T (callN T (n + 3)) true (.not_ (.isin (.var 3) (.cls 2))) [some (ptv B), some (chv L), some (bkV (some D')), some (ptv (D.filter fun q => la q.2))] h = .ok (.bl false) h := by simp only [↓rb, ↓tw0, ↓tw1, ↓evSs, ↓evS, ↓evE, ↓evEs, ↓evI, ↓evC, ↓evO, ↓evPs, ag1, ag2, ag3, ag4, chkT, ofO, List.getElem?_cons_zero, List.getElem?_cons_succ, List.set_cons_zero, List.set_cons_succ, Bool.false_eq_true, if_false, if_true, Option.bind_some, Option.map_some, tru1, subD, setD, cmpD, cmpO, binD, bltD, asS, asL, asD, asO, keyOf, truV, cf_eq_i, cf_ne_i, cf_eq_s, cf_ne_s, cf_eq_b, cf_ne_b, cf_lt_i, cf_gt_i, cf_le_i, cf_ge_i, cf_is0, cf_isr, cf_isnot0, cf_ist, kd_dec, kd_dec2, subF, ix10, ix20, ix21, ix30, ix31, ix32, ln1, ln2, ln3, lim0, lim1, lim2, lim3, lim4, lim5, lim6, decide_true, decide_false, decide_not, Bool.not_true, Bool.not_false, Bool.true_or, Bool.or_true, Bool.false_or, Bool.or_false, not_true, not_false_eq_true, eq_self, reduceCtorEq, Bool.and_true, Bool.true_and, Bool.and_false, Bool.false_and, ptv, tyF, tyC2 T]
    have c3 := or_ff i1 (not_t pe)
    have kD : Kn (ksG B ++ ksG L) D := kn_beG (A := B) ⟨nB, fun x hx => List.mem_append.mpr (.inl hx)⟩ (fun x hx => List.mem_append.mpr (.inr hx)) e1
    have lD1 := kD.len
    have li := ev_lims T (n + 2) (s := [some (ptv B), some (chv L), some (bkV (some D')), some (ptv (D.filter fun q => la q.2))]) (h := h) (e := .var 3) (ev_var rfl) (Nat.lt_of_le_of_lt (List.length_filter_le _ _) (by simp [ksG] at lD1; omega)) (ndG_filter n1 la)
    rw [show lstG (D.filter fun q => la q.2) = duL D' from du] at li
    have ls := listed_ok T (n + 2) (h := h) n2 (by omega)
    have sa := same_ok T n (h := h) (L := duL D') (ll_du n2 lD)
    have last := (ev_call2 (g := 308) li ((ev_call1 (ev_var (x := 2) rfl)).trans ls)).trans sa
    rw [show (true : Bool) = true from rfl] at c3
    refine (congrArg retOf ((st_set z1).trans ((st_if0 c2).trans ((st_if0 c3).trans (st_ret last))))).trans rfl
end K01
end

section
set_option Elab.async false
set_option linter.all false
set_option maxRecDepth 100000
set_option maxHeartbeats 4000000
set_option autoImplicit false
namespace K01
open PySem L2 Core
abbrev snO : CSs := (.cons (.set (.var 7) (.dct false .nil)) (.cons (.for_ (.var 8) (.val (.var 3)) (.cons (.set (.tup (.cons (.var 9) (.cons (.var 10) .nil))) (.bm .get true (.or_ (.var 2) (.dct true .nil)) (.cons (.var 8) (.cons (.tup (.cons .non (.cons .non .nil))) .nil)))) (.cons (.setI (.var 7) (.var 8) (.or_ (.sub (.lst true (.cons (.var 9) (.cons (.var 10) .nil))) (.bin .mod true (.var 6) (.int 2))) (.int 0))) .nil))) (.cons (.setI (.var 7) (.sub (.var 3) (.var 5)) (.bin .add true (.sub (.var 7) (.sub (.var 3) (.var 5))) (.sub (.lst true (.cons (.int 0) (.cons (.int 1) (.cons (.neg (.int 1)) (.cons (.int 2) .nil))))) (.var 6)))) (.cons (.set (.var 11) (.cmp .in_ (.ocall (.var 1) (.cons (.frz (.mk 0 (.cons (.blt .dict true (.cons (.var 7) .nil)) .nil))) .nil)) (.var 0))) (.cons (.ife (.or_ (.and_ (.cmp .is_ (.var 2) .non) (.var 11)) (.and_ (.cmp .isnot (.var 2) .non) (.cmp .ne (.cmp .in_ (.frz (.mk 0 (.cons (.blt .dict true (.cons (.var 7) .nil)) .nil))) (.meth (.var 0) 4 (.cons (.var 1) .nil))) (.var 11)))) (.cons (.ret (.bl false)) .nil) .nil) .nil)))))
abbrev snI : CSs := (.cons (.set (.tup (.cons (.var 9) (.cons (.var 10) .nil))) (.bm .get true (.or_ (.var 2) (.dct true .nil)) (.cons (.var 8) (.cons (.tup (.cons .non (.cons .non .nil))) .nil)))) (.cons (.setI (.var 7) (.var 8) (.or_ (.sub (.lst true (.cons (.var 9) (.cons (.var 10) .nil))) (.bin .mod true (.var 6) (.int 2))) (.int 0))) .nil))
abbrev snR : CSs := (.cons (.setI (.var 7) (.sub (.var 3) (.var 5)) (.bin .add true (.sub (.var 7) (.sub (.var 3) (.var 5))) (.sub (.lst true (.cons (.int 0) (.cons (.int 1) (.cons (.neg (.int 1)) (.cons (.int 2) .nil))))) (.var 6)))) (.cons (.set (.var 11) (.cmp .in_ (.ocall (.var 1) (.cons (.frz (.mk 0 (.cons (.blt .dict true (.cons (.var 7) .nil)) .nil))) .nil)) (.var 0))) (.cons (.ife (.or_ (.and_ (.cmp .is_ (.var 2) .non) (.var 11)) (.and_ (.cmp .isnot (.var 2) .non) (.cmp .ne (.cmp .in_ (.frz (.mk 0 (.cons (.blt .dict true (.cons (.var 7) .nil)) .nil))) (.meth (.var 0) 4 (.cons (.var 1) .nil))) (.var 11)))) (.cons (.ret (.bl false)) .nil) .nil) .nil)))
def wv : Option (List (Str × Lm)) → List (Str × Lm)
  | none => []
  | some D => D
theorem ev_due {n : Nat} {s : Lo} {h : Hv} {o : Option (List (Str × Lm))} (hs : s[2]? = some (some (bkV o))) : evE T (callN T n) false (.or_ (.var 2) (.dct true .nil)) s h = .ok (.fd (KG lv (wv o))) h := by
  have e0 : evE T (callN T n) false (.dct true .nil) s h = .ok (.fd []) h := by simp [evE, evPs, tw, Res.bind, chk, mkD, mergeD]
  rw [evE, ev_var hs]
  cases o with
  | none => simp only [rb, bkV, truV, selR, e0]; rfl
  | some D =>
    cases D with
    | nil => simp only [rb, bkV, truV, selR, e0]; rfl
    | cons q D => simp only [rb, bkV, truV, selR, wv, KG]; rfl
theorem or_int {cl : Cl} {s : Lo} {h : Hv} {e : CE} {c : Option Int} (he : evE T cl false e s h = .ok (ow c) h) : evE T cl false (.or_ e (.int 0)) s h = .ok (.int (c.getD 0)) h := by
  have e0 : evE T cl false (.int 0) s h = .ok (.int 0) h := ev_int
  rw [evE, he]
  cases c with
  | none => simp only [rb, ow, truV, selR, e0]; rfl
  | some i =>
    by_cases hi : i = 0
    · subst hi; simp only [rb, ow, truV, selR, e0]; rfl
    · have : (i != 0) = true := by simp [hi]
      simp only [rb, ow, truV, selR, this]; rfl
theorem in_step (n : Nat) {h : Hv} {B : List (Str × Lm)} {L : List (Str × Pp)} {o : Option (List (Str × Lm))} {ns : List Str} {V : List (Str × Int)} {x : Str} {w : Int} {x4 x5 x9 x10 x11 : Option Vl} (hw : 0 ≤ w ∧ w < 4) (hl : V.length < 100) :
    ∃ y9 y10 i, evSs T (callN T n) snI [some (ptv B), some (chv L), some (bkV o), some (.fl (ns.map .str)), x4, x5, some (.int w), some (.ref h.length), some (.str x), x9, x10, x11] (h ++ [.dct (KG .int V)]) = .ok (.nx [some (ptv B), some (chv L), some (bkV o), some (.fl (ns.map .str)), x4, x5, some (.int w), some (.ref h.length), some (.str x), y9, y10, x11]) (h ++ [.dct (KG .int (ptG V x i))]) := by
  have ed := ev_due (n := n) (s := [some (ptv B), some (chv L), some (bkV o), some (.fl (ns.map .str)), x4, x5, some (.int w), some (.ref h.length), some (.str x), x9, x10, x11]) (h := h ++ [.dct (KG .int V)]) (o := o) rfl
  have g := get_fd (h := h ++ [.dct (KG .int V)]) (A := wv o) (x := x) (fz := true)
  generalize gt (wv o) x = l at g
  have hm : (h ++ [Cell.dct (KG Vl.int V)])[h.length]? = some (.dct (KG .int V)) := get_last
  have e2 : (KG Vl.int V).length < LIM := by simp [KG, LIM]; omega
  obtain ⟨lo, hi⟩ := l
  have e9 : evE T (callN T n) false (.bm .get true (.or_ (.var 2) (.dct true .nil)) (.cons (.var 8) (.cons (.tup (.cons .non (.cons .non .nil))) .nil))) [some (ptv B), some (chv L), some (bkV o), some (.fl (ns.map .str)), x4, x5, some (.int w), some (.ref h.length), some (.str x), x9, x10, x11] (h ++ [.dct (KG .int V)]) = .ok (.tup [ow lo, ow hi]) (h ++ [.dct (KG .int V)]) := by
    rw [evE, ed]
    simp only [↓rb, ↓tw0, ↓tw1, ↓evSs, ↓evS, ↓evE, ↓evEs, ↓evI, ↓evC, ↓evO, ↓evPs, ag1, ag2, ag3, ag4, chkT, ofO, List.getElem?_cons_zero, List.getElem?_cons_succ, List.set_cons_zero, List.set_cons_succ, Bool.false_eq_true, if_false, if_true, Option.bind_some, Option.map_some, tru1, subD, setD, cmpD, cmpO, binD, bltD, asS, asL, asD, asO, keyOf, truV, cf_eq_i, cf_ne_i, cf_eq_s, cf_ne_s, cf_eq_b, cf_ne_b, cf_lt_i, cf_gt_i, cf_le_i, cf_ge_i, cf_is0, cf_isr, cf_isnot0, cf_ist, kd_dec, kd_dec2, subF, ix10, ix20, ix21, ix30, ix31, ix32, ln1, ln2, ln3, lim0, lim1, lim2, lim3, lim4, lim5, lim6, decide_true, decide_false, decide_not, Bool.not_true, Bool.not_false, Bool.true_or, Bool.or_true, Bool.false_or, Bool.or_false, not_true, not_false_eq_true, eq_self, reduceCtorEq, Bool.and_true, Bool.true_and, Bool.and_false, Bool.false_and, bmK, Option.isSome_some, chk, g, lv]
  have md : w % 2 = 0 ∨ w % 2 = 1 := by omega
  have em : evE T (callN T n) false (.bin .mod true (.var 6) (.int 2)) [some (ptv B), some (chv L), some (bkV o), some (.fl (ns.map .str)), x4, x5, some (.int w), some (.ref h.length), some (.str x), some (ow lo), some (ow hi), x11] (h ++ [.dct (KG .int V)]) = .ok (.int (w % 2)) (h ++ [.dct (KG .int V)]) := (ev_bin (ev_var (x := 6) rfl) ev_int).trans (by simp only [binF, chk]; rw [if_pos (by decide)])
  obtain ⟨c, ec⟩ : ∃ c : Option Int, evE T (callN T n) false (.sub (.lst true (.cons (.var 9) (.cons (.var 10) .nil))) (.bin .mod true (.var 6) (.int 2))) [some (ptv B), some (chv L), some (bkV o), some (.fl (ns.map .str)), x4, x5, some (.int w), some (.ref h.length), some (.str x), some (ow lo), some (ow hi), x11] (h ++ [.dct (KG .int V)]) = .ok (ow c) (h ++ [.dct (KG .int V)]) := by
    rcases md with e | e
    · rw [e] at em
      exact ⟨lo, by simp only [↓em, ↓rb, ↓tw0, ↓tw1, ↓evSs, ↓evS, ↓evE, ↓evEs, ↓evI, ↓evC, ↓evO, ↓evPs, ag1, ag2, ag3, ag4, chkT, ofO, List.getElem?_cons_zero, List.getElem?_cons_succ, List.set_cons_zero, List.set_cons_succ, Bool.false_eq_true, if_false, if_true, Option.bind_some, Option.map_some, tru1, subD, setD, cmpD, cmpO, binD, bltD, asS, asL, asD, asO, keyOf, truV, cf_eq_i, cf_ne_i, cf_eq_s, cf_ne_s, cf_eq_b, cf_ne_b, cf_lt_i, cf_gt_i, cf_le_i, cf_ge_i, cf_is0, cf_isr, cf_isnot0, cf_ist, kd_dec, kd_dec2, subF, ix10, ix20, ix21, ix30, ix31, ix32, ln1, ln2, ln3, lim0, lim1, lim2, lim3, lim4, lim5, lim6, decide_true, decide_false, decide_not, Bool.not_true, Bool.not_false, Bool.true_or, Bool.or_true, Bool.false_or, Bool.or_false, not_true, not_false_eq_true, eq_self, reduceCtorEq, Bool.and_true, Bool.true_and, Bool.and_false, Bool.false_and, mkL, chk]⟩
    · rw [e] at em
      exact ⟨hi, by simp only [↓em, ↓rb, ↓tw0, ↓tw1, ↓evSs, ↓evS, ↓evE, ↓evEs, ↓evI, ↓evC, ↓evO, ↓evPs, ag1, ag2, ag3, ag4, chkT, ofO, List.getElem?_cons_zero, List.getElem?_cons_succ, List.set_cons_zero, List.set_cons_succ, Bool.false_eq_true, if_false, if_true, Option.bind_some, Option.map_some, tru1, subD, setD, cmpD, cmpO, binD, bltD, asS, asL, asD, asO, keyOf, truV, cf_eq_i, cf_ne_i, cf_eq_s, cf_ne_s, cf_eq_b, cf_ne_b, cf_lt_i, cf_gt_i, cf_le_i, cf_ge_i, cf_is0, cf_isr, cf_isnot0, cf_ist, kd_dec, kd_dec2, subF, ix10, ix20, ix21, ix30, ix31, ix32, ln1, ln2, ln3, lim0, lim1, lim2, lim3, lim4, lim5, lim6, decide_true, decide_false, decide_not, Bool.not_true, Bool.not_false, Bool.true_or, Bool.or_true, Bool.false_or, Bool.or_false, not_true, not_false_eq_true, eq_self, reduceCtorEq, Bool.and_true, Bool.true_and, Bool.and_false, Bool.false_and, mkL, chk]⟩
  have eo := or_int ec
  have ps : put (KG Vl.int V) (.inr x) (.int (c.getD 0)) = KG .int (ptG V x (c.getD 0)) := put_KG Vl.int V x (c.getD 0)
  refine ⟨some (ow lo), some (ow hi), c.getD 0, ?_⟩
  simp only [↓e9, ↓eo, ↓rb, ↓tw0, ↓tw1, ↓evSs, ↓evS, ↓evE, ↓evEs, ↓evI, ↓evC, ↓evO, ↓evPs, ag1, ag2, ag3, ag4, chkT, ofO, List.getElem?_cons_zero, List.getElem?_cons_succ, List.set_cons_zero, List.set_cons_succ, Bool.false_eq_true, if_false, if_true, Option.bind_some, Option.map_some, tru1, subD, setD, cmpD, cmpO, binD, bltD, asS, asL, asD, asO, keyOf, truV, cf_eq_i, cf_ne_i, cf_eq_s, cf_ne_s, cf_eq_b, cf_ne_b, cf_lt_i, cf_gt_i, cf_le_i, cf_ge_i, cf_is0, cf_isr, cf_isnot0, cf_ist, kd_dec, kd_dec2, subF, ix10, ix20, ix21, ix30, ix31, ix32, ln1, ln2, ln3, lim0, lim1, lim2, lim3, lim4, lim5, lim6, decide_true, decide_false, decide_not, Bool.not_true, Bool.not_false, Bool.true_or, Bool.or_true, Bool.false_or, Bool.or_false, not_true, not_false_eq_true, eq_self, reduceCtorEq, Bool.and_true, Bool.true_and, Bool.and_false, Bool.false_and, hm, chk, e2, ps, set_last]
theorem ix4i {w : Int} (hw : 0 ≤ w ∧ w < 4) : ∃ c : Int, (L2.ixN [Vl.int 0, .int 1, .int (-1), .int 2].length w).bind (fun k => [Vl.int 0, .int 1, .int (-1), .int 2][k]?) = some (.int c) := by
  have : w = 0 ∨ w = 1 ∨ w = 2 ∨ w = 3 := by omega
  rcases this with rfl | rfl | rfl | rfl
  · exact ⟨0, rfl⟩
  · exact ⟨1, rfl⟩
  · exact ⟨-1, rfl⟩
  · exact ⟨2, rfl⟩
/-- the notes made, looked at -/
theorem rest_ok {h : Hv} {A B : List (Str × Lm)} {P L : List (Str × Pp)} {ns : List Str} {V : List (Str × Int)} {a' w : Int} {x4 x8 x9 x10 x11 : Option Vl} (n6 : ns.length = 6) (gd : ∀ x ∈ ns, Gd x) (kV : Kn ns V) (hv : ∀ x ∈ ns, x ∈ ksG V) (ha : 0 ≤ a' ∧ a' < 6) (hw : 0 ≤ w ∧ w < 4)
    (nA : (ksG A).Nodup) (nB : (ksG B).Nodup) (nL : (ksG L).Nodup) (vB : VD B) (lB : B.length < 20) (lL : L.length < 20) (gL : ∀ x ∈ ksG L, Gd x) (hb : ∀ x, be1 (gt B x) (lkG L x) = be1 (gt A x) (lkG P x)) :
    ∃ y11 h', evSs T (callN T 6) snR [some (ptv B), some (chv L), some (bkV (backG P [] A)), some (.fl (ns.map .str)), x4, some (.int a'), some (.int w), some (.ref h.length), x8, x9, x10, x11] (h ++ [.dct (KG .int V)]) = .ok (.nx [some (ptv B), some (chv L), some (bkV (backG P [] A)), some (.fl (ns.map .str)), x4, some (.int a'), some (.int w), some (.ref h.length), x8, x9, x10, y11]) h' ∧ Fr [] h h' := by
  obtain ⟨x, hx, ex⟩ := ixS (ns := ns) ha.1 (by omega)
  obtain ⟨c, ec⟩ := ix4i hw
  obtain ⟨v, hv'⟩ := mem_ksG.mp (hv x hx)
  have hm : (h ++ [Cell.dct (KG Vl.int V)])[h.length]? = some (.dct (KG .int V)) := get_last
  have lV := kV.len
  have e2 : (KG Vl.int V).length < LIM := by simp [KG, LIM]; omega
  have el : look (KG Vl.int V) (.inr x) = some (.int v) := by rw [look_KG, hv']; rfl
  have ps : put (KG Vl.int V) (.inr x) (.int (v + c)) = KG .int (ptG V x (v + c)) := put_KG Vl.int V x (v + c)
  have ba : ∀ (i j : Int) (h : Hv), binF .add true (.int i) (.int j) h = .ok (.int (i + j)) h := fun _ _ _ => rfl
  have kW : Kn ns (ptG V x (v + c)) := kV.pt hx _
  have lW := kW.len
  have st1 : ∀ r, evSs T (callN T 6) (.cons (.setI (.var 7) (.sub (.var 3) (.var 5)) (.bin .add true (.sub (.var 7) (.sub (.var 3) (.var 5))) (.sub (.lst true (.cons (.int 0) (.cons (.int 1) (.cons (.neg (.int 1)) (.cons (.int 2) .nil))))) (.var 6)))) r) [some (ptv B), some (chv L), some (bkV (backG P [] A)), some (.fl (ns.map .str)), x4, some (.int a'), some (.int w), some (.ref h.length), x8, x9, x10, x11] (h ++ [.dct (KG .int V)]) = evSs T (callN T 6) r [some (ptv B), some (chv L), some (bkV (backG P [] A)), some (.fl (ns.map .str)), x4, some (.int a'), some (.int w), some (.ref h.length), x8, x9, x10, x11] (h ++ [.dct (KG .int (ptG V x (v + c)))]) := fun r => by
    rw [evSs]
    simp only [↓rb, ↓tw0, ↓tw1, ↓evSs, ↓evS, ↓evE, ↓evEs, ↓evI, ↓evC, ↓evO, ↓evPs, ag1, ag2, ag3, ag4, chkT, ofO, List.getElem?_cons_zero, List.getElem?_cons_succ, List.set_cons_zero, List.set_cons_succ, Bool.false_eq_true, if_false, if_true, Option.bind_some, Option.map_some, tru1, subD, setD, cmpD, cmpO, binD, bltD, asS, asL, asD, asO, keyOf, truV, cf_eq_i, cf_ne_i, cf_eq_s, cf_ne_s, cf_eq_b, cf_ne_b, cf_lt_i, cf_gt_i, cf_le_i, cf_ge_i, cf_is0, cf_isr, cf_isnot0, cf_ist, kd_dec, kd_dec2, subF, ix10, ix20, ix21, ix30, ix31, ix32, ln1, ln2, ln3, lim0, lim1, lim2, lim3, lim4, lim5, lim6, decide_true, decide_false, decide_not, Bool.not_true, Bool.not_false, Bool.true_or, Bool.or_true, Bool.false_or, Bool.or_false, not_true, not_false_eq_true, eq_self, reduceCtorEq, Bool.and_true, Bool.true_and, Bool.and_false, Bool.false_and, hm, ex, el, mkL, chk, ec, ba, e2, ps, set_last]
  generalize ptG V x (v + c) = W at st1 kW lW
  have hmW : (h ++ [Cell.dct (KG Vl.int W)])[h.length]? = some (.dct (KG .int W)) := get_last
  have F : Fr [] h (h ++ [Cell.dct (KG Vl.int W)]) := fr_app _ _ _
  generalize h ++ [Cell.dct (KG Vl.int W)] = g at st1 hmW F
  have gW : ∀ x ∈ ksG W, Gd x := fun x hx => gd x (kW.2 x hx)
  have nZ : (ksG (zer W)).Nodup := ndG_filter kW.1 nzB
  have gZ : ∀ x ∈ ksG (zer W), Gd x := fun x hx => gW x ((ksG_filter W nzB).subset hx)
  have lZ : (zer W).length < 25 := Nat.lt_of_le_of_lt (List.length_filter_le _ _) (by omega)
  have mkn : ∀ s : Lo, s[7]? = some (some (.ref h.length)) → evE T (callN T 6) false (.frz (.mk 0 (.cons (.blt .dict true (.cons (.var 7) .nil)) .nil))) s g = .ok (ntv (zer W)) g := fun s hs => mkN_fd T 3 (by simp only [↓rb, ↓tw0, ↓tw1, ↓evSs, ↓evS, ↓evE, ↓evEs, ↓evI, ↓evC, ↓evO, ↓evPs, ag1, ag2, ag3, ag4, chkT, ofO, List.getElem?_cons_zero, List.getElem?_cons_succ, List.set_cons_zero, List.set_cons_succ, Bool.false_eq_true, if_false, if_true, Option.bind_some, Option.map_some, tru1, subD, setD, cmpD, cmpO, binD, bltD, asS, asL, asD, asO, keyOf, truV, cf_eq_i, cf_ne_i, cf_eq_s, cf_ne_s, cf_eq_b, cf_ne_b, cf_lt_i, cf_gt_i, cf_le_i, cf_ge_i, cf_is0, cf_isr, cf_isnot0, cf_ist, kd_dec, kd_dec2, subF, ix10, ix20, ix21, ix30, ix31, ix32, ln1, ln2, ln3, lim0, lim1, lim2, lim3, lim4, lim5, lim6, decide_true, decide_false, decide_not, Bool.not_true, Bool.not_false, Bool.true_or, Bool.or_true, Bool.false_or, Bool.or_false, not_true, not_false_eq_true, eq_self, reduceCtorEq, Bool.and_true, Bool.true_and, Bool.and_false, Bool.false_and, hs, bltF, hmW, mkD]) kW.1 gW (by omega)
  have oc := fun (s : Lo) (h1 : s[1]? = some (some (chv L))) (h7 : s[7]? = some (some (.ref h.length))) => ev_ocall T 2 (s := s) (h := g) (e := .var 1) (ev_var h1) (mkn s h7) nZ gZ gL lZ (by omega)
  have t1 := ev_in T 4 (oc [some (ptv B), some (chv L), some (bkV (backG P [] A)), some (.fl (ns.map .str)), x4, some (.int a'), some (.int w), some (.ref h.length), x8, x9, x10, x11] rfl rfl) (ev_var (x := 0) (v := ptv B) rfl) false
  have fxs : ∀ x m, be1 (gt B x) (lkG L x) = some m → wi (gi (zer (chD (zer W) L)) x) (gt B x) = wi (gi (zer W) x) m := fun x m e => by
    rw [gi_zer (nd_chD nZ), gi_chD nL]
    generalize lkG L x = o at e
    cases o with
    | none => exact wi_be1 e _
    | some p => exact wi_be1 e _
  have fxn : ∀ x, be1 (gt B x) (lkG L x) = none → wi (gi (zer (chD (zer W) L)) x) (gt B x) = false := fun x e => by
    rw [gi_zer (nd_chD nZ), gi_chD nL]
    generalize lkG L x = o at e
    cases o with
    | none => exact wi_be1n e _
    | some p => exact wi_be1n e _
  generalize hT1 : ((lstG B).all fun q => wi (gi (zer (chD (zer W) L)) q.1) q.2) = T1 at t1
  have cnd : evE T (callN T 6) true (.or_ (.and_ (.cmp .is_ (.var 2) .non) (.var 11)) (.and_ (.cmp .isnot (.var 2) .non) (.cmp .ne (.cmp .in_ (.frz (.mk 0 (.cons (.blt .dict true (.cons (.var 7) .nil)) .nil))) (.meth (.var 0) 4 (.cons (.var 1) .nil))) (.var 11)))) [some (ptv B), some (chv L), some (bkV (backG P [] A)), some (.fl (ns.map .str)), x4, some (.int a'), some (.int w), some (.ref h.length), x8, x9, x10, some (Vl.bl T1)] g = .ok (.bl false) g := by
    rcases back_both nA nB nL vB hb with ⟨e1, e2, x0, hx0⟩ | ⟨D, D', e1, e2, du, n1, n2, v2, gg, gs⟩
    · rw [← hb] at hx0
      have : T1 = false := by
        cases T1 with
        | false => rfl
        | true =>
          have := (in_iff nB (fun x => gi (zer (chD (zer W) L)) x)).mp hT1 x0
          have z := fxn x0 hx0
          rw [z] at this; cases this
      rw [e2, this]
      simp only [↓rb, ↓tw0, ↓tw1, ↓evSs, ↓evS, ↓evE, ↓evEs, ↓evI, ↓evC, ↓evO, ↓evPs, ag1, ag2, ag3, ag4, chkT, ofO, List.getElem?_cons_zero, List.getElem?_cons_succ, List.set_cons_zero, List.set_cons_succ, Bool.false_eq_true, if_false, if_true, Option.bind_some, Option.map_some, tru1, subD, setD, cmpD, cmpO, binD, bltD, asS, asL, asD, asO, keyOf, truV, cf_eq_i, cf_ne_i, cf_eq_s, cf_ne_s, cf_eq_b, cf_ne_b, cf_lt_i, cf_gt_i, cf_le_i, cf_ge_i, cf_is0, cf_isr, cf_isnot0, cf_ist, kd_dec, kd_dec2, subF, ix10, ix20, ix21, ix30, ix31, ix32, ln1, ln2, ln3, lim0, lim1, lim2, lim3, lim4, lim5, lim6, decide_true, decide_false, decide_not, Bool.not_true, Bool.not_false, Bool.true_or, Bool.or_true, Bool.false_or, Bool.or_false, not_true, not_false_eq_true, eq_self, reduceCtorEq, Bool.and_true, Bool.true_and, Bool.and_false, Bool.false_and, bkV]
    · have bf := ev_bef T 4 (s := [some (ptv B), some (chv L), some (bkV (backG P [] A)), some (.fl (ns.map .str)), x4, some (.int a'), some (.int w), some (.ref h.length), x8, x9, x10, some (Vl.bl T1)]) (h := g) (e := .var 0) (f := .var 1) (ev_var rfl) (ev_var rfl) nB (by omega) (by omega : L.length < 25)
      rw [e1] at bf
      have t2 := ev_in T 4 (mkn [some (ptv B), some (chv L), some (bkV (backG P [] A)), some (.fl (ns.map .str)), x4, some (.int a'), some (.int w), some (.ref h.length), x8, x9, x10, some (Vl.bl T1)] rfl) bf false
      have : ((lstG (D.filter fun q => la q.2)).all fun q => wi (gi (zer W) q.1) q.2) = T1 := by
        rw [← hT1]
        refine (in_ext nB (ndG_filter n1 la) (fun x => gi (zer (chD (zer W) L)) x) (fun x => gi (zer W) x) fun x => ?_).symm
        show wi (gi (zer (chD (zer W) L)) x) _ = wi (gi (zer W) x) _
        rw [gt_la n1, gg]
        exact fxs x _ ((hb x).trans (gs x))
      rw [this] at t2
      have c5 := bool_ne (T := T) t2 (ev_var (x := 11) (v := .bl T1) rfl)
      rw [show (!decide (T1 = T1)) = false from by simp] at c5
      rw [e2] at c5 ⊢
      have isf : ∀ h, cmpF .is_ (.fd (KG lv D')) .non h = some false := fun _ => rfl
      have isn : ∀ h, cmpF .isnot (.fd (KG lv D')) .non h = some true := fun _ => rfl
      refine or_ff (h1 := g) ?_ ?_
      · simp only [↓rb, ↓tw0, ↓tw1, ↓evSs, ↓evS, ↓evE, ↓evEs, ↓evI, ↓evC, ↓evO, ↓evPs, ag1, ag2, ag3, ag4, chkT, ofO, List.getElem?_cons_zero, List.getElem?_cons_succ, List.set_cons_zero, List.set_cons_succ, Bool.false_eq_true, if_false, if_true, Option.bind_some, Option.map_some, tru1, subD, setD, cmpD, cmpO, binD, bltD, asS, asL, asD, asO, keyOf, truV, cf_eq_i, cf_ne_i, cf_eq_s, cf_ne_s, cf_eq_b, cf_ne_b, cf_lt_i, cf_gt_i, cf_le_i, cf_ge_i, cf_is0, cf_isr, cf_isnot0, cf_ist, kd_dec, kd_dec2, subF, ix10, ix20, ix21, ix30, ix31, ix32, ln1, ln2, ln3, lim0, lim1, lim2, lim3, lim4, lim5, lim6, decide_true, decide_false, decide_not, Bool.not_true, Bool.not_false, Bool.true_or, Bool.or_true, Bool.false_or, Bool.or_false, not_true, not_false_eq_true, eq_self, reduceCtorEq, Bool.and_true, Bool.true_and, Bool.and_false, Bool.false_and, bkV, isf]
      · rw [evE]
        have i1 : evE T (callN T 6) true (.cmp .isnot (.var 2) .non) [some (ptv B), some (chv L), some (bkV (some D')), some (.fl (ns.map .str)), x4, some (.int a'), some (.int w), some (.ref h.length), x8, x9, x10, some (Vl.bl T1)] g = .ok (.bl true) g := by simp only [↓rb, ↓tw0, ↓tw1, ↓evSs, ↓evS, ↓evE, ↓evEs, ↓evI, ↓evC, ↓evO, ↓evPs, ag1, ag2, ag3, ag4, chkT, ofO, List.getElem?_cons_zero, List.getElem?_cons_succ, List.set_cons_zero, List.set_cons_succ, Bool.false_eq_true, if_false, if_true, Option.bind_some, Option.map_some, tru1, subD, setD, cmpD, cmpO, binD, bltD, asS, asL, asD, asO, keyOf, truV, cf_eq_i, cf_ne_i, cf_eq_s, cf_ne_s, cf_eq_b, cf_ne_b, cf_lt_i, cf_gt_i, cf_le_i, cf_ge_i, cf_is0, cf_isr, cf_isnot0, cf_ist, kd_dec, kd_dec2, subF, ix10, ix20, ix21, ix30, ix31, ix32, ln1, ln2, ln3, lim0, lim1, lim2, lim3, lim4, lim5, lim6, decide_true, decide_false, decide_not, Bool.not_true, Bool.not_false, Bool.true_or, Bool.or_true, Bool.false_or, Bool.or_false, not_true, not_false_eq_true, eq_self, reduceCtorEq, Bool.and_true, Bool.true_and, Bool.and_false, Bool.false_and, bkV, isn]
        rw [i1]
        exact c5
  refine ⟨some (.bl T1), g, ?_, F⟩
  refine (st1 _).trans ((st_set t1).trans ((st_if0 cnd).trans ?_))
  rw [evSs]
end K01
end

section
set_option Elab.async false
set_option linter.all false
set_option maxRecDepth 100000
set_option maxHeartbeats 4000000
set_option autoImplicit false
namespace K01
open PySem L2 Core
def bv (q : Int × Int) : Vl := .tup [.int q.1, .int q.2]
theorem snotes_ok {h : Hv} {A B : List (Str × Lm)} {P L : List (Str × Pp)} {ns : List Str} {bs : List (Int × Int)} (n6 : ns.length = 6) (gd : ∀ x ∈ ns, Gd x) (hbs : ∀ q ∈ bs, (0 ≤ q.1 ∧ q.1 < 6) ∧ 0 ≤ q.2 ∧ q.2 < 4)
    (nA : (ksG A).Nodup) (nB : (ksG B).Nodup) (nL : (ksG L).Nodup) (vB : VD B) (lB : B.length < 20) (lL : L.length < 20) (gL : ∀ x ∈ ksG L, Gd x) (hb : ∀ x, be1 (gt B x) (lkG L x) = be1 (gt A x) (lkG P x)) :
    callN T 7 407 [ptv B, chv L, bkV (backG P [] A), .fl (ns.map .str), .fl (bs.map bv)] h = .ok (.bl true) h := by
  rw [c407 6]
  unfold b__law_same_notes
  have it : evI T (callN T 6) (.val (.var 4)) [some (ptv B), some (chv L), some (bkV (backG P [] A)), some (.fl (ns.map .str)), some (.fl (bs.map bv)), none, none, none, none, none, none, none] h = .ok (.free (bs.map bv)) h := by simp only [↓rb, ↓tw0, ↓tw1, ↓evSs, ↓evS, ↓evE, ↓evEs, ↓evI, ↓evC, ↓evO, ↓evPs, ag1, ag2, ag3, ag4, chkT, ofO, List.getElem?_cons_zero, List.getElem?_cons_succ, List.set_cons_zero, List.set_cons_succ, Bool.false_eq_true, if_false, if_true, Option.bind_some, Option.map_some, tru1, subD, setD, cmpD, cmpO, binD, bltD, asS, asL, asD, asO, keyOf, truV, cf_eq_i, cf_ne_i, cf_eq_s, cf_ne_s, cf_eq_b, cf_ne_b, cf_lt_i, cf_gt_i, cf_le_i, cf_ge_i, cf_is0, cf_isr, cf_isnot0, cf_ist, kd_dec, kd_dec2, subF, ix10, ix20, ix21, ix30, ix31, ix32, ln1, ln2, ln3, lim0, lim1, lim2, lim3, lim4, lim5, lim6, decide_true, decide_false, decide_not, Bool.not_true, Bool.not_false, Bool.true_or, Bool.or_true, Bool.false_or, Bool.or_false, not_true, not_false_eq_true, eq_self, reduceCtorEq, Bool.and_true, Bool.true_and, Bool.and_false, Bool.false_and, itD]
  obtain ⟨s', h', e1, x5, x6, x7, x8, x9, x10, x11, X, F, rfl, _⟩ := forR_run (src := .free) (t := .tup (.cons (.var 5) (.cons (.var 6) .nil))) (body := evSs T (callN T 6) snO)
    (fun r s h4 => ∃ (x5 x6 x7 x8 x9 x10 x11 : Option Vl) (X : List (Int × Int)), Fr [] h h4 ∧ s = [some (ptv B), some (chv L), some (bkV (backG P [] A)), some (.fl (ns.map .str)), some (.fl (bs.map bv)), x5, x6, x7, x8, x9, x10, x11] ∧ r = X.map bv ∧ ∀ q ∈ X, q ∈ bs)
    (fun _ _ _ _ => trivial) (fun v r s h4 ⟨x5, x6, x7, x8, x9, x10, x11, X, F, es, er, hX⟩ => by
      subst es
      cases X with
      | nil => cases er
      | cons q X =>
        obtain ⟨rfl, rfl⟩ := List.cons.inj er
        obtain ⟨ha, hw⟩ := hbs q (hX q List.mem_cons_self)
        obtain ⟨a', w⟩ := q
        have e0 : evE T (callN T 6) false (.dct false .nil) [some (ptv B), some (chv L), some (bkV (backG P [] A)), some (.fl (ns.map .str)), some (.fl (bs.map bv)), some (.int a'), some (.int w), x7, x8, x9, x10, x11] h4 = .ok (.ref h4.length) (h4 ++ [.dct (KG .int [])]) := by simp only [↓rb, ↓tw0, ↓tw1, ↓evSs, ↓evS, ↓evE, ↓evEs, ↓evI, ↓evC, ↓evO, ↓evPs, ag1, ag2, ag3, ag4, chkT, ofO, List.getElem?_cons_zero, List.getElem?_cons_succ, List.set_cons_zero, List.set_cons_succ, Bool.false_eq_true, if_false, if_true, Option.bind_some, Option.map_some, tru1, subD, setD, cmpD, cmpO, binD, bltD, asS, asL, asD, asO, keyOf, truV, cf_eq_i, cf_ne_i, cf_eq_s, cf_ne_s, cf_eq_b, cf_ne_b, cf_lt_i, cf_gt_i, cf_le_i, cf_ge_i, cf_is0, cf_isr, cf_isnot0, cf_ist, kd_dec, kd_dec2, subF, ix10, ix20, ix21, ix30, ix31, ix32, ln1, ln2, ln3, lim0, lim1, lim2, lim3, lim4, lim5, lim6, decide_true, decide_false, decide_not, Bool.not_true, Bool.not_false, Bool.true_or, Bool.or_true, Bool.false_or, Bool.or_false, not_true, not_false_eq_true, eq_self, reduceCtorEq, Bool.and_true, Bool.true_and, Bool.and_false, Bool.false_and, chk, mkD, mergeD, List.foldl_nil]; rfl
        have it2 : evI T (callN T 6) (.val (.var 3)) [some (ptv B), some (chv L), some (bkV (backG P [] A)), some (.fl (ns.map .str)), some (.fl (bs.map bv)), some (.int a'), some (.int w), some (.ref h4.length), x8, x9, x10, x11] (h4 ++ [.dct (KG .int [])]) = .ok (.free (ns.map .str)) (h4 ++ [.dct (KG .int [])]) := by simp only [↓rb, ↓tw0, ↓tw1, ↓evSs, ↓evS, ↓evE, ↓evEs, ↓evI, ↓evC, ↓evO, ↓evPs, ag1, ag2, ag3, ag4, chkT, ofO, List.getElem?_cons_zero, List.getElem?_cons_succ, List.set_cons_zero, List.set_cons_succ, Bool.false_eq_true, if_false, if_true, Option.bind_some, Option.map_some, tru1, subD, setD, cmpD, cmpO, binD, bltD, asS, asL, asD, asO, keyOf, truV, cf_eq_i, cf_ne_i, cf_eq_s, cf_ne_s, cf_eq_b, cf_ne_b, cf_lt_i, cf_gt_i, cf_le_i, cf_ge_i, cf_is0, cf_isr, cf_isnot0, cf_ist, kd_dec, kd_dec2, subF, ix10, ix20, ix21, ix30, ix31, ix32, ln1, ln2, ln3, lim0, lim1, lim2, lim3, lim4, lim5, lim6, decide_true, decide_false, decide_not, Bool.not_true, Bool.not_false, Bool.true_or, Bool.or_true, Bool.false_or, Bool.or_false, not_true, not_false_eq_true, eq_self, reduceCtorEq, Bool.and_true, Bool.true_and, Bool.and_false, Bool.false_and, itD]
        obtain ⟨s5, h5, e5, y8, y9, y10, X1, X2, V, rfl, rfl, kV, hV, eX, eR⟩ := forR_run (src := .free) (t := .var 8) (body := evSs T (callN T 6) snI)
          (fun r s h5 => ∃ (y8 y9 y10 : Option Vl) (X1 X2 : List Str) (V : List (Str × Int)), s = [some (ptv B), some (chv L), some (bkV (backG P [] A)), some (.fl (ns.map .str)), some (.fl (bs.map bv)), some (.int a'), some (.int w), some (.ref h4.length), y8, y9, y10, x11] ∧ h5 = h4 ++ [.dct (KG .int V)] ∧ Kn ns V ∧ (∀ x ∈ X1, x ∈ ksG V) ∧ ns = X1 ++ X2 ∧ r = X2.map .str)
          (fun _ _ _ _ => trivial) (fun v r s h5 ⟨y8, y9, y10, X1, X2, V, es, eh, kV, hV, eX, eR⟩ => by
            subst es eh
            cases X2 with
            | nil => cases eR
            | cons x X2 =>
              obtain ⟨rfl, rfl⟩ := List.cons.inj eR
              have lV := kV.len
              obtain ⟨z9, z10, i, e⟩ := in_step 6 (h := h4) (B := B) (L := L) (o := backG P [] A) (ns := ns) (V := V) (x := x) (w := w) (x4 := some (.fl (bs.map bv))) (x5 := some (.int a')) (x9 := y9) (x10 := y10) (x11 := x11) hw (by omega)
              have hx : x ∈ ns := by rw [eX]; simp
              refine ⟨_, _, _, rfl, .inl e, _, _, _, X1 ++ [x], X2, ptG V x i, rfl, rfl, kV.pt hx i, fun y hy => ?_, by rw [eX]; simp, rfl⟩
              rw [ksG_ptG]
              rcases List.mem_append.mp hy with hy | hy
              · split
                · exact hV y hy
                · exact List.mem_append.mpr (.inl (hV y hy))
              · rw [List.mem_singleton] at hy
                subst hy
                split
                · assumption
                · simp) (ns.map .str) [some (ptv B), some (chv L), some (bkV (backG P [] A)), some (.fl (ns.map .str)), some (.fl (bs.map bv)), some (.int a'), some (.int w), some (.ref h4.length), x8, x9, x10, x11] (h4 ++ [.dct (KG .int [])]) ⟨_, _, _, [], ns, [], rfl, rfl, kn_nil, fun _ h => (by cases h), rfl, rfl⟩
        have hX2 : X2 = [] := by cases X2 with
          | nil => rfl
          | cons q D2 => cases eR
        subst hX2
        rw [List.append_nil] at eX
        obtain ⟨y11, h6, e6, F6⟩ := rest_ok (h := h4) (P := P) (x4 := some (.fl (bs.map bv))) (x8 := y8) (x9 := y9) (x10 := y10) (x11 := x11) n6 gd kV (fun x hx => hV x (by rw [← eX]; exact hx)) ha hw nA nB nL vB lB lL gL hb
        refine ⟨[some (ptv B), some (chv L), some (bkV (backG P [] A)), some (.fl (ns.map .str)), some (.fl (bs.map bv)), some (.int a'), some (.int w), x7, x8, x9, x10, x11], [some (ptv B), some (chv L), some (bkV (backG P [] A)), some (.fl (ns.map .str)), some (.fl (bs.map bv)), some (.int a'), some (.int w), some (.ref h4.length), y8, y9, y10, y11], h6, by simp only [↓rb, ↓tw0, ↓tw1, ↓evSs, ↓evS, ↓evE, ↓evEs, ↓evI, ↓evC, ↓evO, ↓evPs, ag1, ag2, ag3, ag4, chkT, ofO, List.getElem?_cons_zero, List.getElem?_cons_succ, List.set_cons_zero, List.set_cons_succ, Bool.false_eq_true, if_false, if_true, Option.bind_some, Option.map_some, tru1, subD, setD, cmpD, cmpO, binD, bltD, asS, asL, asD, asO, keyOf, truV, cf_eq_i, cf_ne_i, cf_eq_s, cf_ne_s, cf_eq_b, cf_ne_b, cf_lt_i, cf_gt_i, cf_le_i, cf_ge_i, cf_is0, cf_isr, cf_isnot0, cf_ist, kd_dec, kd_dec2, subF, ix10, ix20, ix21, ix30, ix31, ix32, ln1, ln2, ln3, lim0, lim1, lim2, lim3, lim4, lim5, lim6, decide_true, decide_false, decide_not, Bool.not_true, Bool.not_false, Bool.true_or, Bool.or_true, Bool.false_or, Bool.or_false, not_true, not_false_eq_true, eq_self, reduceCtorEq, Bool.and_true, Bool.true_and, Bool.and_false, Bool.false_and, bv], .inl ?_, _, _, _, _, _, _, _, X, F.trans F6, rfl, rfl, fun z h => hX z (List.mem_cons_of_mem _ h)⟩
        exact (st_set e0).trans ((st_for it2 ((unlock_free rfl).trans e5)).trans e6)) (bs.map bv) [some (ptv B), some (chv L), some (bkV (backG P [] A)), some (.fl (ns.map .str)), some (.fl (bs.map bv)), none, none, none, none, none, none, none] h ⟨_, _, _, _, _, _, _, bs, .refl _ _, rfl, rfl, fun _ z => z⟩
  refine (congrArg (fun r => finR 2 h (retOf r)) ((st_for it ((unlock_free rfl).trans e1)).trans (st_ret (v := .bl true) (h1 := h') (by rw [evE])))).trans ?_
  exact fin2_p F rfl
theorem bends_ok (n : Nat) {k : Nat} {h : Hv} {s : Lo} (hk : PAt h k) (hs : (wipeL s [5])[2]? = some (some (.ref k))) (hl : 5 < (wipeL s [5]).length) :
    ∃ (bs : List (Int × Int)) (h' : Hv), evE T (callN T (n + 1)) false (.lc true [5] (.var 5) (.rng1 (.int 3)) .no (.tup (.cons (.call 301 (.cons (.var 2) (.cons (.int 6) .nil))) (.cons (.call 301 (.cons (.var 2) (.cons (.int 4) .nil))) .nil)))) s h = .ok (.fl (bs.map bv)) h' ∧ Same k h h' ∧ ∀ q ∈ bs, (0 ≤ q.1 ∧ q.1 < 6) ∧ 0 ≤ q.2 ∧ q.2 < 4 := by
  have it : evI T (callN T (n + 1)) (.rng1 (.int 3)) s h = .ok (.free (rngL 0 3)) h := it_rng (n := 3) (by simp only [↓rb, ↓tw0, ↓tw1, ↓evSs, ↓evS, ↓evE, ↓evEs, ↓evI, ↓evC, ↓evO, ↓evPs, ag1, ag2, ag3, ag4, chkT, ofO, List.getElem?_cons_zero, List.getElem?_cons_succ, List.set_cons_zero, List.set_cons_succ, Bool.false_eq_true, if_false, if_true, Option.bind_some, Option.map_some, tru1, subD, setD, cmpD, cmpO, binD, bltD, asS, asL, asD, asO, keyOf, truV, cf_eq_i, cf_ne_i, cf_eq_s, cf_ne_s, cf_eq_b, cf_ne_b, cf_lt_i, cf_gt_i, cf_le_i, cf_ge_i, cf_is0, cf_isr, cf_isnot0, cf_ist, kd_dec, kd_dec2, subF, ix10, ix20, ix21, ix30, ix31, ix32, ln1, ln2, ln3, lim0, lim1, lim2, lim3, lim4, lim5, lim6, decide_true, decide_false, decide_not, Bool.not_true, Bool.not_false, Bool.true_or, Bool.or_true, Bool.false_or, Bool.or_false, not_true, not_false_eq_true, eq_self, reduceCtorEq, Bool.and_true, Bool.true_and, Bool.and_false, Bool.false_and]; rfl) (by decide)
  obtain ⟨vs, h', e, bs, eb, S, hb, _⟩ := lcR_run (src := .free) (t := .var 5) (cond := fun s h => noX (evC T (callN T (n + 1)) .no s h)) (elt := fun s h => noX (evE T (callN T (n + 1)) false (.tup (.cons (.call 301 (.cons (.var 2) (.cons (.int 6) .nil))) (.cons (.call 301 (.cons (.var 2) (.cons (.int 4) .nil))) .nil))) s h)) (s := wipeL s [5])
    (fun r acc h4 => ∃ bs : List (Int × Int), acc = bs.map bv ∧ Same k h h4 ∧ (∀ q ∈ bs, (0 ≤ q.1 ∧ q.1 < 6) ∧ 0 ≤ q.2 ∧ q.2 < 4) ∧ ∀ v ∈ r, ∃ i : Int, v = .int i)
    (fun _ _ _ _ => trivial) (fun v r acc h4 ⟨bs, ea, S, hb, hv⟩ => by
      obtain ⟨i, rfl⟩ := hv v List.mem_cons_self
      have k4 := S.at hk
      obtain ⟨w, h5, e1, w0, w6, s1⟩ := drawC T n 6 k4 (by decide) (by decide +kernel)
      obtain ⟨a, h6, e2, a0, a6, s2⟩ := drawC T n 4 (s1.at k4) (by decide) (by decide +kernel)
      refine ⟨(wipeL s [5]).set 5 (some (.int i)), h4, true, by simp only [↓rb, ↓tw0, ↓tw1, ↓evSs, ↓evS, ↓evE, ↓evEs, ↓evI, ↓evC, ↓evO, ↓evPs, ag1, ag2, ag3, ag4, chkT, ofO, List.getElem?_cons_zero, List.getElem?_cons_succ, List.set_cons_zero, List.set_cons_succ, Bool.false_eq_true, if_false, if_true, Option.bind_some, Option.map_some, tru1, subD, setD, cmpD, cmpO, binD, bltD, asS, asL, asD, asO, keyOf, truV, cf_eq_i, cf_ne_i, cf_eq_s, cf_ne_s, cf_eq_b, cf_ne_b, cf_lt_i, cf_gt_i, cf_le_i, cf_ge_i, cf_is0, cf_isr, cf_isnot0, cf_ist, kd_dec, kd_dec2, subF, ix10, ix20, ix21, ix30, ix31, ix32, ln1, ln2, ln3, lim0, lim1, lim2, lim3, lim4, lim5, lim6, decide_true, decide_false, decide_not, Bool.not_true, Bool.not_false, Bool.true_or, Bool.or_true, Bool.false_or, Bool.or_false, not_true, not_false_eq_true, eq_self, reduceCtorEq, Bool.and_true, Bool.true_and, Bool.and_false, Bool.false_and], rfl, .inl ⟨rfl, bv (w, a), h6, ?_, bs ++ [(w, a)], by rw [ea]; simp, (S.trans s1).trans s2, ?_, fun u hu => hv u (List.mem_cons_of_mem _ hu)⟩⟩
      · have h2 : ((wipeL s [5]).set 5 (some (.int i)))[2]? = some (some (.ref k)) := by rw [List.getElem?_set_ne (by decide)]; exact hs
        generalize (wipeL s [5]).set 5 (some (.int i)) = s5 at h2
        show noX (evE T (callN T (n + 1)) false _ s5 h4) = _
        have : evE T (callN T (n + 1)) false (.tup (.cons (.call 301 (.cons (.var 2) (.cons (.int 6) .nil))) (.cons (.call 301 (.cons (.var 2) (.cons (.int 4) .nil))) .nil))) s5 h4 = .ok (bv (w, a)) h6 := by
          simp only [↓rb, ↓tw0, ↓tw1, ↓evSs, ↓evS, ↓evE, ↓evEs, ↓evI, ↓evC, ↓evO, ↓evPs, ag1, ag2, ag3, ag4, chkT, ofO, List.getElem?_cons_zero, List.getElem?_cons_succ, List.set_cons_zero, List.set_cons_succ, Bool.false_eq_true, if_false, if_true, Option.bind_some, Option.map_some, tru1, subD, setD, cmpD, cmpO, binD, bltD, asS, asL, asD, asO, keyOf, truV, cf_eq_i, cf_ne_i, cf_eq_s, cf_ne_s, cf_eq_b, cf_ne_b, cf_lt_i, cf_gt_i, cf_le_i, cf_ge_i, cf_is0, cf_isr, cf_isnot0, cf_ist, kd_dec, kd_dec2, subF, ix10, ix20, ix21, ix30, ix31, ix32, ln1, ln2, ln3, lim0, lim1, lim2, lim3, lim4, lim5, lim6, decide_true, decide_false, decide_not, Bool.not_true, Bool.not_false, Bool.true_or, Bool.or_true, Bool.false_or, Bool.or_false, not_true, not_false_eq_true, eq_self, reduceCtorEq, Bool.and_true, Bool.true_and, Bool.and_false, Bool.false_and, h2, e1, e2, chk, bv]
        rw [this]
        rfl
      · intro q hq
        rcases List.mem_append.mp hq with hq | hq
        · exact hb q hq
        · rw [List.mem_singleton] at hq
          subst hq
          exact ⟨⟨w0, w6⟩, a0, a6⟩) (rngL 0 3) [] h ⟨[], rfl, Same.refl hk, (fun q hq => by cases hq), fun v hv => by
        simp only [rngL, List.mem_map] at hv
        obtain ⟨i, _, rfl⟩ := hv
        exact ⟨_, rfl⟩⟩
  rw [List.nil_append] at eb
  subst eb
  refine ⟨bs, h', ?_, S, hb⟩
  rw [ev_lc it (by simp [Walk.free, rngL, LIM]) ((unlock_free rfl).trans e)]
  rfl
end K01
end

section
set_option Elab.async false
set_option linter.all false
set_option maxRecDepth 100000
set_option maxHeartbeats 4000000
set_option autoImplicit false
namespace K01
open PySem L2 Core
abbrev bd : CSs := (.cons (.set (.var 2) (.call 300 (.cons (.var 1) .nil))) (.cons (.set (.var 3) (.lst true (.cons (.call 301 (.cons (.var 2) (.cons (.int 7) .nil))) (.cons (.call 301 (.cons (.var 2) (.cons (.int 7) .nil))) (.cons (.call 301 (.cons (.var 2) (.cons (.int 7) .nil))) .nil))))) (.cons (.set (.var 4) (.lc true [5] (.var 5) (.rng1 (.int 3)) .no (.tup (.cons (.call 301 (.cons (.var 2) (.cons (.int 6) .nil))) (.cons (.call 301 (.cons (.var 2) (.cons (.int 4) .nil))) .nil))))) (.cons (.set (.var 6) (.call 304 (.cons (.var 2) .nil))) (.cons (.set (.var 7) (.call 302 (.cons (.var 2) (.cons (.int 6) .nil)))) (.cons (.set (.var 8) (.call 305 (.cons (.var 2) (.cons (.slc true (.var 7) .no (.so (.sub (.var 3) (.int 0)))) (.cons (.var 6) .nil))))) (.cons (.set (.var 9) (.call 402 (.cons (.var 2) (.cons (.var 8) (.cons (.slc true (.var 7) (.so (.bin .sub true (.int 6) (.sub (.var 3) (.int 1)))) .no) (.cons (.var 6) .nil)))))) (.cons (.set (.var 10) (.frz (.mk 2 (.cons (.blt .dict true (.cons (.var 8) .nil)) .nil)))) (.cons (.set (.var 11) (.frz (.mk 1 (.cons (.blt .dict true (.cons (.var 9) .nil)) .nil)))) (.cons (.set (.var 12) (.call 403 (.cons (.var 8) (.cons (.var 9) .nil)))) (.cons (.ife (.not_ (.call 406 (.cons (.var 10) (.cons (.var 11) (.cons (.var 12) .nil))))) (.cons (.ret (.bl false)) .nil) .nil) (.cons (.ife (.not_ (.call 407 (.cons (.var 10) (.cons (.var 11) (.cons (.var 12) (.cons (.var 7) (.cons (.var 4) .nil))))))) (.cons (.ret (.bl false)) .nil) .nil) (.cons (.ife (.cmp .isnot (.var 12) .non) (.cons (.set (.var 13) (.call 402 (.cons (.var 2) (.cons (.var 12) (.cons (.slc true (.var 7) .no (.so (.sub (.var 3) (.int 2)))) (.cons (.var 6) .nil)))))) (.cons (.ife (.not_ (.call 406 (.cons (.meth (.var 10) 4 (.cons (.var 11) .nil)) (.cons (.frz (.mk 1 (.cons (.blt .dict true (.cons (.var 13) .nil)) .nil))) (.cons (.call 403 (.cons (.var 12) (.cons (.var 13) .nil))) .nil))))) (.cons (.ret (.bl false)) .nil) .nil) .nil)) .nil) (.cons (.ife (.not_ (.call 308 (.cons (.meth (.var 10) 2 .nil) (.cons (.call 306 (.cons (.var 8) .nil)) .nil)))) (.cons (.ret (.bl false)) .nil) .nil) (.cons (.ife (.not_ (.cmp .eq (.frz (.mk 1 (.cons (.blt .dict true (.cons (.var 9) .nil)) .nil))) (.var 11))) (.cons (.ret (.bl false)) .nil) .nil) .nil)))))))))))))))
theorem Kn.sub {α : Type} {xs ns : List Str} {D : List (Str × α)} (k : Kn xs D) (h : ∀ x ∈ xs, x ∈ ns) : Kn ns D := ⟨k.1, fun x hx => h x (k.2 x hx)⟩
theorem kn_due {ns : List Str} {P : List (Str × Pp)} (k : Kn ns P) : Kn ns (due P) := ⟨nd_due k.1, fun x hx => by
  unfold due at hx
  rw [ks_lstG] at hx
  exact k.2 x ((ksG_filter P act).subset ((sortS_perm _).mem_iff.mp hx))⟩
theorem turn1 {h : Hv} {S : Vl} {c : Int} {v2 v3 v4 v5 v6 v7 v8 v9 v10 v11 v12 v13 : Option Vl} :
    ∃ y2 y3 y4 y5 y6 y7 y8 y9 y10 y11 y12 y13 h', evSs T (callN T 7) bd [some S, some (.int c), v2, v3, v4, v5, v6, v7, v8, v9, v10, v11, v12, v13] h = .ok (.nx [some S, some (.int c), y2, y3, y4, y5, y6, y7, y8, y9, y10, y11, y12, y13]) h' := by
  obtain ⟨p, e1⟩ := pool_ok T 6 c h
  have hk : PAt (h ++ [Cell.lst [.int p]]) h.length := ⟨p, get_last⟩
  generalize h ++ [Cell.lst [.int p]] = h1 at e1 hk
  generalize h.length = k at e1 hk
  obtain ⟨d1, h2, e2, _, _, s2⟩ := drawC T 6 7 hk (by decide) (by decide +kernel)
  have hk2 := s2.at hk
  obtain ⟨d2, h3, e3, _, _, s3⟩ := drawC T 6 7 hk2 (by decide) (by decide +kernel)
  have hk3 := s3.at hk2
  obtain ⟨d3, h4, e4, _, _, s4⟩ := drawC T 6 7 hk3 (by decide) (by decide +kernel)
  have hk4 := s4.at hk3
  have e4' : evE T (callN T 7) false (.lst true (.cons (.call 301 (.cons (.var 2) (.cons (.int 7) .nil))) (.cons (.call 301 (.cons (.var 2) (.cons (.int 7) .nil))) (.cons (.call 301 (.cons (.var 2) (.cons (.int 7) .nil))) .nil)))) [some S, some (.int c), some (.ref k), v3, v4, v5, v6, v7, v8, v9, v10, v11, v12, v13] h1 = .ok (.fl [.int d1, .int d2, .int d3]) h4 := by
    simp only [↓rb, ↓tw0, ↓tw1, ↓evSs, ↓evS, ↓evE, ↓evEs, ↓evI, ↓evC, ↓evO, ↓evPs, ag1, ag2, ag3, ag4, chkT, ofO, List.getElem?_cons_zero, List.getElem?_cons_succ, List.set_cons_zero, List.set_cons_succ, Bool.false_eq_true, if_false, if_true, Option.bind_some, Option.map_some, tru1, subD, setD, cmpD, cmpO, binD, bltD, asS, asL, asD, asO, keyOf, truV, cf_eq_i, cf_ne_i, cf_eq_s, cf_ne_s, cf_eq_b, cf_ne_b, cf_lt_i, cf_gt_i, cf_le_i, cf_ge_i, cf_is0, cf_isr, cf_isnot0, cf_ist, kd_dec, kd_dec2, subF, ix10, ix20, ix21, ix30, ix31, ix32, ln1, ln2, ln3, lim0, lim1, lim2, lim3, lim4, lim5, lim6, decide_true, decide_false, decide_not, Bool.not_true, Bool.not_false, Bool.true_or, Bool.or_true, Bool.false_or, Bool.or_false, not_true, not_false_eq_true, eq_self, reduceCtorEq, Bool.and_true, Bool.true_and, Bool.and_false, Bool.false_and, e2, e3, e4, chk, mkL]
  obtain ⟨bs, h5, e5, s5, hbs⟩ := bends_ok 6 (s := [some S, some (.int c), some (.ref k), some (.fl [.int d1, .int d2, .int d3]), v4, v5, v6, v7, v8, v9, v10, v11, v12, v13]) hk4 rfl (by simp [wipeL])
  have hk5 := s5.at hk4
  obtain ⟨f, h6, e6, bf, s6⟩ := far_ok T 5 hk5
  have hk6 := s6.at hk5
  obtain ⟨ns, h7, e7, s7, n6, gd⟩ := names_ok T 5 hk6
  have hk7 := s7.at hk6
  obtain ⟨xs, sl, mx, lx⟩ := slc_fl (h := h7) (ns := ns) (lo := none) (hi := some d1)
  obtain ⟨A, h8, e8, s8, kx, vA⟩ := limits_ok T 5 (f := f) (xs := xs) bf hk7 (by omega)
  have hk8 := s8.at hk7
  obtain ⟨ys, sm, my, ly⟩ := slc_fl (h := h8) (ns := ns) (lo := some (6 - d2)) (hi := none)
  obtain ⟨P, h9, e9, s9, ky⟩ := lparts_ok 5 (f := f) (xs := ys) (D := A) hk8 (by omega)
  have hk9 := s9.at hk8
  have kA : Kn ns A := kx.sub mx
  have kP : Kn ns P := ky.sub my
  have kL : Kn ns (due P) := kn_due kP
  have lA : A.length ≤ 6 := by have := kA.len; omega
  have lP : P.length ≤ 6 := by have := kP.len; omega
  have lL : (due P).length ≤ 6 := by have := kL.len; omega
  have kB : Kn ns (A.filter fun q => la q.2) := kA.filter la
  have lB : (A.filter fun q => la q.2).length ≤ 6 := by have := kB.len; omega
  have vB : VD (A.filter fun q => la q.2) := VD.filter vA (fun q => la q.2)
  have hb : ∀ x, be1 (gt (A.filter fun q => la q.2) x) (lkG (due P) x) = be1 (gt A x) (lkG P x) := fun x => by rw [gt_la kA.1, lk_due kP.1, be1_act]
  have p10 := mkP_fd T 6 (s := [some S, some (.int c), some (.ref k), some (.fl [.int d1, .int d2, .int d3]), some (.fl (bs.map bv)), v5, some (.int f), some (.fl (ns.map .str)), some (.fd (KG lv A)), some (.fd (KG pv P)), v10, v11, v12, v13]) (h := h9) (e := .blt .dict true (.cons (.var 8) .nil)) (D := A) (by simp only [↓rb, ↓tw0, ↓tw1, ↓evSs, ↓evS, ↓evE, ↓evEs, ↓evI, ↓evC, ↓evO, ↓evPs, ag1, ag2, ag3, ag4, chkT, ofO, List.getElem?_cons_zero, List.getElem?_cons_succ, List.set_cons_zero, List.set_cons_succ, Bool.false_eq_true, if_false, if_true, Option.bind_some, Option.map_some, tru1, subD, setD, cmpD, cmpO, binD, bltD, asS, asL, asD, asO, keyOf, truV, cf_eq_i, cf_ne_i, cf_eq_s, cf_ne_s, cf_eq_b, cf_ne_b, cf_lt_i, cf_gt_i, cf_le_i, cf_ge_i, cf_is0, cf_isr, cf_isnot0, cf_ist, kd_dec, kd_dec2, subF, ix10, ix20, ix21, ix30, ix31, ix32, ln1, ln2, ln3, lim0, lim1, lim2, lim3, lim4, lim5, lim6, decide_true, decide_false, decide_not, Bool.not_true, Bool.not_false, Bool.true_or, Bool.or_true, Bool.false_or, Bool.or_false, not_true, not_false_eq_true, eq_self, reduceCtorEq, Bool.and_true, Bool.true_and, Bool.and_false, Bool.false_and, bltF, mkD]) kA.1 (by omega)
  have p11 := mkC_fd T 6 (s := [some S, some (.int c), some (.ref k), some (.fl [.int d1, .int d2, .int d3]), some (.fl (bs.map bv)), v5, some (.int f), some (.fl (ns.map .str)), some (.fd (KG lv A)), some (.fd (KG pv P)), some (ptv (A.filter fun q => la q.2)), v11, v12, v13]) (h := h9) (e := .blt .dict true (.cons (.var 9) .nil)) (D := P) (by simp only [↓rb, ↓tw0, ↓tw1, ↓evSs, ↓evS, ↓evE, ↓evEs, ↓evI, ↓evC, ↓evO, ↓evPs, ag1, ag2, ag3, ag4, chkT, ofO, List.getElem?_cons_zero, List.getElem?_cons_succ, List.set_cons_zero, List.set_cons_succ, Bool.false_eq_true, if_false, if_true, Option.bind_some, Option.map_some, tru1, subD, setD, cmpD, cmpO, binD, bltD, asS, asL, asD, asO, keyOf, truV, cf_eq_i, cf_ne_i, cf_eq_s, cf_ne_s, cf_eq_b, cf_ne_b, cf_lt_i, cf_gt_i, cf_le_i, cf_ge_i, cf_is0, cf_isr, cf_isnot0, cf_ist, kd_dec, kd_dec2, subF, ix10, ix20, ix21, ix30, ix31, ix32, ln1, ln2, ln3, lim0, lim1, lim2, lim3, lim4, lim5, lim6, decide_true, decide_false, decide_not, Bool.not_true, Bool.not_false, Bool.true_or, Bool.or_true, Bool.false_or, Bool.or_false, not_true, not_false_eq_true, eq_self, reduceCtorEq, Bool.and_true, Bool.true_and, Bool.and_false, Bool.false_and, bltF, mkD]) kP.1 (by omega)
  have e12 := back_ok 5 (D := A) (P := P) h9 kA.1 (by omega)
  have lbk : ∀ D, backG P [] A = some D → D.length < 25 := fun D e => by
    have := (kn_backG (ns := ns) (A := []) kn_nil kA.2 e).len
    omega
  have ri := right_ok 3 (A := A) (B := A.filter fun q => la q.2) (P := P) (L := due P) h9 kA.1 kB.1 kL.1 vB (by omega) (by omega) (by omega) lbk hb
  have sn := snotes_ok (h := h9) (A := A) (B := A.filter fun q => la q.2) (P := P) (L := due P) (ns := ns) (bs := bs) n6 gd hbs kA.1 kB.1 kL.1 vB (by omega) (by omega) (fun x hx => gd x (kL.2 x hx)) hb
  have c1 : evE T (callN T 7) true (.not_ (.call 406 (.cons (.var 10) (.cons (.var 11) (.cons (.var 12) .nil))))) [some S, some (.int c), some (.ref k), some (.fl [.int d1, .int d2, .int d3]), some (.fl (bs.map bv)), v5, some (.int f), some (.fl (ns.map .str)), some (.fd (KG lv A)), some (.fd (KG pv P)), some (ptv (A.filter fun q => la q.2)), some (chv (due P)), some (bkV (backG P [] A)), v13] h9 = .ok (.bl false) h9 := not_c (b := true) (by
    simp only [↓evE, ↓evEs, ↓rb, tw0, List.getElem?_cons_zero, List.getElem?_cons_succ]
    exact ri)
  have c2 : evE T (callN T 7) true (.not_ (.call 407 (.cons (.var 10) (.cons (.var 11) (.cons (.var 12) (.cons (.var 7) (.cons (.var 4) .nil))))))) [some S, some (.int c), some (.ref k), some (.fl [.int d1, .int d2, .int d3]), some (.fl (bs.map bv)), v5, some (.int f), some (.fl (ns.map .str)), some (.fd (KG lv A)), some (.fd (KG pv P)), some (ptv (A.filter fun q => la q.2)), some (chv (due P)), some (bkV (backG P [] A)), v13] h9 = .ok (.bl false) h9 := not_c (b := true) (by
    simp only [↓evE, ↓evEs, ↓rb, tw0, List.getElem?_cons_zero, List.getElem?_cons_succ]
    exact sn)
  -- the second change
  obtain ⟨y13, h10, e13⟩ : ∃ y13 h10, ∀ r, evSs T (callN T 7) (.cons (.ife (.cmp .isnot (.var 12) .non) (.cons (.set (.var 13) (.call 402 (.cons (.var 2) (.cons (.var 12) (.cons (.slc true (.var 7) .no (.so (.sub (.var 3) (.int 2)))) (.cons (.var 6) .nil)))))) (.cons (.ife (.not_ (.call 406 (.cons (.meth (.var 10) 4 (.cons (.var 11) .nil)) (.cons (.frz (.mk 1 (.cons (.blt .dict true (.cons (.var 13) .nil)) .nil))) (.cons (.call 403 (.cons (.var 12) (.cons (.var 13) .nil))) .nil))))) (.cons (.ret (.bl false)) .nil) .nil) .nil)) .nil) r) [some S, some (.int c), some (.ref k), some (.fl [.int d1, .int d2, .int d3]), some (.fl (bs.map bv)), v5, some (.int f), some (.fl (ns.map .str)), some (.fd (KG lv A)), some (.fd (KG pv P)), some (ptv (A.filter fun q => la q.2)), some (chv (due P)), some (bkV (backG P [] A)), v13] h9 = evSs T (callN T 7) r [some S, some (.int c), some (.ref k), some (.fl [.int d1, .int d2, .int d3]), some (.fl (bs.map bv)), v5, some (.int f), some (.fl (ns.map .str)), some (.fd (KG lv A)), some (.fd (KG pv P)), some (ptv (A.filter fun q => la q.2)), some (chv (due P)), some (bkV (backG P [] A)), y13] h10 := by
    rcases back_both (A := A) (B := A.filter fun q => la q.2) (P := P) (L := due P) kA.1 kB.1 kL.1 vB hb with ⟨a1, a2, _⟩ | ⟨D, D', a1, a2, du, n1, n2, v2, gg, gs⟩
    · exact ⟨v13, h9, fun r => st_if0 (by rw [a2]; simp only [↓rb, ↓tw0, ↓tw1, ↓evSs, ↓evS, ↓evE, ↓evEs, ↓evI, ↓evC, ↓evO, ↓evPs, ag1, ag2, ag3, ag4, chkT, ofO, List.getElem?_cons_zero, List.getElem?_cons_succ, List.set_cons_zero, List.set_cons_succ, Bool.false_eq_true, if_false, if_true, Option.bind_some, Option.map_some, tru1, subD, setD, cmpD, cmpO, binD, bltD, asS, asL, asD, asO, keyOf, truV, cf_eq_i, cf_ne_i, cf_eq_s, cf_ne_s, cf_eq_b, cf_ne_b, cf_lt_i, cf_gt_i, cf_le_i, cf_ge_i, cf_is0, cf_isr, cf_isnot0, cf_ist, kd_dec, kd_dec2, subF, ix10, ix20, ix21, ix30, ix31, ix32, ln1, ln2, ln3, lim0, lim1, lim2, lim3, lim4, lim5, lim6, decide_true, decide_false, decide_not, Bool.not_true, Bool.not_false, Bool.true_or, Bool.or_true, Bool.false_or, Bool.or_false, not_true, not_false_eq_true, eq_self, reduceCtorEq, Bool.and_true, Bool.true_and, Bool.and_false, Bool.false_and, bkV])⟩
    · obtain ⟨zs, sz, mz, lz⟩ := slc_fl (h := h9) (ns := ns) (lo := none) (hi := some d3)
      obtain ⟨O, h10, e10, s10, kz⟩ := lparts_ok 5 (f := f) (xs := zs) (D := D') hk9 (by omega)
      have kO : Kn ns O := kz.sub mz
      have kD' : Kn ns D' := kn_backG (ns := ns) (A := []) kn_nil kA.2 a2
      have kD : Kn ns D := kn_beG kB kL.2 a1
      have lO : O.length ≤ 6 := by have := kO.len; omega
      have lD' : D'.length ≤ 6 := by have := kD'.len; omega
      have kE : Kn ns (D.filter fun q => la q.2) := kD.filter la
      have lE : (D.filter fun q => la q.2).length ≤ 6 := by have := kE.len; omega
      have kM : Kn ns (due O) := kn_due kO
      have lM : (due O).length ≤ 6 := by have := kM.len; omega
      have vD : VD D := VD_of n1 (fun x => by rw [gg]; exact v2.gt n2 x)
      have hb2 : ∀ x, be1 (gt (D.filter fun q => la q.2) x) (lkG (due O) x) = be1 (gt D' x) (lkG O x) := fun x => by rw [gt_la n1, gg, lk_due kO.1, be1_act]
      have ri2 := right_ok 3 (A := D') (B := D.filter fun q => la q.2) (P := O) (L := due O) h10 n2 kE.1 kM.1 (vD.filter (fun q => la q.2)) (by omega) (by omega) (by omega) (fun D2 e => by
        have := (kn_backG (ns := ns) (A := []) kn_nil kD'.2 e).len
        omega) hb2
      have isn : ∀ h, cmpF .isnot (.fd (KG lv D')) .non h = some true := fun _ => rfl
      have i1 : evE T (callN T 7) true (.cmp .isnot (.var 12) .non) [some S, some (.int c), some (.ref k), some (.fl [.int d1, .int d2, .int d3]), some (.fl (bs.map bv)), v5, some (.int f), some (.fl (ns.map .str)), some (.fd (KG lv A)), some (.fd (KG pv P)), some (ptv (A.filter fun q => la q.2)), some (chv (due P)), some (bkV (backG P [] A)), v13] h9 = .ok (.bl true) h9 := by rw [a2]; simp only [↓rb, ↓tw0, ↓tw1, ↓evSs, ↓evS, ↓evE, ↓evEs, ↓evI, ↓evC, ↓evO, ↓evPs, ag1, ag2, ag3, ag4, chkT, ofO, List.getElem?_cons_zero, List.getElem?_cons_succ, List.set_cons_zero, List.set_cons_succ, Bool.false_eq_true, if_false, if_true, Option.bind_some, Option.map_some, tru1, subD, setD, cmpD, cmpO, binD, bltD, asS, asL, asD, asO, keyOf, truV, cf_eq_i, cf_ne_i, cf_eq_s, cf_ne_s, cf_eq_b, cf_ne_b, cf_lt_i, cf_gt_i, cf_le_i, cf_ge_i, cf_is0, cf_isr, cf_isnot0, cf_ist, kd_dec, kd_dec2, subF, ix10, ix20, ix21, ix30, ix31, ix32, ln1, ln2, ln3, lim0, lim1, lim2, lim3, lim4, lim5, lim6, decide_true, decide_false, decide_not, Bool.not_true, Bool.not_false, Bool.true_or, Bool.or_true, Bool.false_or, Bool.or_false, not_true, not_false_eq_true, eq_self, reduceCtorEq, Bool.and_true, Bool.true_and, Bool.and_false, Bool.false_and, bkV, isn]
      have eO : evE T (callN T 7) false (.call 402 (.cons (.var 2) (.cons (.var 12) (.cons (.slc true (.var 7) .no (.so (.sub (.var 3) (.int 2)))) (.cons (.var 6) .nil))))) [some S, some (.int c), some (.ref k), some (.fl [.int d1, .int d2, .int d3]), some (.fl (bs.map bv)), v5, some (.int f), some (.fl (ns.map .str)), some (.fd (KG lv A)), some (.fd (KG pv P)), some (ptv (A.filter fun q => la q.2)), some (chv (due P)), some (bkV (backG P [] A)), v13] h9 = .ok (.fd (KG pv O)) h10 := by
        rw [a2]
        simp only [↓rb, ↓tw0, ↓tw1, ↓evSs, ↓evS, ↓evE, ↓evEs, ↓evI, ↓evC, ↓evO, ↓evPs, ag1, ag2, ag3, ag4, chkT, ofO, List.getElem?_cons_zero, List.getElem?_cons_succ, List.set_cons_zero, List.set_cons_succ, Bool.false_eq_true, if_false, if_true, Option.bind_some, Option.map_some, tru1, subD, setD, cmpD, cmpO, binD, bltD, asS, asL, asD, asO, keyOf, truV, cf_eq_i, cf_ne_i, cf_eq_s, cf_ne_s, cf_eq_b, cf_ne_b, cf_lt_i, cf_gt_i, cf_le_i, cf_ge_i, cf_is0, cf_isr, cf_isnot0, cf_ist, kd_dec, kd_dec2, subF, ix10, ix20, ix21, ix30, ix31, ix32, ln1, ln2, ln3, lim0, lim1, lim2, lim3, lim4, lim5, lim6, decide_true, decide_false, decide_not, Bool.not_true, Bool.not_false, Bool.true_or, Bool.or_true, Bool.false_or, Bool.or_false, not_true, not_false_eq_true, eq_self, reduceCtorEq, Bool.and_true, Bool.true_and, Bool.and_false, Bool.false_and, bkV, sz, e10]
      have bf := ev_bef T 5 (s := [some S, some (.int c), some (.ref k), some (.fl [.int d1, .int d2, .int d3]), some (.fl (bs.map bv)), v5, some (.int f), some (.fl (ns.map .str)), some (.fd (KG lv A)), some (.fd (KG pv P)), some (ptv (A.filter fun q => la q.2)), some (chv (due P)), some (bkV (backG P [] A)), some (.fd (KG pv O))]) (h := h10) (e := .var 10) (f := .var 11) (ev_var rfl) (ev_var rfl) kB.1 (by omega) (by omega : (due P).length < 25)
      rw [a1] at bf
      have mc := mkC_fd T 6 (s := [some S, some (.int c), some (.ref k), some (.fl [.int d1, .int d2, .int d3]), some (.fl (bs.map bv)), v5, some (.int f), some (.fl (ns.map .str)), some (.fd (KG lv A)), some (.fd (KG pv P)), some (ptv (A.filter fun q => la q.2)), some (chv (due P)), some (bkV (backG P [] A)), some (.fd (KG pv O))]) (h := h10) (e := .blt .dict true (.cons (.var 13) .nil)) (D := O) (by simp only [↓rb, ↓tw0, ↓tw1, ↓evSs, ↓evS, ↓evE, ↓evEs, ↓evI, ↓evC, ↓evO, ↓evPs, ag1, ag2, ag3, ag4, chkT, ofO, List.getElem?_cons_zero, List.getElem?_cons_succ, List.set_cons_zero, List.set_cons_succ, Bool.false_eq_true, if_false, if_true, Option.bind_some, Option.map_some, tru1, subD, setD, cmpD, cmpO, binD, bltD, asS, asL, asD, asO, keyOf, truV, cf_eq_i, cf_ne_i, cf_eq_s, cf_ne_s, cf_eq_b, cf_ne_b, cf_lt_i, cf_gt_i, cf_le_i, cf_ge_i, cf_is0, cf_isr, cf_isnot0, cf_ist, kd_dec, kd_dec2, subF, ix10, ix20, ix21, ix30, ix31, ix32, ln1, ln2, ln3, lim0, lim1, lim2, lim3, lim4, lim5, lim6, decide_true, decide_false, decide_not, Bool.not_true, Bool.not_false, Bool.true_or, Bool.or_true, Bool.false_or, Bool.or_false, not_true, not_false_eq_true, eq_self, reduceCtorEq, Bool.and_true, Bool.true_and, Bool.and_false, Bool.false_and, bltF, mkD]) kO.1 (by omega)
      have bk := back_ok 5 (D := D') (P := O) h10 n2 (by omega)
      have e3' : evE T (callN T 7) false (.call 403 (.cons (.var 12) (.cons (.var 13) .nil))) [some S, some (.int c), some (.ref k), some (.fl [.int d1, .int d2, .int d3]), some (.fl (bs.map bv)), v5, some (.int f), some (.fl (ns.map .str)), some (.fd (KG lv A)), some (.fd (KG pv P)), some (ptv (A.filter fun q => la q.2)), some (chv (due P)), some (bkV (backG P [] A)), some (.fd (KG pv O))] h10 = .ok (bkV (backG O [] D')) h10 := (ev_call2 (ev_var (x := 12) (v := .fd (KG lv D')) (by rw [a2]; rfl)) (ev_var (x := 13) rfl)).trans bk
      have c3 : evE T (callN T 7) true (.not_ (.call 406 (.cons (.meth (.var 10) 4 (.cons (.var 11) .nil)) (.cons (.frz (.mk 1 (.cons (.blt .dict true (.cons (.var 13) .nil)) .nil))) (.cons (.call 403 (.cons (.var 12) (.cons (.var 13) .nil))) .nil))))) [some S, some (.int c), some (.ref k), some (.fl [.int d1, .int d2, .int d3]), some (.fl (bs.map bv)), v5, some (.int f), some (.fl (ns.map .str)), some (.fd (KG lv A)), some (.fd (KG pv P)), some (ptv (A.filter fun q => la q.2)), some (chv (due P)), some (bkV (backG P [] A)), some (.fd (KG pv O))] h10 = .ok (.bl false) h10 := not_c (b := true) (by
        rw [evE, evEs, bf]
        simp only [rb, tw0]
        rw [evEs, mc]
        simp only [rb]
        rw [evEs, e3']
        simp only [rb, evEs]
        exact ri2)
      exact ⟨some (.fd (KG pv O)), h10, fun r => st_ifT i1 ((st_set eO).trans ((st_if0 c3).trans (by rw [evSs])))⟩
  have li := listed_ok T 6 (h := h10) kA.1 (by omega)
  have sa := same_ok T 4 (h := h10) (L := duL A) (ll_du kA.1 (by omega))
  have m1 := ev_lims T 6 (s := [some S, some (.int c), some (.ref k), some (.fl [.int d1, .int d2, .int d3]), some (.fl (bs.map bv)), v5, some (.int f), some (.fl (ns.map .str)), some (.fd (KG lv A)), some (.fd (KG pv P)), some (ptv (A.filter fun q => la q.2)), some (chv (due P)), some (bkV (backG P [] A)), y13]) (h := h10) (e := .var 10) (ev_var rfl) (by omega) kB.1
  have c4 : evE T (callN T 7) true (.not_ (.call 308 (.cons (.meth (.var 10) 2 .nil) (.cons (.call 306 (.cons (.var 8) .nil)) .nil)))) [some S, some (.int c), some (.ref k), some (.fl [.int d1, .int d2, .int d3]), some (.fl (bs.map bv)), v5, some (.int f), some (.fl (ns.map .str)), some (.fd (KG lv A)), some (.fd (KG pv P)), some (ptv (A.filter fun q => la q.2)), some (chv (due P)), some (bkV (backG P [] A)), y13] h10 = .ok (.bl false) h10 :=
    not_c (b := true) ((ev_call2 m1 ((ev_call1 (ev_var (x := 8) rfl)).trans li)).trans sa)
  have mc := mkC_fd T 6 (s := [some S, some (.int c), some (.ref k), some (.fl [.int d1, .int d2, .int d3]), some (.fl (bs.map bv)), v5, some (.int f), some (.fl (ns.map .str)), some (.fd (KG lv A)), some (.fd (KG pv P)), some (ptv (A.filter fun q => la q.2)), some (chv (due P)), some (bkV (backG P [] A)), y13]) (h := h10) (e := .blt .dict true (.cons (.var 9) .nil)) (D := P) (by simp only [↓rb, ↓tw0, ↓tw1, ↓evSs, ↓evS, ↓evE, ↓evEs, ↓evI, ↓evC, ↓evO, ↓evPs, ag1, ag2, ag3, ag4, chkT, ofO, List.getElem?_cons_zero, List.getElem?_cons_succ, List.set_cons_zero, List.set_cons_succ, Bool.false_eq_true, if_false, if_true, Option.bind_some, Option.map_some, tru1, subD, setD, cmpD, cmpO, binD, bltD, asS, asL, asD, asO, keyOf, truV, cf_eq_i, cf_ne_i, cf_eq_s, cf_ne_s, cf_eq_b, cf_ne_b, cf_lt_i, cf_gt_i, cf_le_i, cf_ge_i, cf_is0, cf_isr, cf_isnot0, cf_ist, kd_dec, kd_dec2, subF, ix10, ix20, ix21, ix30, ix31, ix32, ln1, ln2, ln3, lim0, lim1, lim2, lim3, lim4, lim5, lim6, decide_true, decide_false, decide_not, Bool.not_true, Bool.not_false, Bool.true_or, Bool.or_true, Bool.false_or, Bool.or_false, not_true, not_false_eq_true, eq_self, reduceCtorEq, Bool.and_true, Bool.true_and, Bool.and_false, Bool.false_and, bltF, mkD]) kP.1 (by omega)
  have ce := ev_ceq T 6 mc (ev_var (x := 11) (v := chv (due P)) rfl) true
  rw [decide_eq_true (show due P = due P from rfl)] at ce
  have c5 := not_t ce
  refine ⟨some (.ref k), some (.fl [.int d1, .int d2, .int d3]), some (.fl (bs.map bv)), v5, some (.int f), some (.fl (ns.map .str)), some (.fd (KG lv A)), some (.fd (KG pv P)), some (ptv (A.filter fun q => la q.2)), some (chv (due P)), some (bkV (backG P [] A)), y13, h10, ?_⟩
  refine (st_set ((ev_call1 (ev_var (x := 1) rfl)).trans e1)).trans ?_
  refine (st_set e4').trans ?_
  refine (st_set e5).trans ?_
  refine (st_set ((ev_call1 (ev_var (x := 2) rfl)).trans e6)).trans ?_
  refine (st_set ((ev_call2 (ev_var (x := 2) rfl) ev_int).trans e7)).trans ?_
  refine (st_set (v := .fd (KG lv A)) (h1 := h8) ?_).trans ?_
  · simp only [↓rb, ↓tw0, ↓tw1, ↓evSs, ↓evS, ↓evE, ↓evEs, ↓evI, ↓evC, ↓evO, ↓evPs, ag1, ag2, ag3, ag4, chkT, ofO, List.getElem?_cons_zero, List.getElem?_cons_succ, List.set_cons_zero, List.set_cons_succ, Bool.false_eq_true, if_false, if_true, Option.bind_some, Option.map_some, tru1, subD, setD, cmpD, cmpO, binD, bltD, asS, asL, asD, asO, keyOf, truV, cf_eq_i, cf_ne_i, cf_eq_s, cf_ne_s, cf_eq_b, cf_ne_b, cf_lt_i, cf_gt_i, cf_le_i, cf_ge_i, cf_is0, cf_isr, cf_isnot0, cf_ist, kd_dec, kd_dec2, subF, ix10, ix20, ix21, ix30, ix31, ix32, ln1, ln2, ln3, lim0, lim1, lim2, lim3, lim4, lim5, lim6, decide_true, decide_false, decide_not, Bool.not_true, Bool.not_false, Bool.true_or, Bool.or_true, Bool.false_or, Bool.or_false, not_true, not_false_eq_true, eq_self, reduceCtorEq, Bool.and_true, Bool.true_and, Bool.and_false, Bool.false_and, sl, e8]
  refine (st_set (v := .fd (KG pv P)) (h1 := h9) ?_).trans ?_
  · simp only [↓rb, ↓tw0, ↓tw1, ↓evSs, ↓evS, ↓evE, ↓evEs, ↓evI, ↓evC, ↓evO, ↓evPs, ag1, ag2, ag3, ag4, chkT, ofO, List.getElem?_cons_zero, List.getElem?_cons_succ, List.set_cons_zero, List.set_cons_succ, Bool.false_eq_true, if_false, if_true, Option.bind_some, Option.map_some, tru1, subD, setD, cmpD, cmpO, binD, bltD, asS, asL, asD, asO, keyOf, truV, cf_eq_i, cf_ne_i, cf_eq_s, cf_ne_s, cf_eq_b, cf_ne_b, cf_lt_i, cf_gt_i, cf_le_i, cf_ge_i, cf_is0, cf_isr, cf_isnot0, cf_ist, kd_dec, kd_dec2, subF, ix10, ix20, ix21, ix30, ix31, ix32, ln1, ln2, ln3, lim0, lim1, lim2, lim3, lim4, lim5, lim6, decide_true, decide_false, decide_not, Bool.not_true, Bool.not_false, Bool.true_or, Bool.or_true, Bool.false_or, Bool.or_false, not_true, not_false_eq_true, eq_self, reduceCtorEq, Bool.and_true, Bool.true_and, Bool.and_false, Bool.false_and, binF, sm, e9]
  refine (st_set p10).trans ?_
  refine (st_set p11).trans ?_
  refine (st_set ((ev_call2 (ev_var (x := 8) rfl) (ev_var (x := 9) rfl)).trans e12)).trans ?_
  refine (st_if0 c1).trans ((st_if0 c2).trans ((e13 _).trans ((st_if0 c4).trans ((st_if0 c5).trans ?_))))
  rw [evSs]
theorem ans (ns : List Int) (_ : ns.length ≤ 63) : ∃ h, callN lw.T 8 408 [.fl (ns.map .int)] [] = .ok (.bl true) h := by
  show ∃ h, callN T 8 408 [.fl (ns.map .int)] [] = .ok (.bl true) h
  have c408 : ∀ (a : Vl) (h : Hv), callN T (7 + 1) 408 [a] h = retOf (evSs T (callN T 7) b_law [some a, none, none, none, none, none, none, none, none, none, none, none, none, none] h) := fun _ _ => rfl
  rw [c408]
  unfold b_law
  have it : evI T (callN T 7) (.val (.bin .add true (.lst true (.cons (.int 0) .nil)) (.var 0))) [some (.fl (ns.map .int)), none, none, none, none, none, none, none, none, none, none, none, none, none] [] = .ok (.free ((0 :: ns).map .int)) [] := by
    have z : ([Vl.int 0].length + (ns.map Vl.int).length ≤ LIM) = True := by simp [LIM]; omega
    simp only [↓rb, ↓tw0, ↓tw1, ↓evSs, ↓evS, ↓evE, ↓evEs, ↓evI, ↓evC, ↓evO, ↓evPs, ag1, ag2, ag3, ag4, chkT, ofO, List.getElem?_cons_zero, List.getElem?_cons_succ, List.set_cons_zero, List.set_cons_succ, Bool.false_eq_true, if_false, if_true, Option.bind_some, Option.map_some, tru1, subD, setD, cmpD, cmpO, binD, bltD, asS, asL, asD, asO, keyOf, truV, cf_eq_i, cf_ne_i, cf_eq_s, cf_ne_s, cf_eq_b, cf_ne_b, cf_lt_i, cf_gt_i, cf_le_i, cf_ge_i, cf_is0, cf_isr, cf_isnot0, cf_ist, kd_dec, kd_dec2, subF, ix10, ix20, ix21, ix30, ix31, ix32, ln1, ln2, ln3, lim0, lim1, lim2, lim3, lim4, lim5, lim6, decide_true, decide_false, decide_not, Bool.not_true, Bool.not_false, Bool.true_or, Bool.or_true, Bool.false_or, Bool.or_false, not_true, not_false_eq_true, eq_self, reduceCtorEq, Bool.and_true, Bool.true_and, Bool.and_false, Bool.false_and, mkL, binF, chk, z, itD, List.cons_append, List.nil_append, List.map_cons]
  obtain ⟨s', h', e1, y1, y2, y3, y4, y5, y6, y7, y8, y9, y10, y11, y12, y13, rfl, _⟩ := forR_run (src := .free) (t := .var 1) (body := evSs T (callN T 7) bd)
    (fun r s h => ∃ y1 y2 y3 y4 y5 y6 y7 y8 y9 y10 y11 y12 y13, s = [some (.fl (ns.map .int)), y1, y2, y3, y4, y5, y6, y7, y8, y9, y10, y11, y12, y13] ∧ ∃ cs : List Int, r = cs.map .int)
    (fun _ _ _ _ => trivial) (fun v r s h ⟨y1, y2, y3, y4, y5, y6, y7, y8, y9, y10, y11, y12, y13, es, cs, er⟩ => by
      subst es
      cases cs with
      | nil => cases er
      | cons c cs =>
        obtain ⟨rfl, rfl⟩ := List.cons.inj er
        obtain ⟨z2, z3, z4, z5, z6, z7, z8, z9, z10, z11, z12, z13, h', e⟩ := turn1 (h := h) (S := .fl (ns.map .int)) (c := c) (v2 := y2) (v3 := y3) (v4 := y4) (v5 := y5) (v6 := y6) (v7 := y7) (v8 := y8) (v9 := y9) (v10 := y10) (v11 := y11) (v12 := y12) (v13 := y13)
        exact ⟨_, _, _, rfl, .inl e, _, _, _, _, _, _, _, _, _, _, _, _, _, rfl, cs, rfl⟩) ((0 :: ns).map .int) [some (.fl (ns.map .int)), none, none, none, none, none, none, none, none, none, none, none, none, none] [] ⟨_, _, _, _, _, _, _, _, _, _, _, _, _, rfl, _, rfl⟩
  exact ⟨h', (congrArg retOf ((st_for it ((unlock_free rfl).trans e1)).trans (st_ret (v := .bl true) (h1 := h') (by rw [evE])))).trans rfl⟩
end K01
end

theorem PySem.Challenge.cw_sceneskips_k13_notes_before_a_change_holds : PySem.Challenge.rw_sceneskips_k13_notes_before_a_change.Holds := by
  exact K01.holds_of K01.ans
